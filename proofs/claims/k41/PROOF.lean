import PyProof.Rows.All
import Wide.All
import OpenK.AllK
import Wide.FinOn
import HandS.ForMost
import HandS.ForExc
import HandS.Slots
import HandS.SlotsOwn
import HandS.Zip
import HandS.Lambda
import HandS.ExcInit
import HandS.TupAny
import HandS.TupMul
import HandS.TupLe
import HandS.IsInst
import HandS.Wide
import HandS.Flow
import HandS.Deep
import HandS.Star
import HandS.ClsMeth
import KE.KOpsOwn
import HandS.EndTab
import KE.KEqDeep
import HandS.ExcSuper
import HandS.ExcField
import KE.KExcSuper
import HandS.TryMany
import HandS.RaiseMore
import HandS.Dict
import HandS.Text
import HandS.ExcIs
import HandS.SetFor
import HandS.Strs
import KE.GoesMore
import HandS.Style
import HandS.Small
import HandS.Iter
import PyProof.StrBlock2
import KE.KExcIs
import HandS.MakeKwOnly
import HandS.ExcValue
import PySem.Challenge.RW_leastreads_k41_classes_of_errors
set_option Elab.async false
set_option linter.all false
set_option maxRecDepth 100000
set_option maxHeartbeats 4000000
/-! DL: a calculus over plain data, above the hand layer. -/
namespace DL
open PySem L2

/-! ### data -/
inductive D where
  | non | bl (b : Bool) | int (i : Int) | str (s : Str)
  | lst (xs : List D) | tup (xs : List D) | loc (n : Nat) | obj (c : Nat) (xs : List D) | cls (c : Nat)
  | dct (ks : List Key) (xs : List D) | fdc (ks : List Key) (xs : List D) | err (c : Nat) (xs : List D)

inductive Cell where
  | lst (xs : List D)
  | ins (c : Nat) (xs : List (Option D))
  | dct (ks : List Key) (xs : List D)

abbrev Store := List (Option Cell)
abbrev Lam := List (Addr × Addr)
abbrev DEnv := List (Option D)

inductive Res (α : Type) where
  | ok (a : α) (m : Store)
  | exn (c : Nat) (fs : List D) (m : Store)
  | bad

def M (α : Type) : Type := Store → Res α
def M.pure {α : Type} (a : α) : M α := fun m => .ok a m
def M.bind {α β : Type} (x : M α) (f : α → M β) : M β := fun m =>
  match x m with
  | .ok a m' => f a m'
  | .exn c fs m' => .exn c fs m'
  | .bad => .bad
def M.bad {α : Type} : M α := fun _ => .bad
def M.exn {α : Type} (c : Nat) (fs : List D) : M α := fun m => .exn c fs m
instance : Monad M where
  pure := M.pure
  bind := M.bind

/-- the law's constants: where each class stands, the fields of each error class -/
structure Kx where
  cl : Nat → Addr
  xf : Nat → List Str
  tb : List (Addr × Str) := []

/-! ### what a value stands for -/
mutual
inductive Rp (k : Kx) (K : PySem.W.Frag) (G : Hp) (L : Lam) : V → D → Prop
  | non : Rp k K G L .non .non
  | bl (b : Bool) : Rp k K G L (.bl b) (.bl b)
  | int (i : Int) : Rp k K G L (.int i) (.int i)
  | str (x : Str) : Rp k K G L (.str x) (.str x)
  | lst {a : Addr} {xs : List V} {ds : List D} : SqL K G a xs → RpA k K G L xs ds → Rp k K G L (.ref a) (.lst ds)
  | tup {a : Addr} {xs : List V} {ds : List D} : SqT K G a xs → RpA k K G L xs ds → Rp k K G L (.ref a) (.tup ds)
  | loc {n : Nat} {a b : Addr} : L[n]? = some (a, b) → Rp k K G L (.ref a) (.loc n)
  | cls (c : Nat) : Rp k K G L (.ref (k.cl c)) (.cls c)
  | dct {ks : List Key} {a : Addr} {vs : List V} {ds : List D} : G a = some (.dK (ks.zip vs)) → ks.length = vs.length → RpA k K G L vs ds → Rp k K G L (.ref a) (.dct ks ds)
  | fdc {ks : List Key} {a : Addr} {o : Obj} {vs : List V} {ds : List D} : G a = some (.frz o (.dK (ks.zip vs))) → ks.length = vs.length → RpA k K G L vs ds → Rp k K G L (.ref a) (.fdc ks ds)
  | err {c : Nat} {a dx : Addr} {vs : List V} {ds : List D} : G a = some (exo a (k.cl c) (some dx)) → G dx = some (exd dx ((k.xf c).zip vs)) → (k.xf c).length = vs.length → RpA k K G L vs ds → Rp k K G L (.ref a) (.err c ds)
  | err0 {c : Nat} {a : Addr} : k.xf c = [] → G a = some (exo a (k.cl c) none) → Rp k K G L (.ref a) (.err c [])
  | obj {c : Nat} {a dx : Addr} {vs : List V} {ds : List D} : SlX.Slt G a (k.cl c) dx (vs.map some) → RpA k K G L vs ds → Rp k K G L (.ref a) (.obj c ds)
inductive RpA (k : Kx) (K : PySem.W.Frag) (G : Hp) (L : Lam) : List V → List D → Prop
  | nil : RpA k K G L [] []
  | cons {v : V} {vs : List V} {d : D} {ds : List D} : Rp k K G L v d → RpA k K G L vs ds → RpA k K G L (v :: vs) (d :: ds)
end

section
variable {k : Kx} {K : PySem.W.Frag} {G G' : Hp} {L L' : Lam}
theorem sqT_mono {H H' : Hp} {a : Addr} {xs : List V} (e : Same H H') (h : SqT K H a xs) : SqT K H' a xs := by
  rcases h with (h | ⟨o, h⟩) | h
  · exact .inl (.inl (e _ _ h))
  · exact .inl (.inr ⟨o, e _ _ h⟩)
  · exact .inr h
theorem slt_mono {H H' : Hp} {a C dx : Addr} {vs : List (Option V)} (e : Same H H') (h : SlX.Slt H a C dx vs) : SlX.Slt H' a C dx vs := by
  rcases h with ⟨h1, h2⟩ | ⟨h1, h2⟩
  · exact .inl ⟨e _ _ h1, h2⟩
  · exact .inr ⟨e _ _ h1, e _ _ h2⟩
theorem pre_get {α : Type} {l l' : List α} {n : Nat} {x : α} (p : l <+: l') (h : l[n]? = some x) : l'[n]? = some x := by
  obtain ⟨t, rfl⟩ := p
  rw [List.getElem?_append_left (List.getElem?_eq_some_iff.mp h).1]
  exact h
mutual
theorem Rp.mono (e : Same G G') (l : L <+: L') : ∀ (d : D) (v : V), Rp k K G L v d → Rp k K G' L' v d
  | .non, _, h => by cases h; exact .non
  | .bl b, _, h => by cases h; exact .bl b
  | .int i, _, h => by cases h; exact .int i
  | .str i, _, h => by cases h; exact .str i
  | .lst ds, _, h => by
    cases h with
    | lst hs ha => exact .lst (e.seq hs) (RpA.mono e l ds _ ha)
  | .tup ds, _, h => by
    cases h with
    | tup hs ha => exact .tup (sqT_mono e hs) (RpA.mono e l ds _ ha)
  | .loc n, _, h => by
    cases h with
    | loc hn => exact .loc (pre_get l hn)
  | .obj c ds, _, h => by
    cases h with
    | obj hs ha => exact .obj (slt_mono e hs) (RpA.mono e l ds _ ha)
  | .cls c, _, h => by cases h; exact .cls c
  | .dct ks ds, _, h => by
    cases h with
    | dct hs hl ha => exact .dct (e _ _ hs) hl (RpA.mono e l ds _ ha)
  | .fdc ks ds, _, h => by
    cases h with
    | fdc hs hl ha => exact .fdc (e _ _ hs) hl (RpA.mono e l ds _ ha)
  | .err c ds, _, h => by
    cases h with
    | err h1 h2 hl ha => exact .err (e _ _ h1) (e _ _ h2) hl (RpA.mono e l ds _ ha)
    | err0 h0 h1 => exact .err0 h0 (e _ _ h1)
theorem RpA.mono (e : Same G G') (l : L <+: L') : ∀ (ds : List D) (vs : List V), RpA k K G L vs ds → RpA k K G' L' vs ds
  | [], _, h => by cases h; exact .nil
  | d :: ds, _, h => by
    cases h with
    | cons h1 h2 => exact .cons (Rp.mono e l d _ h1) (RpA.mono e l ds _ h2)
end
theorem RpA.len : ∀ {vs : List V} {ds : List D}, RpA k K G L vs ds → vs.length = ds.length
  | [], _, h => by cases h; rfl
  | v :: vs, _, h => by
    cases h with
    | cons _ h2 => simp [h2.len]
theorem RpA.get : ∀ {vs : List V} {ds : List D} {i : Nat} {d : D}, RpA k K G L vs ds → ds[i]? = some d → ∃ v, vs[i]? = some v ∧ Rp k K G L v d
  | _, [], _, _, h, e => by simp at e
  | _, d :: ds, 0, _, h, e => by
    cases h with
    | cons h1 _ => simp at e; subst e; exact ⟨_, rfl, h1⟩
  | _, d :: ds, i + 1, _, h, e => by
    cases h with
    | cons _ h2 =>
      obtain ⟨v, e1, e2⟩ := RpA.get (i := i) h2 (by simpa using e)
      exact ⟨v, by simpa using e1, e2⟩
theorem RpA.get2 : ∀ {vs : List V} {ds : List D} {i : Nat} {v : V}, RpA k K G L vs ds → vs[i]? = some v → ∃ d, ds[i]? = some d ∧ Rp k K G L v d
  | [], _, _, _, h, e => by simp at e
  | v :: vs, _, 0, _, h, e => by
    cases h with
    | cons h1 _ => simp at e; subst e; exact ⟨_, rfl, h1⟩
  | v :: vs, _, i + 1, _, h, e => by
    cases h with
    | cons _ h2 =>
      obtain ⟨d, e1, e2⟩ := RpA.get2 (i := i) h2 (by simpa using e)
      exact ⟨d, by simpa using e1, e2⟩
theorem RpA.append : ∀ {vs ws : List V} {ds es : List D}, RpA k K G L vs ds → RpA k K G L ws es → RpA k K G L (vs ++ ws) (ds ++ es)
  | [], _, _, _, h, h' => by cases h; exact h'
  | _ :: _, _, _, _, h, h' => by
    cases h with
    | cons h1 h2 => exact .cons h1 (h2.append h')
theorem RpA.take : ∀ (n : Nat) {vs : List V} {ds : List D}, RpA k K G L vs ds → RpA k K G L (vs.take n) (ds.take n)
  | 0, _, _, _ => .nil
  | n + 1, [], _, h => by cases h; exact .nil
  | n + 1, _ :: _, _, h => by
    cases h with
    | cons h1 h2 => exact .cons h1 (h2.take n)
theorem RpA.drop : ∀ (n : Nat) {vs : List V} {ds : List D}, RpA k K G L vs ds → RpA k K G L (vs.drop n) (ds.drop n)
  | 0, _, _, h => h
  | n + 1, [], _, h => by cases h; exact .nil
  | n + 1, _ :: _, _, h => by
    cases h with
    | cons h1 h2 => exact h2.drop n
theorem RpA.set : ∀ (n : Nat) {vs : List V} {ds : List D} {v : V} {d : D}, RpA k K G L vs ds → Rp k K G L v d → RpA k K G L (vs.set n v) (ds.set n d)
  | _, [], _, _, _, h, _ => by cases h; exact .nil
  | 0, _ :: _, _, _, _, h, hv => by
    cases h with
    | cons h1 h2 => exact .cons hv h2
  | n + 1, _ :: _, _, _, _, h, hv => by
    cases h with
    | cons h1 h2 => exact .cons h1 (h2.set n hv)
end

/-! ### the world -/
/-- no table of code objects -/
def NT (o : HO) : Prop := ∀ ps, o ≠ .tbl ps
/-- neither a table nor a code object -/
def NC (o : HO) : Prop := NT o ∧ ∀ c q, o ≠ LamX.CodeO c q
/-- nothing is tracked there, but a table, perhaps -/
def Bare (H : Hp) (a : Addr) : Prop := ∀ o, H a = some o → ¬ NT o
theorem bare_none {H : Hp} {a : Addr} (h : H a = none) : Bare H a := fun o e => by
  rw [h] at e
  cases e
theorem ne_of_bare {H : Hp} {a b : Addr} {o : HO} (h : H a = some o) (n : NT o) (q : Bare H b) : a ≠ b := fun e => by
  subst e
  exact q o h n
theorem tabs_upd {T : List (Addr × Str)} {H : Hp} {p : Addr} {o : HO} (t : LamX.Tabs T H) (h : ∀ u, H p = some u → NC u) : LamX.Tabs T (upd H p o) := fun q hq => by
  obtain ⟨ps, h1, h2, h3⟩ := t q hq
  have ne : ∀ {b : Addr} {u : HO}, H b = some u → ¬ NC u → b ≠ p := fun {b u} e n z => by
    subst z
    exact n (h u e)
  refine ⟨ps, by rw [upd_ne (ne h1 fun z => z.1 ps rfl)]; exact h1, h2, fun pos cv hc => ?_⟩
  obtain ⟨c, e1, e2⟩ := h3 pos cv hc
  exact ⟨c, e1, by rw [upd_ne (ne e2 fun z => z.2 _ _ rfl)]; exact e2⟩
theorem nc_none {H : Hp} {p : Addr} (h : H p = none) : ∀ u, H p = some u → NC u := fun u e => by
  rw [h] at e
  cases e
theorem nc_lst (vs : List V) : NC (.lst vs) := ⟨fun _ e => (by cases e), fun c q e => (by unfold LamX.CodeO at e; cases e)⟩
theorem nc_ins (a b : Addr) (fs : List (Str × V)) : NC (.ins a b fs) := ⟨fun _ e => (by cases e), fun c q e => (by unfold LamX.CodeO at e; cases e)⟩
theorem nc_own (a : Addr) : NC (.own a) := ⟨fun _ e => (by cases e), fun c q e => (by unfold LamX.CodeO at e; cases e)⟩
theorem nc_xd (fs : List (Str × V)) : NC (.xd fs) := ⟨fun _ e => (by cases e), fun c q e => (by unfold LamX.CodeO at e; cases e)⟩
theorem nc_at {H : Hp} {p : Addr} {o : HO} (h : H p = some o) (n : NC o) : ∀ u, H p = some u → NC u := fun u e => by
  rw [h] at e
  cases e
  exact n
/-- a heap with the same object everywhere up to n -/
def fillH (o : Obj) (n : Nat) : Heap := ⟨Array.replicate n o, {}⟩
theorem fillH_get {o : Obj} {n b : Nat} {u : Obj} (e : (fillH o n).get? b = some u) : u = o := by
  unfold fillH Heap.get? at e
  by_cases hb : b < n
  · simp only [Array.getElem?_replicate, hb, if_true] at e
    split at e
    · cases e
    · exact (Option.some.inj e).symm
  · simp only [Array.getElem?_replicate, hb, if_false] at e
    cases e
theorem fillH_at {cl : Value} {vs : Array Value} {n b : Nat} (hb : b < n) : (fillH ({ cls := cl, data := .fields vs } : Obj) n).get? b = some ({ cls := cl, data := .fields vs } : Obj) := by
  unfold fillH Heap.get?
  simp only [Array.getElem?_replicate, hb, if_true]
theorem nc_slO (a C dx : Addr) (vs : List (Option V)) : NC (SlX.SlO a C dx vs) := by
  refine ⟨fun _ e => (by unfold SlX.SlO at e; cases e), fun c q e => ?_⟩
  unfold SlX.SlO LamX.CodeO at e
  have e2 := HO.ext.inj e
  have h2 := congrFun e2 (fillH { cls := .none, data := .fields #[.none, .str q 0] } (c + 1))
  have h3 : ∃ sl : Array (Option Value), (fillH { cls := .none, data := .fields #[.none, .str q 0] } (c + 1)).get? a = some { PySem.W.instObj C dx with slots := sl } ∧ SlX.SlR vs sl := by
    rw [h2]
    exact ⟨_, #[.none, .str q 0], 0, fillH_at (Nat.lt_succ_self c), rfl, rfl⟩
  obtain ⟨sl, h4, _⟩ := h3
  have h5 := fillH_get h4
  have h6 := congrArg Obj.data h5
  cases h6
def RpO (k : Kx) (K : PySem.W.Frag) (G : Hp) (L : Lam) (vs : List (Option V)) (ss : List (Option D)) : Prop :=
  vs.length = ss.length ∧ ∀ (i : Nat) (d : D), ss[i]? = some (some d) → ∃ v, vs[i]? = some (some v) ∧ Rp k K G L v d
def CellR (k : Kx) (K : PySem.W.Frag) (G H : Hp) (L : Lam) (a b : Addr) : Cell → Prop
  | .lst ds => b = a ∧ ∃ vs, H a = some (.lst vs) ∧ RpA k K G L vs ds
  | .ins c ss => ∃ vs, SlX.Slt H a (k.cl c) b vs ∧ RpO k K G L vs ss ∧ (∃ o, H b = some o ∧ NC o) ∧ a ≠ b
  | .dct ks ds => b = a ∧ ∃ vs, H a = some (.dK (ks.zip vs)) ∧ ks.length = vs.length ∧ RpA k K G L vs ds
def Live (m : Store) (n : Nat) : Prop := ∃ c, m[n]? = some (some c)
structure Wd (k : Kx) (K : PySem.W.Frag) (G H : Hp) (L : Lam) (m : Store) : Prop where
  ext : Same G H
  len : L.length = m.length
  tk : ∀ p ∈ L, (∃ o, H p.1 = some o ∧ NT o) ∧ ∃ o, H p.2 = some o ∧ NT o
  tab : LamX.Tabs k.tb H
  gt : ∀ a o, G a = some o → NT o
  cell : ∀ (n : Nat) (c : Cell), m[n]? = some (some c) → ∃ a b, L[n]? = some (a, b) ∧ G a = none ∧ G b = none ∧ CellR k K G H L a b c
  apart : ∀ (i j : Nat) (a b a' b' : Addr), Live m i → Live m j → i ≠ j → L[i]? = some (a, b) → L[j]? = some (a', b') → a ≠ a' ∧ a ≠ b' ∧ b ≠ a' ∧ b ≠ b'

/-- an error's own dict, by its fields -/
def XR (k : Kx) (K : PySem.W.Frag) (G : Hp) (L : Lam) (c : Nat) (fs : List D) (d : Addr) : Prop :=
  ∃ gs : List V, gs.length = (k.xf c).length ∧ G d = some (.xd ((k.xf c).zip gs)) ∧ RpA k K G L gs fs

/-- a step of the world: data grow, locations are added, all else that stands stays and stays out of the data -/
structure Stp (G H : Hp) (L : Lam) (G' H' : Hp) (L' : Lam) : Prop where
  g : Same G G'
  l : L <+: L'
  tr : ∀ a, Bare H' a → Bare H a
  keep : ∀ a o, H a = some o → NT o → (∀ p ∈ L, a ≠ p.1 ∧ a ≠ p.2) → H' a = some o ∧ (G a = none → G' a = none)
  nl : ∀ p ∈ L', p ∈ L ∨ (Bare H p.1 ∧ Bare H p.2)
theorem Stp.refl (G H : Hp) (L : Lam) : Stp G H L G H L := ⟨Same.refl G, List.prefix_rfl, fun _ h => h, fun a o h _ _ => ⟨h, id⟩, fun p h => .inl h⟩
theorem Stp.trans {G H G1 H1 G2 H2 : Hp} {L L1 L2 : Lam} (a : Stp G H L G1 H1 L1) (b : Stp G1 H1 L1 G2 H2 L2) : Stp G H L G2 H2 L2 where
  g := a.g.trans b.g
  l := a.l.trans b.l
  tr := fun x h => a.tr x (b.tr x h)
  keep := fun x o h nt n => by
    obtain ⟨h1, g1⟩ := a.keep x o h nt n
    obtain ⟨h2, g2⟩ := b.keep x o h1 nt fun p hp => by
      rcases a.nl p hp with q | ⟨q1, q2⟩
      · exact n p q
      · exact ⟨ne_of_bare h nt q1, ne_of_bare h nt q2⟩
    exact ⟨h2, fun q => g2 (g1 q)⟩
  nl := fun p hp => by
    rcases b.nl p hp with q | ⟨q1, q2⟩
    · exact a.nl p q
    · exact .inr ⟨a.tr _ q1, a.tr _ q2⟩

def Good {α : Type} (k : Kx) (K : PySem.W.Frag) (E : XK) (G H : Hp) (L : Lam) (r : Res α) (Q : α → Store → Hp → Hp → Lam → Prop) : Prop :=
  match r with
  | .ok a m => ∀ G' H' L', Stp G H L G' H' L' → Wd k K G' H' L' m → Q a m G' H' L'
  | .exn c fs m => ∀ G' H' L' d, Stp G H L G' H' L' → Wd k K G' H' L' m → XR k K G' L' c fs d → E (.ref (k.cl c)) (some d) H'
  | .bad => False

section
variable {k : Kx} {K : PySem.W.Frag} {E : XK} {G H : Hp} {L : Lam} {α β : Type}
theorem pre_refl (l : List α) : l <+: l := List.prefix_rfl
theorem Good.mono {r : Res α} {Q Q' : α → Store → Hp → Hp → Lam → Prop} (h : Good k K E G H L r Q) (q : ∀ a m G' H' L', Stp G H L G' H' L' → Wd k K G' H' L' m → Q a m G' H' L' → Q' a m G' H' L') : Good k K E G H L r Q' := by
  cases r with
  | ok a m => exact fun G' H' L' e w => q a m G' H' L' e w (h G' H' L' e w)
  | exn c fs m => exact h
  | bad => exact h
theorem Good.up {G0 H0 : Hp} {L0 : Lam} {r : Res α} {Q : α → Store → Hp → Hp → Lam → Prop} (h : Good k K E G0 H0 L0 r Q) (e : Stp G0 H0 L0 G H L) : Good k K E G H L r Q := by
  cases r with
  | ok a m => exact fun G' H' L' e' w => h G' H' L' (e.trans e') w
  | exn c fs m => exact fun G' H' L' d e' w x => h G' H' L' d (e.trans e') w x
  | bad => exact h
theorem Good.bind {x : M α} {f : α → M β} {m : Store} {Q : β → Store → Hp → Hp → Lam → Prop} (h : Good k K E G H L ((x >>= f) m) Q) :
    Good k K E G H L (x m) (fun a m' G' H' L' => Good k K E G' H' L' (f a m') Q) := by
  have h' : Good k K E G H L (M.bind x f m) Q := h
  unfold M.bind at h'
  cases e : x m with
  | ok a m' =>
    rw [e] at h'
    exact fun G' H' L' e1 w => Good.up h' e1
  | exn c fs m' =>
    rw [e] at h'
    exact h'
  | bad =>
    rw [e] at h'
    exact h'
theorem Good.ret {a : α} {m : Store} {Q : α → Store → Hp → Hp → Lam → Prop} (h : Good k K E G H L ((pure a : M α) m) Q) (w : Wd k K G H L m) : Q a m G H L :=
  h G H L (Stp.refl G H L) w
theorem Good.okE {a : α} {m : Store} {Q : α → Store → Hp → Hp → Lam → Prop} (h : Good k K E G H L (.ok a m) Q) (w : Wd k K G H L m) : Q a m G H L :=
  h G H L (Stp.refl G H L) w
end

/-! ### environments -/
def Sg (k : Kx) (K : PySem.W.Frag) (G : Hp) (L : Lam) (s : L2.St) (e : DEnv) : Prop :=
  s.length = e.length ∧ ∀ (i : Nat) (d : D), e[i]? = some (some d) → ∃ v, s[i]? = some (some v) ∧ Rp k K G L v d
section
variable {k : Kx} {K : PySem.W.Frag} {G G' : Hp} {L L' : Lam} {s : L2.St} {e : DEnv}
theorem Sg.mono (h : Sg k K G L s e) (g : Same G G') (l : L <+: L') : Sg k K G' L' s e :=
  ⟨h.1, fun i d q => let ⟨v, a, b⟩ := h.2 i d q; ⟨v, a, Rp.mono g l _ _ b⟩⟩
theorem Sg.set (h : Sg k K G L s e) (i : Nat) {v : V} {d : D} (r : Rp k K G L v d) : Sg k K G L (s.set i (some v)) (e.set i (some d)) := by
  refine ⟨by rw [List.length_set, List.length_set]; exact h.1, fun j d' q => ?_⟩
  by_cases hj : i = j
  · subst hj
    by_cases hi : i < e.length
    · rw [List.getElem?_set_self hi] at q
      cases q
      exact ⟨v, by rw [List.getElem?_set_self (by rw [h.1]; exact hi)], r⟩
    · rw [List.getElem?_eq_none (by simpa using hi)] at q
      cases q
  · rw [List.getElem?_set_ne hj] at q
    obtain ⟨v', a, b⟩ := h.2 j d' q
    exact ⟨v', by rw [List.getElem?_set_ne hj]; exact a, b⟩
end

/-! ### outcomes of statements -/
inductive Out where
  | nx (e : DEnv) | rt (d : D) | bk (e : DEnv) | ct (e : DEnv)

section
variable (k : Kx) (K : PySem.W.Frag) (E : XK)
def dE (m : DEnv → M D) : TE := fun s H Q => ∃ e G L μ, Sg k K G L s e ∧ Wd k K G H L μ ∧ Good k K E G H L (m e μ) fun d _ G' H' L' => ∀ v, Rp k K G' L' v d → Q v H'
def dT (m : DEnv → M Bool) : TT := fun s H Q => ∃ e G L μ, Sg k K G L s e ∧ Wd k K G H L μ ∧ Good k K E G H L (m e μ) fun b _ _ H' _ => Q b H'
def dA (m : DEnv → M (List D)) : TA := fun s H Q => ∃ e G L μ, Sg k K G L s e ∧ Wd k K G H L μ ∧ Good k K E G H L (m e μ) fun ds _ G' H' L' => ∀ vs, RpA k K G' L' vs ds → Q vs H'
def OutOk (Ds : Ends) (o : Out) (G H : Hp) (L : Lam) : Prop :=
  match o with
  | .nx e => ∀ s, Sg k K G L s e → Ds.nx s H
  | .rt d => ∀ v, Rp k K G L v d → Ds.rt v H
  | .bk e => ∀ s, Sg k K G L s e → Ds.bk s H
  | .ct e => ∀ s, Sg k K G L s e → Ds.ct s H
def dS (m : DEnv → M Out) : TS := fun Ds s H => ∃ e G L μ, Sg k K G L s e ∧ Wd k K G H L μ ∧ Good k K E G H L (m e μ) fun o _ G' H' L' => OutOk k K Ds o G' H' L'
/-- a target: d is handed in; ts: the slots that it may store to -/
def dG (ts : List Nat) (g : D → DEnv → M DEnv) : TG := fun v s H Q => ∃ d e G L μ, Sg k K G L s e ∧ Rp k K G L v d ∧ Wd k K G H L μ ∧ Good k K E G H L (g d e μ) fun e' _ G' H' L' => ∀ s', Sg k K G' L' s' e' → (s'.length = s.length ∧ ∀ i, i ∉ ts → s'[i]? = s[i]?) → Q s' H'
end

abbrev JE (k : Kx) (X : Cx) (E : XK) (e : Expr) (m : DEnv → M D) : Prop := PE X e (dE k X.K E m)
abbrev JT (k : Kx) (X : Cx) (E : XK) (e : Expr) (m : DEnv → M Bool) : Prop := PT X e (dT k X.K E m)
abbrev JW (k : Kx) (X : Cx) (E : XK) (e : Expr) (m : DEnv → M Bool) : Prop := PW X e (dT k X.K E m)
abbrev JA (k : Kx) (X : Cx) (E : XK) (es : List Expr) (m : DEnv → M (List D)) : Prop := PA X es (dA k X.K E m)
abbrev JS (k : Kx) (X : Cx) (E : XK) (st : Stmt) (m : DEnv → M Out) : Prop := PS X st (dS k X.K E m)
abbrev JB (k : Kx) (X : Cx) (E : XK) (st : List Stmt) (m : DEnv → M Out) : Prop := PSs X st (dS k X.K E m)
abbrev JG (k : Kx) (X : Cx) (E : XK) (e : Expr) (ts : List Nat) (g : D → DEnv → M DEnv) : Prop := PG X e (dG k X.K E ts g)

section
variable {X : Cx}
theorem PE.imp {e : Expr} {t t' : TE} (h : PE X e t) (q : ∀ s H Q, t' s H Q → t s H Q) : PE X e t' := ⟨fun pins s σ H Q I hw => h.run pins s σ H Q I (q _ _ _ hw)⟩
theorem PT.imp {e : Expr} {t t' : TT} (h : PT X e t) (q : ∀ s H Q, t' s H Q → t s H Q) : PT X e t' := ⟨fun pins s σ H Q I hw => h.run pins s σ H Q I (q _ _ _ hw)⟩
theorem PW.imp {e : Expr} {t t' : TT} (h : PW X e t) (q : ∀ s H Q, t' s H Q → t s H Q) : PW X e t' := ⟨fun wh pins s σ H Q I hw => h.run wh pins s σ H Q I (q _ _ _ hw)⟩
theorem PA.imp {e : List Expr} {t t' : TA} (h : PA X e t) (q : ∀ s H Q, t' s H Q → t s H Q) : PA X e t' := ⟨fun pos pins s σ H Q I hw => h.run pos pins s σ H Q I (q _ _ _ hw)⟩
theorem PS.imp {e : Stmt} {t t' : TS} (h : PS X e t) (q : ∀ D s H, t' D s H → t D s H) : PS X e t' := ⟨fun pins s σ H D I hw => h.run pins s σ H D I (q _ _ _ hw)⟩
theorem PSs.imp {e : List Stmt} {t t' : TS} (h : PSs X e t) (q : ∀ D s H, t' D s H → t D s H) : PSs X e t' := ⟨fun pins s σ H D I hw => h.run pins s σ H D I (q _ _ _ hw)⟩
theorem PG.imp {e : Expr} {t t' : TG} (h : PG X e t) (q : ∀ v s H Q, t' v s H Q → t v s H Q) : PG X e t' := ⟨fun pins s σ H x u Q I r hw => h.run pins s σ H x u Q I r (q _ _ _ _ hw)⟩
end
end DL

namespace DL
open PySem L2

/-! ### changes of the world -/
section
variable {k : Kx} {K : PySem.W.Frag} {G H : Hp} {L : Lam} {m : Store}
theorem Same.new {H : Hp} {p : Addr} {o : HO} (h : H p = none) : Same H (upd H p o) := fun b u e => by
  rw [upd_ne (ne_of_none e h)]
  exact e
theorem some_upd {H : Hp} {a x : Addr} {o : HO} (h : ∃ u, H x = some u) : ∃ u, upd H a o x = some u := by
  by_cases e : x = a
  · subst e
    exact ⟨o, upd_same⟩
  · rw [upd_ne e]
    exact h
theorem nt_upd {H : Hp} {a x : Addr} {o : HO} (n : NT o) (h : ∃ u, H x = some u ∧ NT u) : ∃ u, upd H a o x = some u ∧ NT u := by
  by_cases e : x = a
  · subst e
    exact ⟨o, upd_same, n⟩
  · rw [upd_ne e]
    exact h
theorem nt_keep {H : Hp} {a x : Addr} {o : HO} (hn : H a = none) (h : ∃ u, H x = some u ∧ NT u) : ∃ u, upd H a o x = some u ∧ NT u := by
  obtain ⟨u, e, n⟩ := h
  rw [upd_ne (ne_of_none e hn)]
  exact ⟨u, e, n⟩
theorem gt_upd {G : Hp} {p : Addr} {o : HO} (n : NT o) (g : ∀ a o, G a = some o → NT o) : ∀ a u, upd G p o a = some u → NT u := fun a u e => by
  by_cases h : a = p
  · subst h
    rw [upd_same] at e
    cases e
    exact n
  · rw [upd_ne h] at e
    exact g a u e
theorem bare_upd {H : Hp} {p : Addr} {o : HO} (h : Bare H p) {a : Addr} (e : Bare (upd H p o) a) : Bare H a := by
  by_cases ha : a = p
  · subst ha
    exact h
  · intro u q
    exact e u (by rw [upd_ne ha]; exact q)
theorem Wd.gnone (w : Wd k K G H L m) {p : Addr} (h : H p = none) : G p = none := by
  cases e : G p with
  | none => rfl
  | some o =>
    rw [w.ext p o e] at h
    cases h
theorem CellR.addr {a b : Addr} {c : Cell} (r : CellR k K G H L a b c) : (∃ o, H a = some o) ∧ ∃ o, H b = some o := by
  cases c with
  | lst ds =>
    obtain ⟨rfl, vs, h, _⟩ := r
    exact ⟨⟨_, h⟩, ⟨_, h⟩⟩
  | dct ks ds =>
    obtain ⟨rfl, vs, h, _⟩ := r
    exact ⟨⟨_, h⟩, ⟨_, h⟩⟩
  | ins c ss =>
    obtain ⟨vs, h, _, ⟨ob, hb, _⟩, _⟩ := r
    refine ⟨?_, ⟨ob, hb⟩⟩
    rcases h with ⟨h1, _⟩ | ⟨h1, _⟩
    · exact ⟨_, h1⟩
    · exact ⟨_, h1⟩
/-- H and G may grow where the cell does not look -/
theorem CellR.step {G' H' : Hp} {L' : Lam} {a b : Addr} {c : Cell} (r : CellR k K G H L a b c) (g : Same G G') (l : L <+: L') (ha : H' a = H a) (hb : H' b = H b) : CellR k K G' H' L' a b c := by
  cases c with
  | lst ds =>
    obtain ⟨rfl, vs, h, q⟩ := r
    exact ⟨rfl, vs, by rw [ha]; exact h, RpA.mono g l _ _ q⟩
  | dct ks ds =>
    obtain ⟨rfl, vs, h, hl, q⟩ := r
    exact ⟨rfl, vs, by rw [ha]; exact h, hl, RpA.mono g l _ _ q⟩
  | ins c ss =>
    obtain ⟨vs, h, q, ⟨o, ho, nc⟩, ne⟩ := r
    refine ⟨vs, ?_, ⟨q.1, fun i d e => let ⟨v, x, y⟩ := q.2 i d e; ⟨v, x, Rp.mono g l _ _ y⟩⟩, ⟨o, by rw [hb]; exact ho, nc⟩, ne⟩
    rcases h with ⟨h1, h2⟩ | ⟨h1, h2⟩
    · exact .inl ⟨by rw [ha]; exact h1, h2⟩
    · exact .inr ⟨by rw [ha]; exact h1, by rw [hb]; exact h2⟩
/-- a new object, into the data -/
theorem Wd.new (w : Wd k K G H L m) {p : Addr} {o : HO} (h : H p = none) (no : NT o := by exact fun _ e => (by cases e)) : Wd k K (upd G p o) (upd H p o) L m where
  ext := fun b u e => by
    by_cases hb : b = p
    · subst hb
      rw [upd_same] at e ⊢
      exact e
    · rw [upd_ne hb] at e ⊢
      exact w.ext b u e
  len := w.len
  tk := fun q hq => ⟨nt_upd no (w.tk q hq).1, nt_upd no (w.tk q hq).2⟩
  tab := tabs_upd w.tab (nc_none h)
  gt := gt_upd no w.gt
  cell := fun n c e => by
    obtain ⟨a, b, hl, ga, gb, r⟩ := w.cell n c e
    obtain ⟨⟨oa, ha⟩, ⟨ob, hb⟩⟩ := r.addr
    have na := ne_of_none ha h
    have nb := ne_of_none hb h
    exact ⟨a, b, hl, by rw [upd_ne na]; exact ga, by rw [upd_ne nb]; exact gb, r.step (Same.new (w.gnone h)) (pre_refl L) (upd_ne na) (upd_ne nb)⟩
  apart := w.apart
/-- a new object, not of the data -/
theorem Wd.junk (w : Wd k K G H L m) {p : Addr} {o : HO} (h : H p = none) : Wd k K G (upd H p o) L m where
  ext := fun b u e => by
    have q := w.ext b u e
    rw [upd_ne (ne_of_none q h)]
    exact q
  len := w.len
  tk := fun q hq => ⟨nt_keep h (w.tk q hq).1, nt_keep h (w.tk q hq).2⟩
  tab := tabs_upd w.tab (nc_none h)
  gt := w.gt
  cell := fun n c e => by
    obtain ⟨a, b, hl, ga, gb, r⟩ := w.cell n c e
    obtain ⟨⟨oa, ha⟩, ⟨ob, hb⟩⟩ := r.addr
    exact ⟨a, b, hl, ga, gb, r.step (Same.refl G) (pre_refl L) (upd_ne (ne_of_none ha h)) (upd_ne (ne_of_none hb h))⟩
  apart := w.apart
theorem live_app {m : Store} {c : Option Cell} {i : Nat} (h : Live (m ++ [c]) i) : Live m i ∨ i = m.length := by
  obtain ⟨x, hx⟩ := h
  by_cases hi : i < m.length
  · exact .inl ⟨x, by rw [List.getElem?_append_left hi] at hx; exact hx⟩
  · right
    have h1 := (List.getElem?_eq_some_iff.mp hx).1
    simp at h1
    omega
theorem live_lt {m : Store} {i : Nat} (h : Live m i) : i < m.length := by
  obtain ⟨c, e⟩ := h
  exact (List.getElem?_eq_some_iff.mp e).1
/-- a new mutable list -/
theorem Wd.newLoc (w : Wd k K G H L m) {p : Addr} {vs : List V} {ds : List D} (h : H p = none) (r : RpA k K G L vs ds) : Wd k K G (upd H p (.lst vs)) (L ++ [(p, p)]) (m ++ [some (.lst ds)]) where
  ext := (w.junk h).ext
  len := by simp [w.len]
  tk := fun q hq => by
    rcases List.mem_append.mp hq with z | z
    · exact ⟨nt_keep h (w.tk q z).1, nt_keep h (w.tk q z).2⟩
    · simp at z
      subst z
      exact ⟨⟨_, upd_same, (nc_lst vs).1⟩, ⟨_, upd_same, (nc_lst vs).1⟩⟩
  tab := tabs_upd w.tab (nc_none h)
  gt := w.gt
  cell := fun n c e => by
    by_cases hn : n < m.length
    · rw [List.getElem?_append_left hn] at e
      obtain ⟨a, b, hl, ga, gb, r'⟩ := w.cell n c e
      obtain ⟨⟨oa, ha⟩, ⟨ob, hb⟩⟩ := r'.addr
      exact ⟨a, b, pre_get (List.prefix_append _ _) hl, ga, gb, r'.step (Same.refl G) (List.prefix_append _ _) (upd_ne (ne_of_none ha h)) (upd_ne (ne_of_none hb h))⟩
    · have h1 := (List.getElem?_eq_some_iff.mp e).1
      simp at h1
      have e0 : n = m.length := by omega
      subst e0
      simp at e
      subst e
      exact ⟨p, p, by rw [← w.len]; simp, w.gnone h, w.gnone h, rfl, vs, upd_same, RpA.mono (Same.refl G) (List.prefix_append _ _) _ _ r⟩
  apart := fun i j a b a' b' li lj ne ha hb => by
    have old : ∀ {i : Nat} {a b : Addr}, Live m i → (L ++ [(p, p)])[i]? = some (a, b) → a ≠ p ∧ b ≠ p ∧ L[i]? = some (a, b) := fun {i a b} li ha => by
      have hlt : i < L.length := by rw [w.len]; exact live_lt li
      rw [List.getElem?_append_left hlt] at ha
      obtain ⟨c, hc⟩ := li
      obtain ⟨a0, b0, hl, _, _, r'⟩ := w.cell i c hc
      rw [hl] at ha
      cases ha
      obtain ⟨⟨oa, ha⟩, ⟨ob, hb⟩⟩ := r'.addr
      exact ⟨ne_of_none ha h, ne_of_none hb h, hl⟩
    have new : ∀ {a b : Addr}, (L ++ [(p, p)])[m.length]? = some (a, b) → a = p ∧ b = p := fun {a b} ha => by
      rw [← w.len] at ha
      simp at ha
      exact ⟨ha.1.symm, ha.2.symm⟩
    rcases live_app li with li | e1
    · obtain ⟨n1, n2, q1⟩ := old li ha
      rcases live_app lj with lj | e2
      · obtain ⟨n3, n4, q2⟩ := old lj hb
        exact w.apart i j a b a' b' li lj ne q1 q2
      · subst e2
        obtain ⟨rfl, rfl⟩ := new hb
        exact ⟨n1, n1, n2, n2⟩
    · subst e1
      obtain ⟨rfl, rfl⟩ := new ha
      rcases live_app lj with lj | e2
      · obtain ⟨n3, n4, q2⟩ := old lj hb
        exact ⟨n3.symm, n4.symm, n3.symm, n4.symm⟩
      · exact absurd e2.symm ne
theorem live_set {m : Store} {n : Nat} {c c' : Cell} {i : Nat} (hn : m[n]? = some (some c)) (h : Live (m.set n (some c')) i) : Live m i := by
  obtain ⟨x, hx⟩ := h
  by_cases e : n = i
  · subst e
    exact ⟨c, hn⟩
  · rw [List.getElem?_set_ne e] at hx
    exact ⟨x, hx⟩
/-- a mutable list changed -/
theorem Wd.setLoc (w : Wd k K G H L m) {n : Nat} {a b : Addr} {ds' : List D} {vs : List V} {ds : List D} (hn : m[n]? = some (some (.lst ds'))) (hl : L[n]? = some (a, b)) (r : RpA k K G L vs ds) : Wd k K G (upd H a (.lst vs)) L (m.set n (some (.lst ds))) := by
  obtain ⟨a0, b0, hl0, ga, gb, r0⟩ := w.cell n _ hn
  rw [hl] at hl0
  cases hl0
  obtain ⟨rfl, vs0, h0, _⟩ := id r0
  refine ⟨fun c u e => ?_, by rw [List.length_set]; exact w.len, fun q hq => ⟨nt_upd (nc_lst vs).1 (w.tk q hq).1, nt_upd (nc_lst vs).1 (w.tk q hq).2⟩, tabs_upd w.tab (nc_at h0 (nc_lst vs0)), w.gt, fun i c e => ?_, fun i j a b a' b' li lj => w.apart i j a b a' b' (live_set hn li) (live_set hn lj)⟩
  · have : c ≠ b := fun z => by
      rw [z, ga] at e
      cases e
    rw [upd_ne this]
    exact w.ext c u e
  · by_cases hi : n = i
    · subst hi
      rw [List.getElem?_set_self (List.getElem?_eq_some_iff.mp hn).1] at e
      cases e
      exact ⟨b, b, hl, ga, ga, rfl, vs, upd_same, r⟩
    · rw [List.getElem?_set_ne hi] at e
      obtain ⟨a', b', hl', ga', gb', r'⟩ := w.cell i c e
      obtain ⟨n1, n2, n3, n4⟩ := w.apart i n a' b' b b ⟨c, e⟩ ⟨_, hn⟩ (Ne.symm hi) hl' hl
      exact ⟨a', b', hl', ga', gb', r'.step (Same.refl G) (pre_refl L) (upd_ne n1) (upd_ne n3)⟩
theorem Wd.look (w : Wd k K G H L m) {n : Nat} {ds : List D} (hn : m[n]? = some (some (.lst ds))) {v : V} (r : Rp k K G L v (.loc n)) : ∃ a vs, v = .ref a ∧ L[n]? = some (a, a) ∧ G a = none ∧ H a = some (.lst vs) ∧ RpA k K G L vs ds := by
  obtain ⟨a0, b0, hl0, ga, gb, rfl, vs, h, q⟩ := w.cell n _ hn
  cases r with
  | loc hl =>
    rw [hl] at hl0
    cases hl0
    exact ⟨_, vs, rfl, hl, ga, h, q⟩
/-- dead cells: nothing is asked of them -/
theorem live_kill {m : Store} {n i : Nat} (h : Live (m.set n none) i) : Live m i ∧ i ≠ n := by
  obtain ⟨x, hx⟩ := h
  by_cases e : n = i
  · subst e
    by_cases hn : n < m.length
    · rw [List.getElem?_set_self hn] at hx
      cases hx
    · rw [List.getElem?_eq_none (by simpa using hn)] at hx
      cases hx
  · rw [List.getElem?_set_ne e] at hx
    exact ⟨⟨x, hx⟩, Ne.symm e⟩
/-- a mutable list becomes data -/
theorem Wd.freeze (w : Wd k K G H L m) {n : Nat} {a : Addr} {vs : List V} {ds : List D} (hn : m[n]? = some (some (.lst ds))) (hl : L[n]? = some (a, a)) (h : H a = some (.lst vs)) : Wd k K (upd G a (.lst vs)) H L (m.set n none) := by
  obtain ⟨a0, b0, hl0, ga, gb, r0⟩ := w.cell n _ hn
  rw [hl] at hl0
  cases hl0
  refine ⟨fun c u e => ?_, by rw [List.length_set]; exact w.len, w.tk, w.tab, gt_upd (nc_lst vs).1 w.gt, fun i c e => ?_, fun i j a b a' b' li lj => w.apart i j a b a' b' (live_kill li).1 (live_kill lj).1⟩
  · by_cases hc : c = a
    · subst hc
      rw [upd_same] at e
      cases e
      exact h
    · rw [upd_ne hc] at e
      exact w.ext c u e
  · have hni : n ≠ i := fun z => (live_kill ⟨c, e⟩).2 z.symm
    rw [List.getElem?_set_ne hni] at e
    obtain ⟨a', b', hl', ga', gb', r'⟩ := w.cell i c e
    obtain ⟨n1, n2, n3, n4⟩ := w.apart i n a' b' a a ⟨c, e⟩ ⟨_, hn⟩ (Ne.symm hni) hl' hl
    exact ⟨a', b', hl', by rw [upd_ne n1]; exact ga', by rw [upd_ne n3]; exact gb', r'.step (Same.new ga) (pre_refl L) rfl rfl⟩

/-! ### instances with slots -/
/-- a fresh instance -/
theorem Wd.newIns (w : Wd k K G H L m) {x dx : Addr} {c : Nat} (hx : H x = none) (hd : H dx = none) (ne : dx ≠ x) :
    Wd k K G (upd (upd H dx (.own x)) x (.ins (k.cl c) dx [])) (L ++ [(x, dx)]) (m ++ [some (.ins c [])]) := by
  have w1 : Wd k K G (upd (upd H dx (.own x)) x (.ins (k.cl c) dx [])) L m := (w.junk (o := .own x) hd).junk (p := x) (o := .ins (k.cl c) dx []) (by rw [upd_ne ne.symm]; exact hx)
  have old : ∀ {i : Nat} {a b : Addr}, Live m i → (L ++ [(x, dx)])[i]? = some (a, b) → (a ≠ x ∧ a ≠ dx ∧ b ≠ x ∧ b ≠ dx) ∧ L[i]? = some (a, b) := fun {i a b} li ha => by
    have hlt : i < L.length := by rw [w.len]; exact live_lt li
    rw [List.getElem?_append_left hlt] at ha
    obtain ⟨c, hc⟩ := li
    obtain ⟨a0, b0, hl, _, _, r'⟩ := w.cell i c hc
    rw [hl] at ha
    cases ha
    obtain ⟨⟨oa, ha⟩, ⟨ob, hb⟩⟩ := r'.addr
    exact ⟨⟨ne_of_none ha hx, ne_of_none ha hd, ne_of_none hb hx, ne_of_none hb hd⟩, hl⟩
  have new : ∀ {a b : Addr}, (L ++ [(x, dx)])[m.length]? = some (a, b) → a = x ∧ b = dx := fun {a b} ha => by
    rw [← w.len] at ha
    simp at ha
    exact ⟨ha.1.symm, ha.2.symm⟩
  refine ⟨w1.ext, by simp [w.len], fun q hq => ?_, w1.tab, w.gt, fun n c' e => ?_, fun i j a b a' b' li lj nij ha hb => ?_⟩
  · rcases List.mem_append.mp hq with z | z
    · exact w1.tk q z
    · simp at z
      subst z
      exact ⟨⟨_, upd_same, (nc_ins _ _ _).1⟩, ⟨.own x, by rw [upd_ne ne, upd_same], (nc_own x).1⟩⟩
  · by_cases hn : n < m.length
    · rw [List.getElem?_append_left hn] at e
      obtain ⟨a, b, hl, ga, gb, r'⟩ := w1.cell n c' e
      exact ⟨a, b, pre_get (List.prefix_append _ _) hl, ga, gb, r'.step (Same.refl G) (List.prefix_append _ _) rfl rfl⟩
    · have h1 := (List.getElem?_eq_some_iff.mp e).1
      simp at h1
      have e0 : n = m.length := by omega
      subst e0
      simp at e
      subst e
      exact ⟨x, dx, by rw [← w.len]; simp, w.gnone hx, w.gnone hd, [], .inl ⟨upd_same, rfl⟩, ⟨rfl, fun i d e => by simp at e⟩, ⟨.own x, by rw [upd_ne ne, upd_same], nc_own x⟩, ne.symm⟩
  · rcases live_app li with li | e1
    · obtain ⟨⟨n1, n2, n3, n4⟩, q1⟩ := old li ha
      rcases live_app lj with lj | e2
      · obtain ⟨_, q2⟩ := old lj hb
        exact w.apart i j a b a' b' li lj nij q1 q2
      · subst e2
        obtain ⟨rfl, rfl⟩ := new hb
        exact ⟨n1, n2, n3, n4⟩
    · subst e1
      obtain ⟨rfl, rfl⟩ := new ha
      rcases live_app lj with lj | e2
      · obtain ⟨⟨n1, n2, n3, n4⟩, q2⟩ := old lj hb
        exact ⟨n1.symm, n3.symm, n2.symm, n4.symm⟩
      · exact absurd e2.symm nij
theorem Wd.lookIns (w : Wd k K G H L m) {n c : Nat} {ss : List (Option D)} (hn : m[n]? = some (some (.ins c ss))) {v : V} (r : Rp k K G L v (.loc n)) :
    ∃ a dx vs, v = .ref a ∧ L[n]? = some (a, dx) ∧ G a = none ∧ G dx = none ∧ SlX.Slt H a (k.cl c) dx vs ∧ RpO k K G L vs ss ∧ dx ≠ a := by
  obtain ⟨a0, b0, hl0, ga, gb, vs, h, q, _, ne⟩ := w.cell n _ hn
  cases r with
  | loc hl =>
    rw [hl] at hl0
    cases hl0
    exact ⟨_, _, vs, rfl, hl, ga, gb, h, q, ne.symm⟩
def putD (i : Nat) (d : D) (ss : List (Option D)) : List (Option D) := (ss ++ List.replicate (i + 1 - ss.length) none).set i (some d)
theorem RpO.put {vs : List (Option V)} {ss : List (Option D)} {v : V} {d : D} (h : RpO k K G L vs ss) (i : Nat) (r : Rp k K G L v d) : RpO k K G L (SlX.putS i v vs) (putD i d ss) := by
  refine ⟨?_, fun j d' e => ?_⟩
  · unfold SlX.putS putD
    simp [h.1]
  · unfold putD at e
    by_cases hj : i = j
    · subst hj
      rw [List.getElem?_set_self (by simp only [List.length_append, List.length_replicate]; omega)] at e
      cases e
      exact ⟨v, SlX.putS_get i v vs, r⟩
    · rw [List.getElem?_set_ne hj] at e
      have e' : ss[j]? = some (some d') := by
        by_cases hl : j < ss.length
        · rw [List.getElem?_append_left hl] at e
          exact e
        · rw [List.getElem?_append_right (by omega), List.getElem?_replicate] at e
          split at e <;> cases e
      obtain ⟨v', a, b⟩ := h.2 j d' e'
      exact ⟨v', (SlX.putS_ne (Ne.symm hj)).mpr a, b⟩
/-- a slot stored -/
theorem Wd.setIns (w : Wd k K G H L m) {n c : Nat} {ss : List (Option D)} {a dx : Addr} {vs : List (Option V)} {v : V} {d : D} (i : Nat) (hn : m[n]? = some (some (.ins c ss))) (hl : L[n]? = some (a, dx)) (q : RpO k K G L vs ss) (ne : dx ≠ a) (r : Rp k K G L v d) :
    Wd k K G (SlX.slH H a (k.cl c) dx (SlX.putS i v vs)) L (m.set n (some (.ins c (putD i d ss)))) := by
  obtain ⟨a0, b0, hl0, ga, gb, r0⟩ := w.cell n _ hn
  rw [hl] at hl0
  cases hl0
  have hca : ∃ o, H a = some o ∧ NC o := by
    obtain ⟨vs0, hs0, _, _, _⟩ := r0
    rcases hs0 with ⟨h1, _⟩ | ⟨h1, _⟩
    · exact ⟨_, h1, nc_ins _ _ _⟩
    · exact ⟨_, h1, nc_slO _ _ _ _⟩
  have hcb : ∃ o, H dx = some o ∧ NC o := by
    obtain ⟨_, _, _, hb, _⟩ := r0
    exact hb
  have t2 : ∀ u, H dx = some u → NC u := by
    obtain ⟨o, h1, h2⟩ := hcb
    exact nc_at h1 h2
  have t1 : ∀ u, upd H dx (.xd []) a = some u → NC u := by
    obtain ⟨o, h1, h2⟩ := hca
    rw [upd_ne (Ne.symm ne)]
    exact nc_at h1 h2
  refine ⟨fun x u e => ?_, by rw [List.length_set]; exact w.len, fun q hq => ⟨nt_upd (nc_slO _ _ _ _).1 (nt_upd (nc_xd []).1 (w.tk q hq).1), nt_upd (nc_slO _ _ _ _).1 (nt_upd (nc_xd []).1 (w.tk q hq).2)⟩, tabs_upd (tabs_upd w.tab t2) t1, w.gt, fun j c' e => ?_, fun i j a b a' b' li lj => w.apart i j a b a' b' (live_set hn li) (live_set hn lj)⟩
  · have n1 : x ≠ a := fun z => by
      rw [z, ga] at e
      cases e
    have n2 : x ≠ dx := fun z => by
      rw [z, gb] at e
      cases e
    rw [SlX.slH_ne n1 n2]
    exact w.ext x u e
  · by_cases hj : n = j
    · subst hj
      rw [List.getElem?_set_self (List.getElem?_eq_some_iff.mp hn).1] at e
      cases e
      exact ⟨a, dx, hl, ga, gb, _, SlX.slH_slt ne, q.put i r, ⟨.xd [], by unfold SlX.slH; rw [upd_ne ne, upd_same], nc_xd []⟩, ne.symm⟩
    · rw [List.getElem?_set_ne hj] at e
      obtain ⟨a', b', hl', ga', gb', r'⟩ := w.cell j c' e
      obtain ⟨n1, n2, n3, n4⟩ := w.apart j n a' b' a dx ⟨c', e⟩ ⟨_, hn⟩ (Ne.symm hj) hl' hl
      exact ⟨a', b', hl', ga', gb', r'.step (Same.refl G) (pre_refl L) (SlX.slH_ne n1 n2) (SlX.slH_ne n3 n4)⟩
theorem rpA_of_rpO : ∀ {vs : List (Option V)} {ds : List D}, RpO k K G L vs (ds.map some) → ∃ ws, vs = ws.map some ∧ RpA k K G L ws ds
  | [], [], _ => ⟨[], rfl, .nil⟩
  | _ :: _, [], h => by simp [RpO] at h
  | [], _ :: _, h => by simp [RpO] at h
  | o :: vs, d :: ds, h => by
    obtain ⟨v, e, r⟩ := h.2 0 d (by simp)
    simp at e
    subst e
    obtain ⟨ws, rfl, q⟩ := rpA_of_rpO (vs := vs) (ds := ds) ⟨by simpa using h.1, fun i d' e => by
      obtain ⟨v', a, b⟩ := h.2 (i + 1) d' (by simpa using e)
      exact ⟨v', by simpa using a, b⟩⟩
    exact ⟨v :: ws, rfl, .cons r q⟩
/-- an instance becomes data -/
theorem Wd.freezeIns (w : Wd k K G H L m) {n c : Nat} {ds : List D} {v : V} (hn : m[n]? = some (some (.ins c (ds.map some)))) (r : Rp k K G L v (.loc n)) :
    ∃ G', Stp G H L G' H L ∧ Wd k K G' H L (m.set n none) ∧ Rp k K G' L v (.obj c ds) := by
  obtain ⟨a, dx, vs, rfl, hl, ga, gb, hs, q, ne⟩ := w.lookIns hn r
  obtain ⟨ws, rfl, qa⟩ := rpA_of_rpO q
  -- the objects at a and dx go into the data
  have key : ∃ oa od, H a = some oa ∧ H dx = some od ∧ NT oa ∧ NT od ∧ ∀ G', G' a = some oa → G' dx = some od → SlX.Slt G' a (k.cl c) dx (ws.map some) := by
    rcases hs with ⟨h1, h2⟩ | ⟨h1, h2⟩
    · obtain ⟨a0, b0, hl0, _, _, _, _, _, ⟨od, hd, ncd⟩, _⟩ := w.cell n _ hn
      rw [hl] at hl0
      cases hl0
      exact ⟨_, od, h1, hd, (nc_ins _ _ _).1, ncd.1, fun G' q1 q2 => .inl ⟨q1, h2⟩⟩
    · exact ⟨_, _, h1, h2, (nc_slO _ _ _ _).1, (nc_xd []).1, fun G' q1 q2 => .inr ⟨q1, q2⟩⟩
  obtain ⟨oa, od, ha, hd, noa, nod, mk⟩ := key
  refine ⟨upd (upd G dx od) a oa, ?_, ⟨fun x u e => ?_, by rw [List.length_set]; exact w.len, w.tk, w.tab, gt_upd noa (gt_upd nod w.gt), fun i c' e => ?_, fun i j a b a' b' li lj => w.apart i j a b a' b' (live_kill li).1 (live_kill lj).1⟩, ?_⟩
  · exact ⟨fun x u e => by rw [upd_ne (ne_of_none e ga), upd_ne (ne_of_none e gb)]; exact e, pre_refl L, fun _ e => e, fun x u e _ q => ⟨e, fun z => by
      obtain ⟨n1, n2⟩ := q (a, dx) (List.mem_of_getElem? hl)
      rw [upd_ne n1, upd_ne n2]
      exact z⟩, fun p h => .inl h⟩
  · by_cases h1 : x = a
    · subst h1
      rw [upd_same] at e
      cases e
      exact ha
    · rw [upd_ne h1] at e
      by_cases h2 : x = dx
      · subst h2
        rw [upd_same] at e
        cases e
        exact hd
      · rw [upd_ne h2] at e
        exact w.ext x u e
  · have hni : n ≠ i := fun z => (live_kill ⟨c', e⟩).2 z.symm
    rw [List.getElem?_set_ne hni] at e
    obtain ⟨a', b', hl', ga', gb', r'⟩ := w.cell i c' e
    obtain ⟨n1, n2, n3, n4⟩ := w.apart i n a' b' a dx ⟨c', e⟩ ⟨_, hn⟩ (Ne.symm hni) hl' hl
    refine ⟨a', b', hl', by rw [upd_ne n1, upd_ne n2]; exact ga', by rw [upd_ne n3, upd_ne n4]; exact gb', r'.step (fun x u e => ?_) (pre_refl L) rfl rfl⟩
    rw [upd_ne (ne_of_none e ga), upd_ne (ne_of_none e gb)]
    exact e
  · exact .obj (mk _ upd_same (by rw [upd_ne ne, upd_same])) (RpA.mono (fun x u e => by rw [upd_ne (ne_of_none e ga), upd_ne (ne_of_none e gb)]; exact e) (pre_refl L) _ _ qa)
end

/-! ### the steps -/
section
variable {k : Kx} {K : PySem.W.Frag} {G H : Hp} {L : Lam} {m : Store}
theorem Wd.newS (w : Wd k K G H L m) {p : Addr} {o : HO} (h : H p = none) : Stp G H L (upd G p o) (upd H p o) L where
  g := Same.new (w.gnone h)
  l := pre_refl L
  tr := fun a e => bare_upd (bare_none h) e
  keep := fun a u e _ _ => by
    have ne := ne_of_none e h
    rw [upd_ne ne, upd_ne ne]
    exact ⟨e, id⟩
  nl := fun p h => .inl h
theorem junkS {p : Addr} {o : HO} (h : H p = none) : Stp G H L G (upd H p o) L where
  g := Same.refl G
  l := pre_refl L
  tr := fun a e => bare_upd (bare_none h) e
  keep := fun a u e _ _ => by
    rw [upd_ne (ne_of_none e h)]
    exact ⟨e, id⟩
  nl := fun p h => .inl h
theorem newLocS {p : Addr} {o : HO} (h : H p = none) : Stp G H L G (upd H p o) (L ++ [(p, p)]) where
  g := Same.refl G
  l := List.prefix_append _ _
  tr := (junkS (G := G) (L := L) (o := o) h).tr
  keep := (junkS (G := G) (L := L) (o := o) h).keep
  nl := fun q hq => by
    rcases List.mem_append.mp hq with z | z
    · exact .inl z
    · simp at z
      subst z
      exact .inr ⟨bare_none h, bare_none h⟩
theorem bare_at {H : Hp} {a x : Addr} {o : HO} (no : NT o) (e : Bare (upd H a o) x) : Bare H x := by
  by_cases ha : x = a
  · subst ha
    exact absurd no (e o upd_same)
  · intro u q
    exact e u (by rw [upd_ne ha]; exact q)
theorem setLocS {n : Nat} {a b : Addr} {o o' : HO} (hl : L[n]? = some (a, b)) (h : H a = some o') (no : NT o := by exact fun _ e => (by cases e)) : Stp G H L G (upd H a o) L where
  g := Same.refl G
  l := pre_refl L
  tr := fun x e => bare_at no e
  keep := fun x u e _ q => by
    rw [upd_ne (q (a, b) (List.mem_of_getElem? hl)).1]
    exact ⟨e, id⟩
  nl := fun p h => .inl h
theorem freezeS {n : Nat} {a b : Addr} {o : HO} (hl : L[n]? = some (a, b)) (ga : G a = none) : Stp G H L (upd G a o) H L where
  g := Same.new ga
  l := pre_refl L
  tr := fun _ e => e
  keep := fun x u e _ q => ⟨e, fun z => by
    rw [upd_ne (q (a, b) (List.mem_of_getElem? hl)).1]
    exact z⟩
  nl := fun p h => .inl h
theorem newInsS {x dx : Addr} {o o' : HO} (hx : H x = none) (hd : H dx = none) (ne : dx ≠ x) : Stp G H L G (upd (upd H dx o) x o') (L ++ [(x, dx)]) where
  g := Same.refl G
  l := List.prefix_append _ _
  tr := fun a e => bare_upd (bare_none hd) (bare_upd (bare_none (by rw [upd_ne (Ne.symm ne)]; exact hx)) e)
  keep := fun a u e _ _ => by
    rw [upd_ne (ne_of_none e hx), upd_ne (ne_of_none e hd)]
    exact ⟨e, id⟩
  nl := fun q hq => by
    rcases List.mem_append.mp hq with z | z
    · exact .inl z
    · simp at z
      subst z
      exact .inr ⟨bare_none hx, bare_none hd⟩
theorem setInsS {n : Nat} {a dx C : Addr} {vs : List (Option V)} (hl : L[n]? = some (a, dx)) : Stp G H L G (SlX.slH H a C dx vs) L where
  g := Same.refl G
  l := pre_refl L
  tr := fun x e => bare_at (nc_xd []).1 (bare_at (nc_slO _ _ _ _).1 e)
  keep := fun x u e _ q => by
    obtain ⟨n1, n2⟩ := q (a, dx) (List.mem_of_getElem? hl)
    rw [SlX.slH_ne n1 n2]
    exact ⟨e, id⟩
  nl := fun p h => .inl h
end
end DL

namespace DL
open PySem L2

/-! ### denotations of expressions -/
def getv (i : Nat) (e : DEnv) : M D := match e[i]? with
  | some (some d) => pure d
  | _ => M.bad
def eVar (i : Nat) : DEnv → M D := fun e => getv i e
def eC (d : D) : DEnv → M D := fun _ => pure d
def eOp (g : D → D → M D) (a b : DEnv → M D) : DEnv → M D := fun e => do let x ← a e; let y ← b e; g x y
def eUn (g : D → M D) (a : DEnv → M D) : DEnv → M D := fun e => do let x ← a e; g x
def asB : D → M Bool
  | .bl b => pure b
  | _ => M.bad
def eIf (t : DEnv → M Bool) (a b : DEnv → M D) : DEnv → M D := fun e => do let c ← t e; if c then a e else b e
def eAnd (a b : DEnv → M D) : DEnv → M D := fun e => do let x ← a e; let c ← asB x; if c then b e else pure (.bl false)
def eOr (a b : DEnv → M D) : DEnv → M D := fun e => do let x ← a e; let c ← asB x; if c then pure (.bl true) else b e
def eNot (a : DEnv → M D) : DEnv → M D := fun e => do let x ← a e; let c ← asB x; pure (.bl (!c))
def eChain (g g' : D → D → M D) (a b c : DEnv → M D) : DEnv → M D := fun e => do
  let x ← a e; let y ← b e; let z ← g x y; let k ← asB z
  if k then (do let w ← c e; g' y w) else pure (.bl false)
def tB' (a : DEnv → M D) : DEnv → M Bool := fun e => do let x ← a e; asB x
def tAndD (t u : DEnv → M Bool) : DEnv → M Bool := fun e => do let c ← t e; if c then u e else pure false
def tOrD (t u : DEnv → M Bool) : DEnv → M Bool := fun e => do let c ← t e; if c then pure true else u e
def tNotD (t : DEnv → M Bool) : DEnv → M Bool := fun e => do let c ← t e; pure (!c)
def aNil : DEnv → M (List D) := fun _ => pure []
def aCons (a : DEnv → M D) (r : DEnv → M (List D)) : DEnv → M (List D) := fun e => do let x ← a e; let xs ← r e; pure (x :: xs)
def eCallB (g : List D → M D) (as : DEnv → M (List D)) : DEnv → M D := fun e => do let xs ← as e; g xs
def mkL (ds : List D) : M D := if ds.length ≤ 100000 then pure (.lst ds) else M.bad
def mkT (ds : List D) : M D := if ds.length ≤ 100000 then pure (.tup ds) else M.bad
def newM (ds : List D) : M D := fun m => if ds.length ≤ 100000 then .ok (.loc m.length) (m ++ [some (.lst ds)]) else .bad
def eTup (as : DEnv → M (List D)) : DEnv → M D := fun e => do let xs ← as e; mkT xs
def eLst (as : DEnv → M (List D)) : DEnv → M D := fun e => do let xs ← as e; mkL xs
def eLstM (as : DEnv → M (List D)) : DEnv → M D := fun e => do let xs ← as e; newM xs
/-- the items of a list or tuple -/
def seqD (d : D) : M (List D) := fun m => match d with
  | .lst ds => .ok ds m
  | .tup ds => .ok ds m
  | .loc n => match m[n]? with
    | some (some (.lst ds)) => .ok ds m
    | _ => .bad
  | _ => .bad
/-- a mutable list becomes data -/
def frzD (d : D) : M D := fun m => match d with
  | .loc n => match m[n]? with
    | some (some (.lst ds)) => .ok (.lst ds) (m.set n none)
    | _ => .bad
  | d => .ok d m
def eFrz (a : DEnv → M D) : DEnv → M D := fun e => do let x ← a e; frzD x

/-! ### how the rules of values lift -/
section
variable (k : Kx) (K : PySem.W.Frag) (E : XK)
def QV (Q : VK) : D → Store → Hp → Hp → Lam → Prop := fun d _ G' H' L' => ∀ v, Rp k K G' L' v d → Q v H'
def OpD (r : R2) (g : D → D → M D) : Prop := ∀ x y dx dy G H L μ Q, Rp k K G L x dx → Rp k K G L y dy → Wd k K G H L μ → Good k K E G H L (g dx dy μ) (QV k K Q) → r x y H Q
def UnD (r : V → Hp → VK → Prop) (g : D → M D) : Prop := ∀ x dx G H L μ Q, Rp k K G L x dx → Wd k K G H L μ → Good k K E G H L (g dx μ) (QV k K Q) → r x H Q
def ClD (r : List V → Hp → VK → Prop) (g : List D → M D) : Prop := ∀ xs ds G H L μ Q, RpA k K G L xs ds → Wd k K G H L μ → Good k K E G H L (g ds μ) (QV k K Q) → r xs H Q
end
def BinD (k : Kx) (X : Cx) (E : XK) (f : Value → Value → Sem Value) (g : D → D → M D) : Prop := ∃ r, OpR X f r ∧ OpD k X.K E r g
def FunD (k : Kx) (X : Cx) (E : XK) (f : Value) (g : List D → M D) : Prop := ∃ r, CallR X f r ∧ ClD k X.K E r g
def MonD (k : Kx) (X : Cx) (E : XK) (f : Value → Sem Value) (g : D → M D) : Prop := ∃ r, UnR X f r ∧ UnD k X.K E r g

section
variable {k : Kx} {X : Cx} {E : XK} {a b c : Expr} {ma mb mc : DEnv → M D} {pos : Pos}
/-- the step from one part to the next -/
theorem dE_bind {m : DEnv → M D} {f : D → DEnv → M D} {s : L2.St} {H : Hp} {Q : VK} (h : dE k X.K E (fun e => do let x ← m e; f x e) s H Q) :
    dE k X.K E m s H fun x H1 => ∃ e G L μ d, Sg k X.K G L s e ∧ Wd k X.K G H1 L μ ∧ Rp k X.K G L x d ∧ Good k X.K E G H1 L (f d e μ) (QV k X.K Q) := by
  obtain ⟨e, G, L, μ, sg, w, g⟩ := h
  refine ⟨e, G, L, μ, sg, w, Good.mono (Good.bind g) fun d m G' H' L' st w' q v r => ?_⟩
  exact ⟨e, G', L', m, d, sg.mono st.g st.l, w', r, q⟩
theorem dE_bindT {m : DEnv → M Bool} {f : Bool → DEnv → M D} {s : L2.St} {H : Hp} {Q : VK} (h : dE k X.K E (fun e => do let x ← m e; f x e) s H Q) :
    dT k X.K E m s H fun b H1 => ∃ e G L μ, Sg k X.K G L s e ∧ Wd k X.K G H1 L μ ∧ Good k X.K E G H1 L (f b e μ) (QV k X.K Q) := by
  obtain ⟨e, G, L, μ, sg, w, g⟩ := h
  refine ⟨e, G, L, μ, sg, w, Good.mono (Good.bind g) fun d m G' H' L' st w' q => ?_⟩
  exact ⟨e, G', L', m, sg.mono st.g st.l, w', q⟩
theorem dE_bindA {m : DEnv → M (List D)} {f : List D → DEnv → M D} {s : L2.St} {H : Hp} {Q : VK} (h : dE k X.K E (fun e => do let x ← m e; f x e) s H Q) :
    dA k X.K E m s H fun xs H1 => ∃ e G L μ ds, Sg k X.K G L s e ∧ Wd k X.K G H1 L μ ∧ RpA k X.K G L xs ds ∧ Good k X.K E G H1 L (f ds e μ) (QV k X.K Q) := by
  obtain ⟨e, G, L, μ, sg, w, g⟩ := h
  refine ⟨e, G, L, μ, sg, w, Good.mono (Good.bind g) fun d m G' H' L' st w' q v r => ?_⟩
  exact ⟨e, G', L', m, d, sg.mono st.g st.l, w', r, q⟩
/-- two parts, then an operation -/
theorem dE_op {r : R2} {g : D → D → M D} (hg : OpD k X.K E r g) {s : L2.St} {H : Hp} {Q : VK} (h : dE k X.K E (eOp g ma mb) s H Q) : tOp r (dE k X.K E ma) (dE k X.K E mb) s H Q := by
  obtain ⟨e, G, L, μ, sg, w, gd⟩ := h
  refine ⟨e, G, L, μ, sg, w, Good.mono (Good.bind gd) fun d1 m1 G1 H1 L1 st1 w1 q1 x r1 => ?_⟩
  refine ⟨e, G1, L1, m1, sg.mono st1.g st1.l, w1, Good.mono (Good.bind q1) fun d2 m2 G2 H2 L2 st2 w2 q2 y r2 => ?_⟩
  exact hg x y d1 d2 G2 H2 L2 m2 Q (Rp.mono st2.g st2.l _ _ r1) r2 w2 q2
theorem dE_val {d : D} {s : L2.St} {H : Hp} {Q : VK} (h : dE k X.K E (eC d) s H Q) {v : V} (r : ∀ G L, Rp k X.K G L v d) : Q v H := by
  obtain ⟨e, G, L, μ, sg, w, g⟩ := h
  exact Good.ret g w v (r G L)

/-! ### the rules -/
theorem j_var (i : Nat) {x : Str} (hN : X.N[i]? = some x := by rfl) (hv : Vis X.env.scope x := by first | exact Or.inl rfl | exact Or.inr (Or.inl rfl) | exact Or.inr (Or.inr rfl)) (hd : (x == ("__debug__" : Str)) = false := by decide)
    (hcd : (x == ("__classdict__" : Str)) = false := by decide) : JE k X E (.Name x pos) (eVar i) := by
  refine PE.imp (pe_var hN hv hd hcd) fun s H Q h => ?_
  obtain ⟨e, G, L, μ, sg, w, g⟩ := h
  unfold eVar getv at g
  cases he : e[i]? with
  | none =>
    simp only [he] at g
    exact False.elim g
  | some o =>
    cases o with
    | none =>
      simp only [he] at g
      exact False.elim g
    | some d =>
      simp only [he] at g
      obtain ⟨v, hv, r⟩ := sg.2 i d he
      exact ⟨v, hv, Good.ret g w v r⟩
theorem j_int {i : Int} {j} : JE k X E (.Constant (.int i) j pos) (eC (.int i)) := PE.imp pe_int fun s H Q h => dE_val h fun _ _ => .int i
theorem j_bl {i : Bool} {j} : JE k X E (.Constant (.bool i) j pos) (eC (.bl i)) := PE.imp pe_bl fun s H Q h => dE_val h fun _ _ => .bl i
theorem j_non {j} : JE k X E (.Constant .none j pos) (eC .non) := PE.imp pe_non fun s H Q h => dE_val h fun _ _ => .non
theorem j_str {x : Str} {j} : JE k X E (.Constant (.str x) j pos) (eC (.str x)) := PE.imp pe_str fun s H Q h => dE_val h fun _ _ => .str x
theorem j_glob {x : Str} {v : V} {u : Value} {d : D} (hg : Gl X x) (hm : X.mg x = some u) (r : RelV v u) (hr : ∀ G L, Rp k X.K G L v d) (hd : (x == ("__debug__" : Str)) = false := by decide) : JE k X E (.Name x pos) (eC d) :=
  PE.imp (pe_glob hg hm r hd) fun s H Q h => dE_val h hr
theorem j_op {op : Operator} {g : D → D → M D} (ho : BinD k X E (binaryOp op) g) (ha : JE k X E a ma) (hb : JE k X E b mb) : JE k X E (.BinOp a op b pos) (eOp g ma mb) := by
  obtain ⟨r, h1, h2⟩ := ho
  exact PE.imp (pe_op h1 ha hb) fun s H Q h => dE_op h2 h
theorem j_cmp {op : CmpOp} {g : D → D → M D} (ho : BinD k X E (compareOp op) g) (ha : JE k X E a ma) (hb : JE k X E b mb) (hm : behindInMarks op b = false) : JE k X E (.Compare a [op] [b] pos) (eOp g ma mb) := by
  obtain ⟨r, h1, h2⟩ := ho
  exact PE.imp (pe_cmpR h1 ha hb hm) fun s H Q h => dE_op h2 h
theorem j_un {op : UnaryOp} {g : D → M D} (ho : MonD k X E (unaryOp op) g) (ha : JE k X E a ma) : JE k X E (.UnaryOp op a pos) (eUn g ma) := by
  obtain ⟨r, h1, h2⟩ := ho
  refine PE.imp (pe_un h1 ha) fun s H Q h => ?_
  obtain ⟨e, G, L, μ, sg, w, gd⟩ := h
  refine ⟨e, G, L, μ, sg, w, Good.mono (Good.bind gd) fun d1 m1 G1 H1 L1 st1 w1 q1 x r1 => ?_⟩
  exact h2 x d1 G1 H1 L1 m1 Q r1 w1 q1
theorem asB_good {β : Type} {d : D} {f : Bool → M β} {G H : Hp} {L : Lam} {μ : Store} {Q : β → Store → Hp → Hp → Lam → Prop} {v : V} (r : Rp k X.K G L v d) (g : Good k X.K E G H L ((asB d >>= f) μ) Q) : ∃ b, v = .bl b ∧ d = .bl b ∧ Good k X.K E G H L (f b μ) Q := by
  cases d with
  | bl b =>
    cases r
    exact ⟨b, rfl, rfl, g⟩
  | _ => exact False.elim g
theorem j_ifexp {t : Expr} {mt : DEnv → M Bool} (ht : JT k X E t mt) (ha : JE k X E a ma) (hb : JE k X E b mb) : JE k X E (.IfExp t a b pos) (eIf mt ma mb) := by
  refine PE.imp (pe_ifExp ht ha hb) fun s H Q h => ?_
  obtain ⟨e, G, L, μ, sg, w, gd⟩ := h
  refine ⟨e, G, L, μ, sg, w, Good.mono (Good.bind gd) fun c m1 G1 H1 L1 st1 w1 q1 => ?_⟩
  cases c with
  | true => exact ⟨e, G1, L1, m1, sg.mono st1.g st1.l, w1, q1⟩
  | false => exact ⟨e, G1, L1, m1, sg.mono st1.g st1.l, w1, q1⟩
variable {rest : List Expr}
theorem j_one {op} (h : JE k X E a ma) : JE k X E (.BoolOp op [a] pos) ma := pe_one h
theorem j_and (ha : JE k X E a ma) (hb : JE k X E (.BoolOp .And (b :: rest) pos) mb) : JE k X E (.BoolOp .And (a :: b :: rest) pos) (eAnd ma mb) := by
  refine PE.imp (pe_and ha hb) fun s H Q h => ?_
  obtain ⟨e, G, L, μ, sg, w, gd⟩ := h
  refine ⟨e, G, L, μ, sg, w, Good.mono (Good.bind gd) fun d m1 G1 H1 L1 st1 w1 q1 v r => ?_⟩
  obtain ⟨c, rfl, rfl, q⟩ := asB_good r q1
  refine ⟨c, rfl, ?_⟩
  cases c with
  | true => exact ⟨e, G1, L1, m1, sg.mono st1.g st1.l, w1, q⟩
  | false => exact Good.ret q w1 _ (.bl false)
theorem j_or (ha : JE k X E a ma) (hb : JE k X E (.BoolOp .Or (b :: rest) pos) mb) : JE k X E (.BoolOp .Or (a :: b :: rest) pos) (eOr ma mb) := by
  refine PE.imp (pe_or ha hb) fun s H Q h => ?_
  obtain ⟨e, G, L, μ, sg, w, gd⟩ := h
  refine ⟨e, G, L, μ, sg, w, Good.mono (Good.bind gd) fun d m1 G1 H1 L1 st1 w1 q1 v r => ?_⟩
  obtain ⟨c, rfl, rfl, q⟩ := asB_good r q1
  refine ⟨c, rfl, ?_⟩
  cases c with
  | false => exact ⟨e, G1, L1, m1, sg.mono st1.g st1.l, w1, q⟩
  | true => exact Good.ret q w1 _ (.bl true)
theorem j_not (ha : JE k X E a ma) : JE k X E (.UnaryOp .Not a pos) (eNot ma) := by
  refine PE.imp (pe_not ha) fun s H Q h => ?_
  obtain ⟨e, G, L, μ, sg, w, gd⟩ := h
  refine ⟨e, G, L, μ, sg, w, Good.mono (Good.bind gd) fun d m1 G1 H1 L1 st1 w1 q1 v r => ?_⟩
  obtain ⟨c, rfl, rfl, q⟩ := asB_good r q1
  exact ⟨c, rfl, Good.ret q w1 _ (.bl _)⟩
theorem dE_chain {r r' : R2} {g g' : D → D → M D} (h1 : OpD k X.K E r g) (h2 : OpD k X.K E r' g') {s : L2.St} {H : Hp} {Q : VK} (h : dE k X.K E (eChain g g' ma mb mc) s H Q) : tChain r r' (dE k X.K E ma) (dE k X.K E mb) (dE k X.K E mc) s H Q := by
  obtain ⟨e, G, L, μ, sg, w, gd⟩ := h
  refine ⟨e, G, L, μ, sg, w, Good.mono (Good.bind gd) fun d1 m1 G1 H1 L1 st1 w1 q1 x r1 => ?_⟩
  refine ⟨e, G1, L1, m1, sg.mono st1.g st1.l, w1, Good.mono (Good.bind q1) fun d2 m2 G2 H2 L2 st2 w2 q2 y r2 => ?_⟩
  refine h1 x y d1 d2 G2 H2 L2 m2 _ (Rp.mono st2.g st2.l _ _ r1) r2 w2 (Good.mono (Good.bind q2) fun d3 m3 G3 H3 L3 st3 w3 q3 z r3 => ?_)
  obtain ⟨c, rfl, rfl, q⟩ := asB_good r3 q3
  refine ⟨c, rfl, ?_⟩
  cases c with
  | false => exact Good.ret q w3 _ (.bl false)
  | true =>
    refine ⟨e, G3, L3, m3, ((sg.mono st1.g st1.l).mono st2.g st2.l).mono st3.g st3.l, w3, Good.mono (Good.bind q) fun d4 m4 G4 H4 L4 st4 w4 q4 u r4 => ?_⟩
    exact h2 y u d2 d4 G4 H4 L4 m4 Q (Rp.mono st4.g st4.l _ _ (Rp.mono st3.g st3.l _ _ r2)) r4 w4 q4
theorem j_chain {op op' : CmpOp} {g g' : D → D → M D} (ho : BinD k X E (compareOp op) g) (ho' : BinD k X E (compareOp op') g') (ha : JE k X E a ma) (hb : JE k X E b mb) (hc : JE k X E c mc)
    (hm : lastMarks [op, op'] [b, c] = false := by with_unfolding_all rfl) : JE k X E (.Compare a [op, op'] [b, c] pos) (eChain g g' ma mb mc) := by
  obtain ⟨r, h1, h2⟩ := ho
  obtain ⟨r', h1', h2'⟩ := ho'
  exact PE.imp (pe_chain h1 h1' ha hb hc hm) fun s H Q h => dE_chain h2 h2' h

/-! tests -/
theorem dT_B {t : TE → TT} {te : TE} {s : L2.St} {H : Hp} {Q : Bool → Hp → Prop} {m : DEnv → M D} (h : dT k X.K E (tB' m) s H Q) : dE k X.K E m s H fun x H' => ∃ c, x = .bl c ∧ Q c H' := by
  obtain ⟨e, G, L, μ, sg, w, gd⟩ := h
  refine ⟨e, G, L, μ, sg, w, Good.mono (Good.bind gd) fun d m1 G1 H1 L1 st1 w1 q1 v r => ?_⟩
  obtain ⟨c, rfl, rfl, q⟩ := asB_good (f := fun b => (pure b : M Bool)) r (show Good k X.K E G1 H1 L1 ((asB d >>= fun b => (pure b : M Bool)) m1) _ by
    have e2 : (asB d >>= fun b => (pure b : M Bool)) m1 = asB d m1 := by
      cases d <;> rfl
    rw [e2]
    exact q1)
  exact ⟨c, rfl, Good.ret q w1⟩
theorem jt_val (h : JE k X E a ma) (he : ∀ whole, isTrue a X.env whole = (do let v ← whole; standAt a.pos; holding [v] (truthy v)) := by intro _; rfl) : JT k X E a (tB' ma) :=
  PT.imp (pt_val h he) fun s H Q h => dT_B (t := fun _ => tYes) (te := tC .non) h
theorem jt_cmp {op : CmpOp} {g : D → D → M D} (ho : BinD k X E (compareOp op) g) (ha : JE k X E a ma) (hb : JE k X E b mb) (hm : behindInMarks op b = false) : JT k X E (.Compare a [op] [b] pos) (tB' (eOp g ma mb)) := by
  obtain ⟨r, h1, h2⟩ := ho
  exact PT.imp (pt_cmpR h1 ha hb hm) fun s H Q h => dE_op h2 (dT_B (t := fun _ => tYes) (te := tC .non) h)
theorem jt_chain {op op' : CmpOp} {g g' : D → D → M D} (ho : BinD k X E (compareOp op) g) (ho' : BinD k X E (compareOp op') g') (ha : JE k X E a ma) (hb : JE k X E b mb) (hc : JE k X E c mc)
    (hm : lastMarks [op, op'] [b, c] = false := by with_unfolding_all rfl) : JT k X E (.Compare a [op, op'] [b, c] pos) (tB' (eChain g g' ma mb mc)) := by
  obtain ⟨r, h1, h2⟩ := ho
  obtain ⟨r', h1', h2'⟩ := ho'
  exact PT.imp (pt_chain h1 h1' ha hb hc hm) fun s H Q h => dE_chain h2 h2' (dT_B (t := fun _ => tYes) (te := tC .non) h)
/-- truth of any data -/
def truD (d : D) : M Bool := fun m => match d with
  | .non => .ok false m
  | .bl b => .ok b m
  | .int i => .ok (i != 0) m
  | .str x => if x.length ≤ 100000 then .ok ((x.length : Int) != 0) m else .bad
  | .lst ds => .ok (!ds.isEmpty) m
  | .tup ds => .ok (!ds.isEmpty) m
  | .loc n => match m[n]? with
    | some (some (.lst ds)) => .ok (!ds.isEmpty) m
    | _ => .bad
  | _ => .bad
def tTru (a : DEnv → M D) : DEnv → M Bool := fun e => do let x ← a e; truD x
theorem rpA_emp {G : Hp} {L : Lam} {vs : List V} {ds : List D} (r : RpA k X.K G L vs ds) : (!vs.isEmpty) = !ds.isEmpty := by
  cases ds with
  | nil => cases r; rfl
  | cons d ds => cases r; rfl
theorem size_of {n : Nat} (h : n ≤ 100000) : n ≤ sizeLine := Nat.le_trans h (by decide)
theorem tru_of {d : D} {x : V} {G H : Hp} {L : Lam} {μ : Store} {Q : Bool → Hp → Prop} (r : Rp k X.K G L x d) (w : Wd k X.K G H L μ) (g : Good k X.K E G H L (truD d μ) fun b _ _ H' _ => Q b H') : ∃ kk, TruV X.K x H kk ∧ Q kk H := by
  unfold truD at g
  cases d with
  | non => cases r; exact ⟨false, rfl, Good.okE g w⟩
  | bl b => cases r; exact ⟨b, rfl, Good.okE g w⟩
  | int i => cases r; exact ⟨_, rfl, Good.okE g w⟩
  | str y =>
    cases r
    by_cases hz : y.length ≤ 100000
    · simp only [hz, if_true] at g
      exact ⟨_, ⟨size_of hz, rfl⟩, Good.okE g w⟩
    · simp only [hz, if_false] at g
      exact False.elim g
  | lst ds =>
    cases r with
    | lst hs ha => exact ⟨_, .inl ⟨_, w.ext.seq hs, rfl⟩, by rw [rpA_emp ha]; exact Good.okE g w⟩
  | tup ds =>
    cases r with
    | tup hs ha => exact ⟨_, .inr (.inl ⟨_, sqT_mono w.ext hs, rfl⟩), by rw [rpA_emp ha]; exact Good.okE g w⟩
  | loc n =>
    simp only at g
    cases hm : μ[n]? with
    | none => rw [hm] at g; exact False.elim g
    | some o =>
      cases o with
      | none => rw [hm] at g; exact False.elim g
      | some c =>
        cases c with
        | ins _ _ => rw [hm] at g; exact False.elim g
        | dct _ _ => rw [hm] at g; exact False.elim g
        | lst ds =>
          rw [hm] at g
          obtain ⟨a, vs, rfl, _, _, h, ra⟩ := w.look hm r
          exact ⟨_, .inl ⟨_, SqL.of h, rfl⟩, by rw [rpA_emp ra]; exact Good.okE g w⟩
  | obj c ds => exact False.elim g
  | cls c => exact False.elim g
  | dct c => exact False.elim g
  | fdc c => exact False.elim g
  | err c => exact False.elim g
theorem jt_tru (h : JE k X E a ma) (he : ∀ whole, isTrue a X.env whole = (do let v ← whole; standAt a.pos; holding [v] (truthy v)) := by intro _; rfl) : JT k X E a (tTru ma) := by
  refine PT.imp (pt_truth h he) fun s H Q h => ?_
  obtain ⟨e, G, L, μ, sg, w, gd⟩ := h
  refine ⟨e, G, L, μ, sg, w, Good.mono (Good.bind gd) fun d m1 G1 H1 L1 st1 w1 q1 v r => ?_⟩
  exact tru_of r w1 q1
variable {t : Expr} {mt mu : DEnv → M Bool}
theorem jt_w (h : JW k X E t mt) : JT k X E t mt := h.pt
theorem jt_not (h : JT k X E t mt) : JT k X E (.UnaryOp .Not t pos) (tNotD mt) := by
  refine PT.imp (pt_not h) fun s H Q h => ?_
  obtain ⟨e, G, L, μ, sg, w, gd⟩ := h
  refine ⟨e, G, L, μ, sg, w, Good.mono (Good.bind gd) fun c m1 G1 H1 L1 st1 w1 q1 => ?_⟩
  exact Good.ret q1 w1
theorem jw_and1 (h : JT k X E t mt) : JW k X E (.BoolOp .And [t] pos) mt := pw_and1 h
theorem jw_or1 (h : JT k X E t mt) : JW k X E (.BoolOp .Or [t] pos) mt := pw_or1 h
theorem jw_and (h : JT k X E t mt) (hb : JW k X E (.BoolOp .And (b :: rest) pos) mu) : JW k X E (.BoolOp .And (t :: b :: rest) pos) (tAndD mt mu) := by
  refine PW.imp (pw_and h hb) fun s H Q h => ?_
  obtain ⟨e, G, L, μ, sg, w, gd⟩ := h
  refine ⟨e, G, L, μ, sg, w, Good.mono (Good.bind gd) fun c m1 G1 H1 L1 st1 w1 q1 => ?_⟩
  cases c with
  | true => exact ⟨e, G1, L1, m1, sg.mono st1.g st1.l, w1, q1⟩
  | false => exact Good.ret q1 w1
theorem jw_or (h : JT k X E t mt) (hb : JW k X E (.BoolOp .Or (b :: rest) pos) mu) : JW k X E (.BoolOp .Or (t :: b :: rest) pos) (tOrD mt mu) := by
  refine PW.imp (pw_or h hb) fun s H Q h => ?_
  obtain ⟨e, G, L, μ, sg, w, gd⟩ := h
  refine ⟨e, G, L, μ, sg, w, Good.mono (Good.bind gd) fun c m1 G1 H1 L1 st1 w1 q1 => ?_⟩
  cases c with
  | false => exact ⟨e, G1, L1, m1, sg.mono st1.g st1.l, w1, q1⟩
  | true => exact Good.ret q1 w1

/-! argument lists, displays -/
variable {es : List Expr} {ms : DEnv → M (List D)}
theorem ja_nil : JA k X E [] aNil := by
  refine PA.imp pa_nil fun s H Q h => ?_
  obtain ⟨e, G, L, μ, sg, w, gd⟩ := h
  exact Good.ret gd w [] .nil
theorem ja_cons (ha : JE k X E a ma) (hr : JA k X E es ms) (hs : starEach (a :: es) X.env = (false, eval a X.env) :: starEach es X.env := by rfl) : JA k X E (a :: es) (aCons ma ms) := by
  refine PA.imp (pa_cons ha hr hs) fun s H Q h => ?_
  obtain ⟨e, G, L, μ, sg, w, gd⟩ := h
  refine ⟨e, G, L, μ, sg, w, Good.mono (Good.bind gd) fun d1 m1 G1 H1 L1 st1 w1 q1 x r1 => ?_⟩
  refine ⟨e, G1, L1, m1, sg.mono st1.g st1.l, w1, Good.mono (Good.bind q1) fun d2 m2 G2 H2 L2 st2 w2 q2 xs r2 => ?_⟩
  exact Good.ret q2 w2 _ (.cons (Rp.mono st2.g st2.l _ _ r1) r2)
theorem good_ite {α : Type} {c : Prop} [Decidable c] {x : M α} {G H : Hp} {L : Lam} {μ : Store} {Q : α → Store → Hp → Hp → Lam → Prop} (g : Good k X.K E G H L ((if c then x else M.bad) μ) Q) : c ∧ Good k X.K E G H L (x μ) Q := by
  by_cases h : c
  · rw [if_pos h] at g
    exact ⟨h, g⟩
  · rw [if_neg h] at g
    exact False.elim g
/-- a new list, as data -/
theorem good_mkL {G H : Hp} {L : Lam} {μ : Store} {Q : VK} {vs : List V} {ds : List D} (r : RpA k X.K G L vs ds) (w : Wd k X.K G H L μ) (g : Good k X.K E G H L (mkL ds μ) (QV k X.K Q)) :
    vs.length ≤ sizeLine ∧ ∀ p, H p = none → Q (.ref p) (upd H p (.lst vs)) := by
  obtain ⟨hz, g⟩ := good_ite g
  refine ⟨by rw [r.len]; exact size_of hz, fun p hp => ?_⟩
  exact g _ _ _ (w.newS hp) (w.new hp) _ (.lst (SqL.of upd_same) (RpA.mono (w.newS (o := .lst vs) hp).g (pre_refl L) _ _ r))
theorem good_mkT {G H : Hp} {L : Lam} {μ : Store} {Q : VK} {vs : List V} {ds : List D} (r : RpA k X.K G L vs ds) (w : Wd k X.K G H L μ) (g : Good k X.K E G H L (mkT ds μ) (QV k X.K Q)) :
    vs.length ≤ sizeLine ∧ ∀ p, H p = none → Q (.ref p) (upd H p (.tup vs)) := by
  obtain ⟨hz, g⟩ := good_ite g
  refine ⟨by rw [r.len]; exact size_of hz, fun p hp => ?_⟩
  exact g _ _ _ (w.newS hp) (w.new hp) _ (.tup (SqT.of upd_same) (RpA.mono (w.newS (o := .tup vs) hp).g (pre_refl L) _ _ r))
theorem good_newM {G H : Hp} {L : Lam} {μ : Store} {Q : VK} {vs : List V} {ds : List D} (r : RpA k X.K G L vs ds) (w : Wd k X.K G H L μ) (g : Good k X.K E G H L (newM ds μ) (QV k X.K Q)) :
    vs.length ≤ sizeLine ∧ ∀ p, H p = none → Q (.ref p) (upd H p (.lst vs)) := by
  unfold newM at g
  by_cases hz : ds.length ≤ 100000
  · rw [if_pos hz] at g
    refine ⟨by rw [r.len]; exact size_of hz, fun p hp => ?_⟩
    exact g _ _ _ (newLocS hp) (w.newLoc hp r) _ (.loc (a := p) (b := p) (by rw [← w.len]; simp))
  · rw [if_neg hz] at g
    exact False.elim g
theorem j_tup {x1} (h : JA k X E es ms) : JE k X E (.Tuple es x1 pos) (eTup ms) := by
  refine PE.imp (pe_tup h) fun s H Q h => ?_
  obtain ⟨e, G, L, μ, sg, w, gd⟩ := h
  exact ⟨e, G, L, μ, sg, w, Good.mono (Good.bind gd) fun d1 m1 G1 H1 L1 st1 w1 q1 x r1 => good_mkT r1 w1 q1⟩
theorem j_lst (h : JA k X E es ms) : JE k X E (.List es pos) (eLst ms) := by
  refine PE.imp (pe_lst h) fun s H Q h => ?_
  obtain ⟨e, G, L, μ, sg, w, gd⟩ := h
  exact ⟨e, G, L, μ, sg, w, Good.mono (Good.bind gd) fun d1 m1 G1 H1 L1 st1 w1 q1 x r1 => good_mkL r1 w1 q1⟩
theorem j_lstM (h : JA k X E es ms) : JE k X E (.List es pos) (eLstM ms) := by
  refine PE.imp (pe_lst h) fun s H Q h => ?_
  obtain ⟨e, G, L, μ, sg, w, gd⟩ := h
  exact ⟨e, G, L, μ, sg, w, Good.mono (Good.bind gd) fun d1 m1 G1 H1 L1 st1 w1 q1 x r1 => good_newM r1 w1 q1⟩
/-- any expression, its value frozen -/
theorem good_frz {G H : Hp} {L : Lam} {μ : Store} {d : D} {v : V} {Q : VK} (r : Rp k X.K G L v d) (w : Wd k X.K G H L μ) (g : Good k X.K E G H L (frzD d μ) (QV k X.K Q)) : Q v H := by
  unfold frzD at g
  cases d with
  | loc n =>
    simp only at g
    cases hm : μ[n]? with
    | none => rw [hm] at g; exact False.elim g
    | some o =>
      cases o with
      | none => rw [hm] at g; exact False.elim g
      | some c =>
        cases c with
        | ins _ _ => rw [hm] at g; exact False.elim g
        | dct _ _ => rw [hm] at g; exact False.elim g
        | lst ds =>
          rw [hm] at g
          obtain ⟨a, vs, rfl, hl, ga, h, ra⟩ := w.look hm r
          exact g _ _ _ (freezeS hl ga) (w.freeze hm hl h) _ (.lst (SqL.of upd_same) (RpA.mono (Same.new ga) (pre_refl L) _ _ ra))
  | _ => exact Good.okE g w v r
theorem j_frz (h : JE k X E a ma) : JE k X E a (eFrz ma) := by
  refine PE.imp h fun s H Q h => ?_
  obtain ⟨e, G, L, μ, sg, w, gd⟩ := h
  exact ⟨e, G, L, μ, sg, w, Good.mono (Good.bind gd) fun d1 m1 G1 H1 L1 st1 w1 q1 x r1 => good_frz r1 w1 q1⟩

/-! built-ins by name -/
variable {x : Str} {p : Pos} {id T : String} {g : List D → M D}
theorem j_callB (hc : FunD k X E (.builtin id) g) (hg : Gl X x) (hm : X.mg x = none) (hv : bootBuiltins x = some (.builtin id)) (ha : JA k X E (a :: es) ms) (hn : x ≠ "__name__" := by decide) (hdb : (x == ("__debug__" : Str)) = false := by decide)
    (he : starEach (a :: es) X.env = (false, eval a X.env) :: starEach es X.env := by rfl) (hpl : (backTo pos (starEach es X.env)).any (·.1) = false := by rfl) : JE k X E (.Call (.Name x p) (a :: es) [] pos) (eCallB g ms) := by
  obtain ⟨r, h1, h2⟩ := hc
  refine PE.imp (pe_callB h1 hg hm hv ha hn hdb he hpl) fun s H Q h => ?_
  obtain ⟨e, G, L, μ, sg, w, gd⟩ := h
  exact ⟨e, G, L, μ, sg, w, Good.mono (Good.bind gd) fun d1 m1 G1 H1 L1 st1 w1 q1 x r1 => h2 x d1 G1 H1 L1 m1 Q r1 w1 q1⟩
theorem j_callTy (hc : FunD k X E (.type T) g) (hg : Gl X x) (hm : X.mg x = none) (hv : bootBuiltins x = some (.type T)) (ha : JA k X E (a :: es) ms) (hn : x ≠ "__name__" := by decide) (hdb : (x == ("__debug__" : Str)) = false := by decide)
    (he : starEach (a :: es) X.env = (false, eval a X.env) :: starEach es X.env := by rfl) (hpl : (backTo pos (starEach es X.env)).any (·.1) = false := by rfl) : JE k X E (.Call (.Name x p) (a :: es) [] pos) (eCallB g ms) := by
  obtain ⟨r, h1, h2⟩ := hc
  refine PE.imp (pe_callTy h1 hg hm hv ha hn hdb he hpl) fun s H Q h => ?_
  obtain ⟨e, G, L, μ, sg, w, gd⟩ := h
  exact ⟨e, G, L, μ, sg, w, Good.mono (Good.bind gd) fun d1 m1 G1 H1 L1 st1 w1 q1 x r1 => h2 x d1 G1 H1 L1 m1 Q r1 w1 q1⟩
end
end DL

namespace DL
open PySem L2 PyProof.Rows

/-! ### operations on data -/
def gI (C : Int → Int → Prop) [∀ i j, Decidable (C i j)] (f : Int → Int → D) : D → D → M D
  | .int i, .int j => if C i j then pure (f i j) else M.bad
  | _, _ => M.bad
def gI0 (f : Int → Int → D) : D → D → M D
  | .int i, .int j => pure (f i j)
  | _, _ => M.bad
def addD (x y : D) : M D := match x, y with
  | .int i, .int j => pure (.int (i + j))
  | .str i, .str j => if i.length + j.length ≤ 100000 then pure (.str (i ++ j)) else M.bad
  | .tup i, .tup j => mkT (i ++ j)
  | x, y => do let i ← (match x with | .tup _ => M.bad | _ => seqD x); let j ← (match y with | .tup _ => M.bad | _ => seqD y); mkL (i ++ j)
abbrev CM (i j : Int) : Prop := (-(2 ^ 64) < i ∧ i < 2 ^ 64) ∨ (-(2 ^ 64) < j ∧ j < 2 ^ 64)
abbrev CDv (_ j : Int) : Prop := 0 < j ∧ j < 2 ^ 100
abbrev CPw (i j : Int) : Prop := 0 ≤ j ∧ j ≤ 1000 ∧ i.natAbs < 2 ^ 64
def subD : D → D → M D := gI0 fun i j => .int (i - j)
def modD : D → D → M D := gI (fun _ j => 0 < j) fun i j => .int (i % j)
def fdvD : D → D → M D := gI CDv fun i j => .int (i / j)
def powD : D → D → M D := gI CPw fun i j => .int (i ^ j.toNat)
def negD : D → M D
  | .int i => pure (.int (-i))
  | _ => M.bad
def mulD (x y : D) : M D := match x, y with
  | .int i, .int j => if CM i j then pure (.int (i * j)) else M.bad
  | .tup i, .int j => if 1 ≤ j ∧ j ≤ 1000 ∧ i.length ≤ 1000 ∧ 0 < i.length then pure (.tup (List.replicate j.toNat i).flatten) else M.bad
  | _, _ => M.bad

section
variable {k : Kx} {X : Cx} {E : XK}
theorem OpR.or {f : Value → Value → Sem Value} {r r' : R2} (h : OpR X f r) (h' : OpR X f r') : OpR X f (fun x y H Q => r x y H Q ∨ r' x y H Q) := by
  intro pins s σ H x y v u Q I rx ry q
  rcases q with q | q
  · exact h pins s σ H x y v u Q I rx ry q
  · exact h' pins s σ H x y v u Q I rx ry q
theorem OpR.weak {f : Value → Value → Sem Value} {r r' : R2} (h : OpR X f r) (q : ∀ x y H Q, r' x y H Q → r x y H Q) : OpR X f r' := by
  intro pins s σ H x y v u Q I rx ry w
  exact h pins s σ H x y v u Q I rx ry (q _ _ _ _ w)
theorem opD_I {C : Int → Int → Prop} [∀ i j, Decidable (C i j)] {C' : Int → Int → Prop} {f : Int → Int → D} {g : Int → Int → V} (hC : ∀ i j, C i j → C' i j) (hr : ∀ G L i j, Rp k X.K G L (g i j) (f i j)) : OpD k X.K E (rI C' g) (gI C f) := by
  intro x y dx dy G H L μ Q rx ry w gd
  cases dx with
  | int i =>
    cases dy with
    | int j =>
      cases rx
      cases ry
      obtain ⟨hc, gd⟩ := good_ite gd
      exact ⟨i, j, rfl, rfl, hC i j hc, Good.ret gd w _ (hr _ _ i j)⟩
    | _ => exact False.elim gd
  | _ => exact False.elim gd
theorem opD_I0 {f : Int → Int → D} {g : Int → Int → V} (hr : ∀ G L i j, Rp k X.K G L (g i j) (f i j)) : OpD k X.K E (rI0 g) (gI0 f) := by
  intro x y dx dy G H L μ Q rx ry w gd
  cases dx with
  | int i =>
    cases dy with
    | int j =>
      cases rx
      cases ry
      exact ⟨i, j, rfl, rfl, Good.ret gd w _ (hr _ _ i j)⟩
    | _ => exact False.elim gd
  | _ => exact False.elim gd
theorem b_sub : BinD k X E (binaryOp .Sub) subD := ⟨_, op_sub, opD_I0 fun _ _ _ _ => .int _⟩
theorem b_mod : BinD k X E (binaryOp .Mod) modD := ⟨_, op_mod, opD_I (fun _ _ h => h) fun _ _ _ _ => .int _⟩
theorem fdv_ok {i j : Int} (h : CDv i j) : CDivW i j := ⟨h.1, by
  have h2 : j.natAbs < 2 ^ 100 := by omega
  exact Nat.lt_of_lt_of_le (PySem.Flt.log2_lt_of (by decide) h2) (by decide)⟩
theorem b_fdv : BinD k X E (binaryOp .FloorDiv) fdvD := ⟨_, op_fdivW, opD_I (fun _ _ h => fdv_ok h) fun _ _ _ _ => .int _⟩
theorem b_pow : BinD k X E (binaryOp .Pow) powD := ⟨_, op_pow, opD_I (fun _ _ h => ⟨h.1, by have := h.2.1; omega, h.2.2⟩) fun _ _ _ _ => .int _⟩
theorem u_neg : MonD k X E (unaryOp .USub) negD := by
  refine ⟨_, un_neg, fun x dx G H L μ Q r w g => ?_⟩
  cases dx with
  | int i => cases r; exact ⟨i, rfl, Good.ret g w _ (.int _)⟩
  | _ => exact False.elim g

/-- what a list or tuple is read as, by its data -/
theorem seq_of {d : D} {x : V} {G H : Hp} {L : Lam} {μ : Store} {β : Type} {f : List D → M β} {Q : β → Store → Hp → Hp → Lam → Prop} (r : Rp k X.K G L x d) (w : Wd k X.K G H L μ) (g : Good k X.K E G H L ((seqD d >>= f) μ) Q) :
    ∃ a vs ds, x = .ref a ∧ RpA k X.K G L vs ds ∧ ((SqL X.K H a vs ∧ ∀ t, d ≠ .tup t) ∨ (SqT X.K H a vs ∧ d = .tup ds)) ∧ Good k X.K E G H L (f ds μ) Q := by
  cases d with
  | lst ds =>
    cases r with
    | lst hs ha => exact ⟨_, _, ds, rfl, ha, .inl ⟨w.ext.seq hs, fun _ z => nomatch z⟩, g⟩
  | tup ds =>
    cases r with
    | tup hs ha => exact ⟨_, _, ds, rfl, ha, .inr ⟨sqT_mono w.ext hs, rfl⟩, g⟩
  | loc n =>
    have g' : Good k X.K E G H L (M.bind (seqD (.loc n)) f μ) Q := g
    unfold M.bind seqD at g'
    simp only at g'
    cases hm : μ[n]? with
    | none => rw [hm] at g'; exact False.elim g'
    | some o =>
      cases o with
      | none => rw [hm] at g'; exact False.elim g'
      | some c =>
        cases c with
        | ins _ _ => rw [hm] at g'; exact False.elim g'
        | dct _ _ => rw [hm] at g'; exact False.elim g'
        | lst ds =>
          rw [hm] at g'
          obtain ⟨a, vs, rfl, _, _, h, ra⟩ := w.look hm r
          exact ⟨a, vs, ds, rfl, ra, .inl ⟨SqL.of h, fun _ z => nomatch z⟩, g'⟩
  | _ => exact False.elim g
/-- list + list, whatever they are read from -/
def rCatS (K : PySem.W.Frag) : R2 := fun x y H Q => ∃ l b xs zs, x = .ref l ∧ y = .ref b ∧ SqL K H l xs ∧ SqL K H b zs ∧ xs.length + zs.length ≤ sizeLine ∧ ∀ p, H p = none → Q (.ref p) (upd H p (.lst (xs ++ zs)))
theorem op_catS : OpR X (binaryOp .Add) (rCatS X.K) := by
  intro pins s σ H x y v u Q I rx ry h
  obtain ⟨l, b, xs, zs, rfl, rfl, hH, hB, hz, q⟩ := h
  cases rx
  cases ry
  obtain ⟨its, r, pl, z⟩ := I.list hH
  obtain ⟨its2, r2, pl2, z2⟩ := I.list hB
  have hl := r.length
  have hl2 := r2.length
  obtain ⟨⟨cls, dd, data, sl⟩, ho, hc, n, hd⟩ := pl.isList
  obtain ⟨⟨cls2, dd2, data2, sl2⟩, ho2, hc2, n2, hd2⟩ := pl2.isList
  simp only at hc hd hc2 hd2
  subst hc hd hc2 hd2
  have e : its.toArray ++ its2.toArray = (its ++ its2).toArray := by simp
  refine concat_meets ⟨_, ho, rfl⟩ ⟨_, ho2, rfl⟩ noFill_list_add seq_list_add PySem.F.slot_list_add PySem.F.entry_list_add (PySem.F.args_list_add_2 _ _) (list_addW l b its.toArray its2.toArray n n2 dd dd2 sl sl2 (by simp only [List.size_toArray]; omega)) ⟨ho, ho2, ?_⟩
  rw [e]
  exact ⟨.ref _, _, I.lnew (t' := s.toks) (r.append r2) (by rw [List.length_append]; omega), rfl, q _ I.fresh⟩
theorem b_add : BinD k X E (binaryOp .Add) addD := by
  refine ⟨_, OpR.or op_add (OpR.or op_add_str (OpR.or op_catA op_catS)), fun x y dx dy G H L μ Q rx ry w g => ?_⟩
  have lst : Good k X.K E G H L ((do let i ← seqD dx; let j ← seqD dy; mkL (i ++ j)) μ) (QV k X.K Q) → (∀ t, dx ≠ .tup t) → (∀ t, dy ≠ .tup t) → rCatS X.K x y H Q := fun g n1 n2 => by
    obtain ⟨a, vs, ds, rfl, ra, hs, g⟩ := seq_of rx w g
    obtain ⟨b, ws, es, rfl, rb, ht, g⟩ := seq_of ry w g
    rcases hs with ⟨hs, _⟩ | ⟨_, e⟩
    · rcases ht with ⟨ht, _⟩ | ⟨_, e⟩
      · obtain ⟨hz, q⟩ := good_mkL (ra.append rb) w g
        exact ⟨a, b, vs, ws, rfl, rfl, hs, ht, by rw [List.length_append] at hz; exact hz, q⟩
      · exact absurd e (n2 es)
    · exact absurd e (n1 ds)
  cases dx with
  | int i =>
    cases dy with
    | int j => cases rx; cases ry; exact .inl ⟨i, j, rfl, rfl, Good.ret g w _ (.int _)⟩
    | _ => exact False.elim g
  | str i =>
    cases dy with
    | str j =>
      cases rx
      cases ry
      obtain ⟨hz, g⟩ := good_ite g
      exact .inr (.inl ⟨i, j, rfl, rfl, size_of hz, Good.ret g w _ (.str _)⟩)
    | _ => exact False.elim g
  | tup ds =>
    cases dy with
    | tup es =>
      cases rx with
      | @tup a xs _ hs ha =>
        cases ry with
        | @tup b ys _ ht hb =>
          have g2 := g
          obtain ⟨hz, g1⟩ := good_ite g2
          have hs' := sqT_mono w.ext hs
          have ht' := sqT_mono w.ext ht
          refine .inr (.inr (.inl ⟨a, b, xs, ys, rfl, rfl, hs', ht', ?_, fun e => ?_, fun _ e => ?_, fun _ _ p hp => ?_⟩))
          · rw [ha.len, hb.len, ← List.length_append]
            exact size_of hz
          · subst e
            cases ha
            exact Good.ret g1 w _ (.tup ht hb)
          · subst e
            cases hb
            rw [List.append_nil] at g1
            exact Good.ret g1 w _ (.tup hs ha)
          · exact (good_mkT (ha.append hb) w g).2 p hp
    | _ => exact False.elim g
  | lst ds =>
    cases dy with
    | tup _ => exact False.elim g
    | lst es => exact .inr (.inr (.inr (lst g (fun _ z => nomatch z) fun _ z => nomatch z)))
    | loc n => exact .inr (.inr (.inr (lst g (fun _ z => nomatch z) fun _ z => nomatch z)))
    | _ => exact False.elim g
  | loc n =>
    refine .inr (.inr (.inr ?_))
    cases dy with
    | tup _ =>
      obtain ⟨a, vs, ds, rfl, ra, hs, g⟩ := seq_of (f := fun i => do let j ← (M.bad : M (List D)); mkL (i ++ j)) rx w g
      exact False.elim g
    | lst es => exact lst g (fun _ z => nomatch z) fun _ z => nomatch z
    | loc n => exact lst g (fun _ z => nomatch z) fun _ z => nomatch z
    | _ =>
      obtain ⟨a, vs, ds, rfl, ra, hs, g⟩ := seq_of rx w g
      exact False.elim g
  | _ =>
    cases dy <;> exact False.elim g
end
end DL

namespace DL
open PySem L2 PyProof.Rows

section
variable {k : Kx} {X : Cx} {E : XK}
/-! ### multiplication -/
theorem tuple_mul1 (l : Addr) (items : Array Value) (n : Nat) (dd : Option Addr) (sl : Array (Option Value)) (u : Tok) :
    Meets (Builtin.«tuple.__mul__» ⟨[.ref l, .int 1 u], []⟩) (fun _ R s => s.heap.get? l = some { cls := .type "tuple", dict := dd, data := .seq items n, slots := sl } ∧ R (.ok (.ret (Value.ref l))) s) :=
  .of_wp fun prog w A R s h => by
    obtain ⟨hp, g, d, tk, os⟩ := s
    obtain ⟨hl, h⟩ := h
    have f1 := AutoSeq1.idx_int
    have c1 : (items.isEmpty || (1 : Int) == 1) = true := by simp
    wp_walk using wpAny_loadPart' hl
    repeat (first
      | (refine wpAny_ite_true (decide_eq_true c1) ?_; wp_walk using wpAny_loadPart' hl))
    exact ⟨_, rfl, h⟩
theorem op_repT1 : OpR X (binaryOp .Mult) (fun x y H Q => ∃ l xs, x = .ref l ∧ y = .int 1 ∧ SqT X.K H l xs ∧ Q (.ref l) H) := by
  intro pins s σ H x y v u Q I rx ry h
  obtain ⟨l, xs, rfl, rfl, hT, q⟩ := h
  cases rx
  obtain ⟨t, rfl⟩ := ry
  obtain ⟨its, r, ⟨⟨cls, dd, data, sl⟩, ho, hc, n, hd⟩, hs⟩ := I.tuple hT
  simp only at hc hd
  subst hc hd
  refine wpAny_binaryOp_repeat_ref (T := "tuple") (U := "int") (by decide) ⟨_, ho, rfl⟩ (fun s' => typeIs_int s' 1 t) noFill_tuple_mul PySem.F.fills_int_mul PySem.F.slot_int_rmul repeat_tuple PySem.F.slot_int_index.lookup
    (call_meets PySem.F.slot_int_rmul (typeIs_int s 1 t) PySem.F.entry_int_rmul (PySem.F.args_int_rmul_2 _ _) (int_rmul_tuple 1 t l its.toArray n dd sl)
      ⟨ho, rfl, ⟨_, ho, rfl⟩, call_meets PySem.F.slot_tuple_mul ⟨_, ho, rfl⟩ PySem.F.entry_tuple_mul (PySem.F.args_tuple_mul_2 _ _) (tuple_mul1 l its.toArray n dd sl t) ⟨ho, ?_⟩⟩)
  exact ⟨.ref l, H, I, rfl, q⟩
theorem rpA_rep {G : Hp} {L : Lam} {vs : List V} {ds : List D} (r : RpA k X.K G L vs ds) : ∀ n : Nat, RpA k X.K G L (List.replicate n vs).flatten (List.replicate n ds).flatten
  | 0 => .nil
  | n + 1 => by
    rw [List.replicate_succ, List.replicate_succ, List.flatten_cons, List.flatten_cons]
    exact r.append (rpA_rep r n)
theorem b_mul : BinD k X E (binaryOp .Mult) mulD := by
  refine ⟨_, OpR.or op_mul (OpR.or op_repT op_repT1), fun x y dx dy G H L μ Q rx ry w g => ?_⟩
  cases dx with
  | int i =>
    cases dy with
    | int j =>
      cases rx
      cases ry
      obtain ⟨hz, g⟩ := good_ite g
      exact .inl ⟨i, j, rfl, rfl, hz, Good.ret g w _ (.int _)⟩
    | _ => exact False.elim g
  | tup ds =>
    cases dy with
    | int j =>
      cases rx with
      | @tup a xs _ hs ha =>
        cases ry
        obtain ⟨⟨h1, h2, h3, h4⟩, g⟩ := good_ite g
        by_cases hj : j = 1
        · subst hj
          refine .inr (.inr ⟨a, xs, rfl, rfl, sqT_mono w.ext hs, ?_⟩)
          have e : (List.replicate (1 : Int).toNat ds).flatten = ds := by simp
          rw [e] at g
          exact Good.ret g w _ (.tup hs ha)
        · refine .inr (.inl ⟨a, j, xs, rfl, rfl, sqT_mono w.ext hs, fun e => ?_, by omega, h2, by rw [ha.len]; exact h3, fun p hp => ?_⟩)
          · subst e
            cases ha
            simp at h4
          · exact g _ _ _ (w.newS hp) (w.new hp) _ (.tup (SqT.of upd_same) (RpA.mono (w.newS (o := .tup (List.replicate j.toNat xs).flatten) hp).g (pre_refl L) _ _ (rpA_rep ha j.toNat)))
    | _ => exact False.elim g
  | _ => cases dy <;> exact False.elim g

/-! ### data as the library's own -/
mutual
def toPD : D → Option PyData
  | .non => some .none
  | .bl b => some (.bool b)
  | .int i => some (.int i)
  | .str s => some (.str s)
  | .lst ds => (toPDs ds).map .list
  | .tup ds => (toPDs ds).map .tuple
  | .loc _ => none
  | .obj _ _ => none
  | .cls _ => none
  | .dct _ _ => none
  | .fdc _ _ => none
  | .err _ _ => none
def toPDs : List D → Option (List PyData)
  | [] => some []
  | d :: ds => match toPD d, toPDs ds with
    | some x, some xs => some (x :: xs)
    | _, _ => none
end
theorem toPDs_cons {d : D} {ds : List D} {xs : List PyData} (h : toPDs (d :: ds) = some xs) : ∃ y ys, xs = y :: ys ∧ toPD d = some y ∧ toPDs ds = some ys := by
  rw [toPDs] at h
  cases e1 : toPD d with
  | none => rw [e1] at h; cases h
  | some y =>
    cases e2 : toPDs ds with
    | none => rw [e1, e2] at h; cases h
    | some ys =>
      rw [e1, e2] at h
      cases h
      exact ⟨y, ys, rfl, rfl, rfl⟩
mutual
theorem dp_of {G H : Hp} {L : Lam} (e : Same G H) : ∀ (d : D) (v : V) (x : PyData), Rp k X.K G L v d → toPD d = some x → Dp X.K H v x
  | .non, _, _, r, h => by cases r; simp only [toPD] at h; cases h; exact .non
  | .bl b, _, _, r, h => by cases r; simp only [toPD] at h; cases h; exact .bl b
  | .int i, _, _, r, h => by cases r; simp only [toPD] at h; cases h; exact .int i
  | .str i, _, _, r, h => by cases r; simp only [toPD] at h; cases h; exact .str i
  | .lst ds, _, _, r, h => by
    cases r with
    | lst hs ha =>
      simp only [toPD] at h
      cases e2 : toPDs ds with
      | none => rw [e2] at h; cases h
      | some ys =>
        rw [e2] at h
        cases h
        exact .lst (e.seq hs) (dpA_of e ds _ ys ha e2)
  | .tup ds, _, _, r, h => by
    cases r with
    | tup hs ha =>
      simp only [toPD] at h
      cases e2 : toPDs ds with
      | none => rw [e2] at h; cases h
      | some ys =>
        rw [e2] at h
        cases h
        exact .tup (sqT_mono e hs) (dpA_of e ds _ ys ha e2)
  | .loc _, _, _, r, h => by simp only [toPD] at h; cases h
  | .obj _ _, _, _, r, h => by simp only [toPD] at h; cases h
  | .cls _, _, _, r, h => by simp only [toPD] at h; cases h
  | .dct _ _, _, _, r, h => by simp only [toPD] at h; cases h
  | .fdc _ _, _, _, r, h => by simp only [toPD] at h; cases h
  | .err _ _, _, _, r, h => by simp only [toPD] at h; cases h
theorem dpA_of {G H : Hp} {L : Lam} (e : Same G H) : ∀ (ds : List D) (vs : List V) (xs : List PyData), RpA k X.K G L vs ds → toPDs ds = some xs → DpAll X.K H vs xs
  | [], _, _, r, h => by cases r; simp only [toPDs] at h; cases h; exact .nil
  | d :: ds, _, _, r, h => by
    cases r with
    | cons h1 h2 =>
      obtain ⟨y, ys, rfl, e1, e2⟩ := toPDs_cons h
      exact .cons (dp_of e d _ y h1 e1) (dpA_of e ds _ ys h2 e2)
end
/-- with a mutable list's items at the top -/
def topPD (d : D) (m : Store) : Option PyData := match d with
  | .loc n => match m[n]? with
    | some (some (.lst ds)) => (toPDs ds).map .list
    | _ => none
  | d => toPD d
theorem dp_top {G H : Hp} {L : Lam} {μ : Store} (w : Wd k X.K G H L μ) {d : D} {v : V} {x : PyData} (r : Rp k X.K G L v d) (h : topPD d μ = some x) : Dp X.K H v x := by
  cases d with
  | loc n =>
    simp only [topPD] at h
    cases hm : μ[n]? with
    | none => rw [hm] at h; cases h
    | some o =>
      cases o with
      | none => rw [hm] at h; cases h
      | some c =>
        cases c with
        | ins _ _ => rw [hm] at h; cases h
        | dct _ _ => rw [hm] at h; cases h
        | lst ds =>
          rw [hm] at h
          obtain ⟨a, vs, rfl, hl, ga, hh, ra⟩ := w.look hm r
          simp only at h
          cases e2 : toPDs ds with
          | none => rw [e2] at h; cases h
          | some ys =>
            rw [e2] at h
            cases h
            exact .lst (SqL.of hh) (dpA_of w.ext ds _ ys ra e2)
  | _ => exact dp_of w.ext _ v x r h
def onPD (f : PyData → PyData → Bool) (x y : D) : M D := fun m => match topPD x m, topPD y m with
  | some a, some b => if (SeqAt.shaped a && SeqAt.shaped b) = true then .ok (.bl (f a b)) m else .bad
  | _, _ => .bad
def eqD : D → D → M D := onPD PyData.eqv
def neD : D → D → M D := onPD fun a b => !PyData.eqv a b
theorem onPD_good {f : PyData → PyData → Bool} {x y : D} {G H : Hp} {L : Lam} {μ : Store} {Q : VK} (w : Wd k X.K G H L μ) (g : Good k X.K E G H L (onPD f x y μ) (QV k X.K Q)) :
    ∃ a b, topPD x μ = some a ∧ topPD y μ = some b ∧ SeqAt.shaped a = true ∧ SeqAt.shaped b = true ∧ Q (.bl (f a b)) H := by
  unfold onPD at g
  cases e1 : topPD x μ with
  | none => rw [e1] at g; exact False.elim g
  | some a =>
    cases e2 : topPD y μ with
    | none => rw [e1, e2] at g; exact False.elim g
    | some b =>
      simp only [e1, e2] at g
      by_cases hc : (SeqAt.shaped a && SeqAt.shaped b) = true
      · rw [if_pos hc] at g
        obtain ⟨h1, h2⟩ := Bool.and_eq_true_iff.mp hc
        exact ⟨a, b, rfl, rfl, h1, h2, Good.okE g w _ (.bl _)⟩
      · rw [if_neg hc] at g
        exact False.elim g
theorem b_eq (hu : X.A.units + 64 < cLine) : BinD k X E (compareOp .Eq) eqD := by
  refine ⟨_, op_eqD hu, fun x y dx dy G H L μ Q rx ry w g => ?_⟩
  obtain ⟨a, b, e1, e2, h1, h2, q⟩ := onPD_good w g
  exact ⟨a, b, dp_top w rx e1, dp_top w ry e2, h1, h2, q⟩
theorem b_ne (hu : X.A.units + 64 < cLine) : BinD k X E (compareOp .NotEq) neD := by
  refine ⟨_, op_neD hu, fun x y dx dy G H L μ Q rx ry w g => ?_⟩
  obtain ⟨a, b, e1, e2, h1, h2, q⟩ := onPD_good w g
  exact ⟨a, b, dp_top w rx e1, dp_top w ry e2, h1, h2, q⟩
/-! order -/
def intsD : List D → Option (List Int)
  | [] => some []
  | .int i :: ds => (intsD ds).map (i :: ·)
  | _ :: _ => none
theorem intsD_of {G : Hp} {L : Lam} : ∀ {ds : List D} {vs : List V} {ns : List Int}, RpA k X.K G L vs ds → intsD ds = some ns → vs = ns.map V.int
  | [], _, _, r, h => by cases r; cases h; rfl
  | d :: ds, _, _, r, h => by
    cases d with
    | int i =>
      simp only [intsD] at h
      cases e : intsD ds with
      | none => rw [e] at h; cases h
      | some ms =>
        rw [e] at h
        cases h
        cases r with
        | cons h1 h2 =>
          cases h1
          rw [intsD_of h2 e]
          rfl
    | _ => cases h
def ltD (x y : D) : M D := match x, y with
  | .int i, .int j => pure (.bl (decide (i < j)))
  | .tup a, .tup b => match intsD a, intsD b with
    | some ns, some ms => pure (.bl (HT.lexLt ns ms))
    | _, _ => M.bad
  | _, _ => M.bad
def leD : D → D → M D := gI0 fun i j => .bl (decide (i ≤ j))
def gtD : D → D → M D := gI0 fun i j => .bl (decide (j < i))
def geD : D → D → M D := gI0 fun i j => .bl (decide (j ≤ i))
theorem b_lt (hu : X.A.units < cLine) : BinD k X E (compareOp .Lt) ltD := by
  refine ⟨_, OpR.or op_lt (op_ltT hu), fun x y dx dy G H L μ Q rx ry w g => ?_⟩
  cases dx with
  | int i =>
    cases dy with
    | int j => cases rx; cases ry; exact .inl ⟨i, j, rfl, rfl, Good.ret g w _ (.bl _)⟩
    | _ => exact False.elim g
  | tup a =>
    cases dy with
    | tup b =>
      have g' : Good k X.K E G H L ((match intsD a, intsD b with | some ns, some ms => (pure (.bl (HT.lexLt ns ms)) : M D) | _, _ => M.bad) μ) (QV k X.K Q) := g
      cases e1 : intsD a with
      | none => rw [e1] at g'; exact False.elim g'
      | some ns =>
        cases e2 : intsD b with
        | none => rw [e1, e2] at g'; exact False.elim g'
        | some ms =>
          rw [e1, e2] at g'
          cases rx with
          | tup hs ha =>
            cases ry with
            | tup ht hb =>
              have z1 := intsD_of ha e1
              have z2 := intsD_of hb e2
              subst z1 z2
              exact .inr ⟨_, _, ns, ms, rfl, rfl, sqT_mono w.ext hs, sqT_mono w.ext ht, Good.ret g' w _ (.bl _)⟩
    | _ => exact False.elim g
  | _ => cases dy <;> exact False.elim g
theorem b_le : BinD k X E (compareOp .LtE) leD := ⟨_, op_le, opD_I0 fun _ _ _ _ => .bl _⟩
theorem b_gt : BinD k X E (compareOp .Gt) gtD := ⟨_, op_gt, opD_I0 fun _ _ _ _ => .bl _⟩
theorem b_ge : BinD k X E (compareOp .GtE) geD := ⟨_, op_ge, opD_I0 fun _ _ _ _ => .bl _⟩
/-! is, is not -/
def isD (neg : Bool) (x y : D) : M D := match x, y with
  | .bl a, .bl b => pure (.bl (if neg then !decide (a = b) else decide (a = b)))
  | x, .non => pure (.bl (match x with | .non => !neg | _ => neg))
  | _, _ => M.bad
theorem rp_non {G : Hp} {L : Lam} {x : V} {d : D} (r : Rp k X.K G L x d) : decide (x = V.non) = (match d with | .non => true | _ => false) := by
  cases r <;> simp
theorem isD_of {neg : Bool} {x y : V} {dx dy : D} {G H : Hp} {L : Lam} {μ : Store} {Q : VK} (rx : Rp k X.K G L x dx) (ry : Rp k X.K G L y dy) (w : Wd k X.K G H L μ) (g : Good k X.K E G H L (isD neg dx dy μ) (QV k X.K Q)) :
    (y = .non ∧ Q (.bl (if neg then !decide (x = .non) else decide (x = .non))) H) ∨ ∃ a b, x = .bl a ∧ y = .bl b ∧ Q (.bl (if neg then !decide (a = b) else decide (a = b))) H := by
  cases dy with
  | non =>
    cases ry
    refine .inl ⟨rfl, ?_⟩
    rw [rp_non rx]
    cases dx <;> (cases neg <;> exact Good.ret g w _ (.bl _))
  | bl b =>
    cases dx with
    | bl a =>
      cases rx
      cases ry
      exact .inr ⟨a, b, rfl, rfl, Good.ret g w _ (.bl _)⟩
    | _ => exact False.elim g
  | _ => cases dx <;> exact False.elim g
theorem b_is : BinD k X E (compareOp .Is) (isD false) := ⟨_, OpR.or op_isN op_is_bl, fun x y dx dy G H L μ Q rx ry w g => isD_of (neg := false) rx ry w g⟩
theorem b_isnot : BinD k X E (compareOp .IsNot) (isD true) := ⟨_, OpR.or op_notN op_isnot_bl, fun x y dx dy G H L μ Q rx ry w g => isD_of (neg := true) rx ry w g⟩
/-! in, not in: a list of any data, a tuple of flat ones -/
def flatD : D → Bool
  | .non => true
  | .bl _ => true
  | .int _ => true
  | .str _ => true
  | _ => false
def eqFl : D → D → Bool
  | .non, .non => true
  | .bl a, .bl b => a == b
  | .bl a, .int b => (if a then 1 else 0) == b
  | .int a, .bl b => a == (if b then 1 else 0)
  | .int a, .int b => a == b
  | .str a, .str b => a == b
  | _, _ => false
def pdItems : PyData → List PyData
  | .list xs => xs
  | .tuple xs => xs
  | _ => []
def inD (neg : Bool) (x y : D) : M D := fun m => match y with
  | .tup ds => if (flatD x && ds.all flatD) = true then .ok (.bl (if neg then !(ds.any fun z => eqFl z x) else ds.any fun z => eqFl z x)) m else .bad
  | y => match topPD x m, topPD y m with
    | some a, some (.list bs) => if (SeqAt.shaped a && SeqAt.shaped (.list bs)) = true then .ok (.bl (if neg then !(bs.any fun z => PyData.eqv z a) else bs.any fun z => PyData.eqv z a)) m else .bad
    | _, _ => .bad
theorem flat_of {G : Hp} {L : Lam} {x : V} {d : D} (r : Rp k X.K G L x d) (h : flatD d = true) : flatV x = true := by
  cases r <;> first | rfl | cases h
theorem eqFl_of {G : Hp} {L : Lam} {x y : V} {d e : D} (r : Rp k X.K G L x d) (q : Rp k X.K G L y e) (h : flatD d = true) (h' : flatD e = true) : eqV x y = eqFl d e := by
  cases r <;> first | (cases q <;> first | rfl | (exact absurd h' (by simp [flatD]))) | (exact absurd h (by simp [flatD]))
theorem flatA_of {G : Hp} {L : Lam} {y : V} {e : D} (q : Rp k X.K G L y e) (h' : flatD e = true) : ∀ {vs : List V} {ds : List D}, RpA k X.K G L vs ds → ds.all flatD = true → vs.all flatV = true ∧ inV y vs = ds.any fun z => eqFl z e
  | _, [], r, _ => by cases r; exact ⟨rfl, rfl⟩
  | _, d :: ds, r, h => by
    cases r with
    | cons h1 h2 =>
      rw [List.all_cons, Bool.and_eq_true] at h
      obtain ⟨i1, i2⟩ := flatA_of q h' h2 h.2
      refine ⟨by rw [List.all_cons, flat_of h1 h.1, i1]; rfl, ?_⟩
      unfold inV at i2 ⊢
      rw [List.any_cons, List.any_cons, i2, eqFl_of h1 q h.1 h']
theorem inD_of {neg : Bool} {x y : V} {dx dy : D} {G H : Hp} {L : Lam} {μ : Store} {Q : VK} (rx : Rp k X.K G L x dx) (ry : Rp k X.K G L y dy) (w : Wd k X.K G H L μ) (g : Good k X.K E G H L (inD neg dx dy μ) (QV k X.K Q)) :
    rIn X.K neg x y H Q ∨ ∃ d ds, Dp X.K H x d ∧ Dp X.K H y (.list ds) ∧ SeqAt.shaped d = true ∧ SeqAt.shaped (.list ds) = true ∧ Q (.bl (if neg then !(ds.any fun z => PyData.eqv z d) else ds.any fun z => PyData.eqv z d)) H := by
  have two : Good k X.K E G H L (match topPD dx μ, topPD dy μ with
    | some a, some (.list bs) => if (SeqAt.shaped a && SeqAt.shaped (.list bs)) = true then .ok (.bl (if neg then !(bs.any fun z => PyData.eqv z a) else bs.any fun z => PyData.eqv z a)) μ else .bad
    | _, _ => .bad) (QV k X.K Q) → ∃ d ds, Dp X.K H x d ∧ Dp X.K H y (.list ds) ∧ SeqAt.shaped d = true ∧ SeqAt.shaped (.list ds) = true ∧ Q (.bl (if neg then !(ds.any fun z => PyData.eqv z d) else ds.any fun z => PyData.eqv z d)) H := fun g => by
    cases e1 : topPD dx μ with
    | none => rw [e1] at g; exact False.elim g
    | some a =>
      cases e2 : topPD dy μ with
      | none => rw [e1, e2] at g; exact False.elim g
      | some b =>
        cases b with
        | list bs =>
          simp only [e1, e2] at g
          by_cases hc : (SeqAt.shaped a && SeqAt.shaped (.list bs)) = true
          · rw [if_pos hc] at g
            obtain ⟨h1, h2⟩ := Bool.and_eq_true_iff.mp hc
            exact ⟨a, bs, dp_top w rx e1, dp_top w ry e2, h1, h2, Good.okE g w _ (.bl _)⟩
          · rw [if_neg hc] at g
            exact False.elim g
        | _ => rw [e1, e2] at g; exact False.elim g
  cases dy with
  | tup ds =>
    simp only [inD] at g
    by_cases hc : (flatD dx && ds.all flatD) = true
    · rw [if_pos hc] at g
      obtain ⟨h1, h2⟩ := Bool.and_eq_true_iff.mp hc
      cases ry with
      | tup hs ha =>
        obtain ⟨i1, i2⟩ := flatA_of rx h1 ha h2
        refine .inl ⟨_, _, rfl, .inr (sqT_mono w.ext hs), flat_of rx h1, i1, ?_⟩
        rw [i2]
        exact Good.okE g w _ (.bl _)
    · rw [if_neg hc] at g
      exact False.elim g
  | _ => exact .inr (two g)
theorem b_in (hu : X.A.units + 65 < cLine) : BinD k X E (compareOp .In) (inD false) := ⟨_, OpR.or op_in_seq (op_inD hu), fun x y dx dy G H L μ Q rx ry w g => inD_of (neg := false) rx ry w g⟩
theorem b_notin (hu : X.A.units + 65 < cLine) : BinD k X E (compareOp .NotIn) (inD true) := ⟨_, OpR.or op_notIn_seq (op_notInD hu), fun x y dx dy G H L μ Q rx ry w g => inD_of (neg := true) rx ry w g⟩
end
end DL

namespace DL
open PySem L2 PyProof.Rows

/-! ### built-ins -/
def lenD : List D → M D
  | [.str x] => if x.length ≤ 100000 then pure (.int x.length) else M.bad
  | [d] => do let ds ← seqD d; pure (.int ds.length)
  | _ => M.bad
def tupleD : List D → M D
  | [.tup ds] => pure (.tup ds)
  | [d] => do let ds ← seqD d; mkT ds
  | _ => M.bad
def listD : List D → M D
  | [d] => do let ds ← seqD d; mkL ds
  | _ => M.bad
def listDM : List D → M D
  | [d] => do let ds ← seqD d; newM ds
  | _ => M.bad
def intD : List D → M D
  | [.int i] => pure (.int i)
  | [.bl b] => pure (.int (if b then 1 else 0))
  | _ => M.bad
def maxD : List D → M D
  | [.int i, .int j] => pure (.int (if j > i then j else i))
  | _ => M.bad
def minD : List D → M D
  | [.int i, .int j] => pure (.int (if j < i then j else i))
  | _ => M.bad
def sumD : List D → M D
  | [.tup _] => M.bad
  | [d] => do
    let ds ← seqD d
    match intsD ds with
      | some ns => pure (.int ns.sum)
      | none => M.bad
  | _ => M.bad
/-- truth of a flat thing -/
def truF : D → Option Bool
  | .non => some false
  | .bl b => some b
  | .int i => some (i != 0)
  | _ => none
def truFs : List D → Option (List Bool)
  | [] => some []
  | d :: ds => match truF d, truFs ds with
    | some b, some bs => some (b :: bs)
    | _, _ => none
def allD : List D → M D
  | [d] => do
    let ds ← seqD d
    match truFs ds with
      | some bs => pure (.bl (bs.all id))
      | none => M.bad
  | _ => M.bad
def anyD : List D → M D
  | [d] => do
    let ds ← seqD d
    match truFs ds with
      | some bs => pure (.bl (bs.any id))
      | none => M.bad
  | _ => M.bad

section
variable {k : Kx} {X : Cx} {E : XK}
theorem CallR.or2 {f : Value} {r r' : List V → Hp → VK → Prop} (h : CallR X f r) (h' : CallR X f r') : CallR X f (fun xs H Q => r xs H Q ∨ r' xs H Q) := CallR.or h h'
theorem one_of {G H : Hp} {L : Lam} {xs : List V} {d : D} (r : RpA k X.K G L xs [d]) : ∃ v, xs = [v] ∧ Rp k X.K G L v d := by
  cases r with
  | cons h1 h2 => cases h2; exact ⟨_, rfl, h1⟩
theorem two_of {G H : Hp} {L : Lam} {xs : List V} {d e : D} (r : RpA k X.K G L xs [d, e]) : ∃ v u, xs = [v, u] ∧ Rp k X.K G L v d ∧ Rp k X.K G L u e := by
  cases r with
  | cons h1 h2 =>
    cases h2 with
    | cons h3 h4 => cases h4; exact ⟨_, _, rfl, h1, h3⟩
theorem f_len : FunD k X E (.builtin "len") lenD := by
  refine ⟨_, CallR.or call_len_seq call_len_str, fun xs ds G H L μ Q r w g => ?_⟩
  match ds, r, g with
  | [], _, g => exact False.elim g
  | [d], r, g =>
    obtain ⟨v, rfl, r'⟩ := one_of (H := H) r
    replace r := r'
    have sq : Good k X.K E G H L ((do let ds ← seqD d; (pure (D.int ds.length) : M D)) μ) (QV k X.K Q) → ∃ p ys, [v] = [V.ref p] ∧ (SqL X.K H p ys ∨ SqT X.K H p ys) ∧ Q (.int ys.length) H := fun g => by
      obtain ⟨a, vs, ds, rfl, ra, hs, g⟩ := seq_of r w g
      refine ⟨a, vs, rfl, ?_, ?_⟩
      · rcases hs with ⟨hs, _⟩ | ⟨hs, _⟩
        · exact .inl hs
        · exact .inr hs
      · rw [ra.len]
        exact Good.ret g w _ (.int _)
    cases d with
    | str x =>
      cases r
      obtain ⟨hz, g⟩ := good_ite g
      exact .inr ⟨x, rfl, size_of hz, Good.ret g w _ (.int _)⟩
    | _ => exact .inl (sq g)
  | x :: _ :: _, _, g => cases x <;> exact False.elim g
theorem f_tuple : FunD k X E (.type "tuple") tupleD := by
  refine ⟨_, call_tuple_of, fun xs ds G H L μ Q r w g => ?_⟩
  match ds, r, g with
  | [], _, g => exact False.elim g
  | [d], r, g =>
    obtain ⟨v, rfl, r'⟩ := one_of (H := H) r
    replace r := r'
    have sq : Good k X.K E G H L ((do let ds ← seqD d; mkT ds) μ) (QV k X.K Q) → (∀ t, d ≠ .tup t) → ∃ p ys, [v] = [V.ref p] ∧ ((SqL X.K H p ys ∧ ∀ l, H l = none → Q (.ref l) (upd H l (.tup ys))) ∨ (SqT X.K H p ys ∧ Q (.ref p) H)) := fun g nt => by
      obtain ⟨a, vs, ds, rfl, ra, hs, g⟩ := seq_of r w g
      rcases hs with ⟨hs, _⟩ | ⟨hs, e⟩
      · exact ⟨a, vs, rfl, .inl ⟨hs, (good_mkT ra w g).2⟩⟩
      · exact absurd e (nt ds)
    cases d with
    | tup ds =>
      cases r with
      | tup hs ha => exact ⟨_, _, rfl, .inr ⟨sqT_mono w.ext hs, Good.ret g w _ (.tup hs ha)⟩⟩
    | _ => exact sq g fun _ z => nomatch z
  | x :: _ :: _, _, g => cases x <;> exact False.elim g
theorem f_list : FunD k X E (.type "list") listD := by
  refine ⟨_, call_list_of, fun xs ds G H L μ Q r w g => ?_⟩
  match ds, r, g with
  | [], _, g => exact False.elim g
  | [d], r, g =>
    obtain ⟨v, rfl, r'⟩ := one_of (H := H) r
    replace r := r'
    obtain ⟨a, vs, ds, rfl, ra, hs, g⟩ := seq_of r w g
    refine ⟨a, vs, rfl, ?_, (good_mkL ra w g).2⟩
    rcases hs with ⟨hs, _⟩ | ⟨hs, _⟩
    · exact .inl hs
    · exact .inr hs
  | _ :: _ :: _, _, g => exact False.elim g
theorem f_listM : FunD k X E (.type "list") listDM := by
  refine ⟨_, call_list_of, fun xs ds G H L μ Q r w g => ?_⟩
  match ds, r, g with
  | [], _, g => exact False.elim g
  | [d], r, g =>
    obtain ⟨v, rfl, r'⟩ := one_of (H := H) r
    replace r := r'
    obtain ⟨a, vs, ds, rfl, ra, hs, g⟩ := seq_of r w g
    refine ⟨a, vs, rfl, ?_, (good_newM ra w g).2⟩
    rcases hs with ⟨hs, _⟩ | ⟨hs, _⟩
    · exact .inl hs
    · exact .inr hs
  | _ :: _ :: _, _, g => exact False.elim g
theorem f_int : FunD k X E (.type "int") intD := by
  refine ⟨_, call_int1, fun xs ds G H L μ Q r w g => ?_⟩
  match ds, r, g with
  | [], _, g => exact False.elim g
  | [d], r, g =>
    obtain ⟨v, rfl, r'⟩ := one_of (H := H) r
    replace r := r'
    cases d with
    | int i => cases r; exact .inl ⟨i, rfl, Good.ret g w _ (.int _)⟩
    | bl i => cases r; exact .inr ⟨i, rfl, Good.ret g w _ (.int _)⟩
    | _ => exact False.elim g
  | x :: _ :: _, _, g => cases x <;> exact False.elim g
theorem f_max (hc : X.calm = true) : FunD k X E (.builtin "max") maxD := by
  refine ⟨_, call_max2 hc, fun xs ds G H L μ Q r w g => ?_⟩
  match ds, r, g with
  | [], _, g => exact False.elim g
  | [x], _, g => cases x <;> exact False.elim g
  | [x, y], r, g =>
    obtain ⟨v, u, rfl, r1, r2⟩ := two_of (H := H) r
    cases x with
    | int i =>
      cases y with
      | int j => cases r1; cases r2; exact ⟨i, j, rfl, Good.ret g w _ (.int _)⟩
      | _ => exact False.elim g
    | _ => exact False.elim g
  | x :: y :: _ :: _, _, g => cases x <;> (cases y <;> exact False.elim g)
theorem f_min (hc : X.calm = true) : FunD k X E (.builtin "min") minD := by
  refine ⟨_, call_min2 hc, fun xs ds G H L μ Q r w g => ?_⟩
  match ds, r, g with
  | [], _, g => exact False.elim g
  | [x], _, g => cases x <;> exact False.elim g
  | [x, y], r, g =>
    obtain ⟨v, u, rfl, r1, r2⟩ := two_of (H := H) r
    cases x with
    | int i =>
      cases y with
      | int j => cases r1; cases r2; exact ⟨i, j, rfl, Good.ret g w _ (.int _)⟩
      | _ => exact False.elim g
    | _ => exact False.elim g
  | x :: y :: _ :: _, _, g => cases x <;> (cases y <;> exact False.elim g)
theorem f_sum (hc : X.calm = true) : FunD k X E (.builtin "sum") sumD := by
  refine ⟨_, cr_sum hc, fun xs ds G H L μ Q r w g => ?_⟩
  match ds, r, g with
  | [], _, g => exact False.elim g
  | [d], r, g =>
    obtain ⟨v, rfl, r'⟩ := one_of (H := H) r
    replace r := r'
    have sq : Good k X.K E G H L ((do let ds ← seqD d; match intsD ds with | some ns => (pure (.int ns.sum) : M D) | none => M.bad) μ) (QV k X.K Q) → (∀ t, d ≠ .tup t) → rSum X.K [v] H Q := fun g nt => by
      obtain ⟨a, vs, ds, rfl, ra, hs, g⟩ := seq_of (f := fun ds => match intsD ds with | some ns => (pure (.int ns.sum) : M D) | none => M.bad) r w g
      rcases hs with ⟨hs, _⟩ | ⟨hs, e⟩
      · cases e : intsD ds with
        | none => simp only [e] at g; exact False.elim g
        | some ns =>
          simp only [e] at g
          rw [intsD_of ra e] at hs
          exact ⟨a, ns, rfl, hs, Good.ret g w _ (.int _)⟩
      · exact absurd e (nt ds)
    cases d with
    | tup ds => exact False.elim g
    | _ => exact sq g fun _ z => nomatch z
  | x :: _ :: _, _, g => cases x <;> exact False.elim g
/-! any, all over a list or tuple of flat things -/
def truV : V → Option Bool
  | .non => some false
  | .bl b => some b
  | .int i => some (i != 0)
  | _ => none
def TruL (vs : List V) (bs : List Bool) : Prop := vs.map truV = bs.map some
theorem truL_of {G : Hp} {L : Lam} : ∀ {vs : List V} {ds : List D} {bs : List Bool}, RpA k X.K G L vs ds → truFs ds = some bs → TruL vs bs
  | _, [], bs, r, h => by cases r; cases h; rfl
  | _, d :: ds, bs, r, h => by
    cases r with
    | @cons v vs _ _ h1 h2 =>
      rw [truFs] at h
      cases e1 : truF d with
      | none => rw [e1] at h; cases h
      | some b =>
        cases e2 : truFs ds with
        | none => rw [e1, e2] at h; cases h
        | some bs' =>
          rw [e1, e2] at h
          cases h
          have i := truL_of h2 e2
          unfold TruL at i ⊢
          rw [List.map_cons, List.map_cons, i]
          have : truV v = some b := by
            cases h1 <;> first | exact e1 | cases e1
          rw [this]
theorem truth_flat {prog : Program} {w : World} {A : Around} {vs : List V} {bs : List Bool} {its : List Value} (h : TruL vs bs) (r : Vals vs its) :
    TruthOf prog w A (fun i v => its.toArray[i]? = some v) (fun i => bs.getD i false) := fun i v s Q E' hv hq => by
  have hv' : its[i]? = some v := by simpa using hv
  have hi : i < vs.length := by
    have := (List.getElem?_eq_some_iff.mp hv').1
    rw [r.length]
    exact this
  obtain ⟨u, e1, e2⟩ := r.get (List.getElem?_eq_getElem hi)
  rw [hv'] at e1
  cases e1
  have hb : (vs.map truV)[i]? = (bs.map some)[i]? := by rw [h]
  rw [List.getElem?_map, List.getElem?_map, List.getElem?_eq_getElem hi] at hb
  cases eb : bs[i]? with
  | none => rw [eb] at hb; cases hb
  | some b =>
    rw [eb] at hb
    have ht : truV vs[i] = some b := by simpa using hb
    have hg : bs.getD i false = b := by rw [List.getD_eq_getElem?_getD, eb] <;> rfl
    have hq' : Q (bs.getD i false) s := hq
    rw [hg] at hq'
    cases ev : vs[i] with
    | non =>
      rw [ev] at e2 ht
      cases e2
      cases ht
      exact truthy_none hq'
    | bl c =>
      rw [ev] at e2 ht
      cases e2
      cases ht
      exact wpAny_truthy_bool hq'
    | int c =>
      rw [ev] at e2 ht
      obtain ⟨t, rfl⟩ := e2
      cases ht
      exact PySem.P.truthy_int hq'
    | _ => rw [ev] at ht; cases ht
def rAnyS (K : PySem.W.Frag) (f : List Bool → Bool) : List V → Hp → VK → Prop := fun xs H Q => ∃ (a : Addr) (vs : List V) (bs : List Bool), xs = [V.ref a] ∧ (SqL K H a vs ∨ SqT K H a vs) ∧ TruL vs bs ∧ Q (.bl (f bs)) H
theorem truL_len {vs : List V} {bs : List Bool} (h : TruL vs bs) : vs.length = bs.length := by
  have := congrArg List.length h
  simpa using this
theorem iter_anyT {prog : Program} {w : World} {A : Around} {E : Value → Shared → Prop} {s : Shared} {l : Addr} {items : Array Value} {Q : Value → Shared → Prop} (hl : s.heap.IsTuple l items)
    (h : ∀ s₂ : Shared, s₂ = { s with heap := s.heap.push { cls := .type "tuple_iterator", data := .fields #[.ref l, .int 0 0] } } →
      (s₂.heap.IsTupleIter s.heap.objs.size l 0 ∧ s₂.heap.IsTuple l items) → l ≠ s.heap.objs.size → Q (.ref s.heap.objs.size) s₂) : wpAny (model prog w) A (pyIter (.ref l)) Q E s := by
  have hlt : l < s.heap.objs.size := by obtain ⟨_, e, _⟩ := hl; exact Heap.lt_size e
  refine wpAny_pyIter_tuple hl (h _ rfl ⟨⟨_, Heap.get?_push_size _ rfl, rfl, rfl⟩, ?_⟩ (Nat.ne_of_lt hlt))
  obtain ⟨o, e, c⟩ := hl
  exact ⟨o, Heap.get?_push_of_some _ e, c⟩
theorem cr_anyS (hc : X.calm = true) : CallR X (.builtin "any") (rAnyS X.K fun bs => bs.any id) := by
  intro pins s σ H vs us Q I r h
  obtain ⟨a, xs, bs, rfl, hs, ht, q⟩ := h
  rw [Vals.ref1 r]
  have hn := truL_len ht
  rcases hs with hs | hs
  · obtain ⟨its, rv, hl, _⟩ := I.list hs
    have hln := rv.length
    refine call_any_walk (iter_any hl.isList fun s₂ e2 st hne => ?_)
    subst e2
    refine ⟨_, _, _, _, _, _, _, rfl, Walks.list (A := X.A.in1) (I.ok.hd hc) _ a hne its.toArray, st, truth_flat ht rv, fun h' tk hk => ?_⟩
    refine ⟨.bl _, H, I.kept fun b o eo => hk b o (fun hmem => ?_) (Heap.get?_push_of_some _ eo), ?_, q⟩
    · rcases List.mem_cons.mp hmem with e1 | hmem
      · exact absurd (e1 ▸ Heap.lt_size eo) (Nat.lt_irrefl _)
      · cases hmem
    · show Value.bool _ = Value.bool _
      show Value.bool _ = Value.bool (bs.any id)
      rw [← L2.any_range, List.size_toArray, ← hln, hn]
  · obtain ⟨its, rv, hl, _⟩ := I.tuple hs
    have hln := rv.length
    refine call_any_walk (iter_anyT hl fun s₂ e2 st hne => ?_)
    subst e2
    refine ⟨_, _, _, _, _, _, _, rfl, Walks.tuple (A := X.A.in1) (I.ok.hd hc) _ a hne its.toArray, st, truth_flat ht rv, fun h' tk hk => ?_⟩
    refine ⟨.bl _, H, I.kept fun b o eo => hk b o (fun hmem => ?_) (Heap.get?_push_of_some _ eo), ?_, q⟩
    · rcases List.mem_cons.mp hmem with e1 | hmem
      · exact absurd (e1 ▸ Heap.lt_size eo) (Nat.lt_irrefl _)
      · cases hmem
    · show Value.bool _ = Value.bool _
      show Value.bool _ = Value.bool (bs.any id)
      rw [← L2.any_range, List.size_toArray, ← hln, hn]
theorem cr_allS (hc : X.calm = true) : CallR X (.builtin "all") (rAnyS X.K fun bs => bs.all id) := by
  intro pins s σ H vs us Q I r h
  obtain ⟨a, xs, bs, rfl, hs, ht, q⟩ := h
  rw [Vals.ref1 r]
  have hn := truL_len ht
  rcases hs with hs | hs
  · obtain ⟨its, rv, hl, _⟩ := I.list hs
    have hln := rv.length
    refine call_all_walk (iter_any hl.isList fun s₂ e2 st hne => ?_)
    subst e2
    refine ⟨_, _, _, _, _, _, _, rfl, Walks.list (A := X.A.in1) (I.ok.hd hc) _ a hne its.toArray, st, truth_flat ht rv, fun h' tk hk => ?_⟩
    refine ⟨.bl _, H, I.kept fun b o eo => hk b o (fun hmem => ?_) (Heap.get?_push_of_some _ eo), ?_, q⟩
    · rcases List.mem_cons.mp hmem with e1 | hmem
      · exact absurd (e1 ▸ Heap.lt_size eo) (Nat.lt_irrefl _)
      · cases hmem
    · show Value.bool _ = Value.bool _
      show Value.bool _ = Value.bool (bs.all id)
      rw [← L2.all_range, List.size_toArray, ← hln, hn]
  · obtain ⟨its, rv, hl, _⟩ := I.tuple hs
    have hln := rv.length
    refine call_all_walk (iter_anyT hl fun s₂ e2 st hne => ?_)
    subst e2
    refine ⟨_, _, _, _, _, _, _, rfl, Walks.tuple (A := X.A.in1) (I.ok.hd hc) _ a hne its.toArray, st, truth_flat ht rv, fun h' tk hk => ?_⟩
    refine ⟨.bl _, H, I.kept fun b o eo => hk b o (fun hmem => ?_) (Heap.get?_push_of_some _ eo), ?_, q⟩
    · rcases List.mem_cons.mp hmem with e1 | hmem
      · exact absurd (e1 ▸ Heap.lt_size eo) (Nat.lt_irrefl _)
      · cases hmem
    · show Value.bool _ = Value.bool _
      show Value.bool _ = Value.bool (bs.all id)
      rw [← L2.all_range, List.size_toArray, ← hln, hn]
theorem clD_any {f : List Bool → Bool} {G H : Hp} {L : Lam} {μ : Store} {Q : VK} {xs : List V} {d : D} (r : RpA k X.K G L xs [d]) (w : Wd k X.K G H L μ)
    (g : Good k X.K E G H L ((do let ds ← seqD d; match truFs ds with | some bs => (pure (.bl (f bs)) : M D) | none => M.bad) μ) (QV k X.K Q)) : rAnyS X.K f xs H Q := by
  obtain ⟨v, rfl, r'⟩ := one_of (H := H) r
  replace r := r'
  obtain ⟨a, vs, ds, rfl, ra, hs, g⟩ := seq_of (f := fun ds => match truFs ds with | some bs => (pure (.bl (f bs)) : M D) | none => M.bad) r w g
  cases e : truFs ds with
  | none => simp only [e] at g; exact False.elim g
  | some bs =>
    simp only [e] at g
    refine ⟨a, vs, bs, rfl, ?_, truL_of ra e, Good.ret g w _ (.bl _)⟩
    rcases hs with ⟨hs, _⟩ | ⟨hs, _⟩
    · exact .inl hs
    · exact .inr hs
theorem f_any (hc : X.calm = true) : FunD k X E (.builtin "any") anyD := by
  refine ⟨_, cr_anyS hc, fun xs ds G H L μ Q r w g => ?_⟩
  match ds, r, g with
  | [], _, g => exact False.elim g
  | [d], r, g => exact clD_any (f := fun bs => bs.any id) r w g
  | _ :: _ :: _, _, g => exact False.elim g
theorem f_all (hc : X.calm = true) : FunD k X E (.builtin "all") allD := by
  refine ⟨_, cr_allS hc, fun xs ds G H L μ Q r w g => ?_⟩
  match ds, r, g with
  | [], _, g => exact False.elim g
  | [d], r, g => exact clD_any (f := fun bs => bs.all id) r w g
  | _ :: _ :: _, _, g => exact False.elim g

/-! ### subscripts -/
def ixD (x y : D) : M D := match y with
  | .int i => do
    let ds ← seqD x
    match atI ds i with
      | some d => pure d
      | none => M.bad
  | _ => M.bad
theorem atI_of {G : Hp} {L : Lam} {vs : List V} {ds : List D} {i : Int} {d : D} (r : RpA k X.K G L vs ds) (h : atI ds i = some d) : ∃ v, atI vs i = some v ∧ Rp k X.K G L v d := by
  unfold atI at h ⊢
  rw [r.len]
  cases e : ixN ds.length i with
  | none => rw [e] at h; cases h
  | some j =>
    rw [e] at h
    exact r.get h
theorem j_ix {a b : Expr} {ma mb : DEnv → M D} {pos : Pos} (ha : JE k X E a ma) (hb : JE k X E b mb) (hs : PlainIx b) : JE k X E (.Subscript a b pos) (eOp ixD ma mb) := by
  refine PE.imp (pe_ix ix_seq ha hb hs) fun s H Q h => dE_op (fun x y dx dy G H L μ Q rx ry w g => ?_) h
  cases dy with
  | int i =>
    cases ry
    obtain ⟨a, vs, ds, rfl, ra, hs, g⟩ := seq_of (f := fun ds => match atI ds i with | some d => (pure d : M D) | none => M.bad) rx w g
    cases e : atI ds i with
    | none => simp only [e] at g; exact False.elim g
    | some d =>
      simp only [e] at g
      obtain ⟨v, hv, rv⟩ := atI_of ra e
      rcases hs with ⟨hs, _⟩ | ⟨hs, _⟩
      · exact .inl ⟨a, vs, i, v, rfl, rfl, hs, hv, Good.ret g w _ rv⟩
      · exact .inr (.inl ⟨a, vs, i, v, rfl, rfl, hs, hv, Good.ret g w _ rv⟩)
  | _ => exact False.elim g
end
end DL

namespace DL
open PySem L2 PyProof.Rows

/-! ### deciding data -/
mutual
def D.dec : (a b : D) → Decidable (a = b)
  | .non, b => match b with
    | .non => Decidable.isTrue rfl
    | .bl _ => Decidable.isFalse nofun | .int _ => Decidable.isFalse nofun | .str _ => Decidable.isFalse nofun | .lst _ => Decidable.isFalse nofun | .tup _ => Decidable.isFalse nofun | .loc _ => Decidable.isFalse nofun | .obj _ _ => Decidable.isFalse nofun | .cls _ => Decidable.isFalse nofun | .dct _ _ => Decidable.isFalse nofun | .fdc _ _ => Decidable.isFalse nofun | .err _ _ => Decidable.isFalse nofun
  | .bl x, b => match b with
    | .bl y => if h : x = y then Decidable.isTrue (by rw [h]) else Decidable.isFalse (by intro z; cases z; exact h rfl)
    | .non => Decidable.isFalse nofun | .int _ => Decidable.isFalse nofun | .str _ => Decidable.isFalse nofun | .lst _ => Decidable.isFalse nofun | .tup _ => Decidable.isFalse nofun | .loc _ => Decidable.isFalse nofun | .obj _ _ => Decidable.isFalse nofun | .cls _ => Decidable.isFalse nofun | .dct _ _ => Decidable.isFalse nofun | .fdc _ _ => Decidable.isFalse nofun | .err _ _ => Decidable.isFalse nofun
  | .int x, b => match b with
    | .int y => if h : x = y then Decidable.isTrue (by rw [h]) else Decidable.isFalse (by intro z; cases z; exact h rfl)
    | .non => Decidable.isFalse nofun | .bl _ => Decidable.isFalse nofun | .str _ => Decidable.isFalse nofun | .lst _ => Decidable.isFalse nofun | .tup _ => Decidable.isFalse nofun | .loc _ => Decidable.isFalse nofun | .obj _ _ => Decidable.isFalse nofun | .cls _ => Decidable.isFalse nofun | .dct _ _ => Decidable.isFalse nofun | .fdc _ _ => Decidable.isFalse nofun | .err _ _ => Decidable.isFalse nofun
  | .str x, b => match b with
    | .str y => if h : x = y then Decidable.isTrue (by rw [h]) else Decidable.isFalse (by intro z; cases z; exact h rfl)
    | .non => Decidable.isFalse nofun | .bl _ => Decidable.isFalse nofun | .int _ => Decidable.isFalse nofun | .lst _ => Decidable.isFalse nofun | .tup _ => Decidable.isFalse nofun | .loc _ => Decidable.isFalse nofun | .obj _ _ => Decidable.isFalse nofun | .cls _ => Decidable.isFalse nofun | .dct _ _ => Decidable.isFalse nofun | .fdc _ _ => Decidable.isFalse nofun | .err _ _ => Decidable.isFalse nofun
  | .lst x, b => match b with
    | .lst y => match D.decL x y with
      | Decidable.isTrue h => Decidable.isTrue (by rw [h])
      | Decidable.isFalse h => Decidable.isFalse (by intro z; cases z; exact h rfl)
    | .non => Decidable.isFalse nofun | .bl _ => Decidable.isFalse nofun | .int _ => Decidable.isFalse nofun | .str _ => Decidable.isFalse nofun | .tup _ => Decidable.isFalse nofun | .loc _ => Decidable.isFalse nofun | .obj _ _ => Decidable.isFalse nofun | .cls _ => Decidable.isFalse nofun | .dct _ _ => Decidable.isFalse nofun | .fdc _ _ => Decidable.isFalse nofun | .err _ _ => Decidable.isFalse nofun
  | .tup x, b => match b with
    | .tup y => match D.decL x y with
      | Decidable.isTrue h => Decidable.isTrue (by rw [h])
      | Decidable.isFalse h => Decidable.isFalse (by intro z; cases z; exact h rfl)
    | .non => Decidable.isFalse nofun | .bl _ => Decidable.isFalse nofun | .int _ => Decidable.isFalse nofun | .str _ => Decidable.isFalse nofun | .lst _ => Decidable.isFalse nofun | .loc _ => Decidable.isFalse nofun | .obj _ _ => Decidable.isFalse nofun | .cls _ => Decidable.isFalse nofun | .dct _ _ => Decidable.isFalse nofun | .fdc _ _ => Decidable.isFalse nofun | .err _ _ => Decidable.isFalse nofun
  | .loc x, b => match b with
    | .loc y => if h : x = y then Decidable.isTrue (by rw [h]) else Decidable.isFalse (by intro z; cases z; exact h rfl)
    | .non => Decidable.isFalse nofun | .bl _ => Decidable.isFalse nofun | .int _ => Decidable.isFalse nofun | .str _ => Decidable.isFalse nofun | .lst _ => Decidable.isFalse nofun | .tup _ => Decidable.isFalse nofun | .obj _ _ => Decidable.isFalse nofun | .cls _ => Decidable.isFalse nofun | .dct _ _ => Decidable.isFalse nofun | .fdc _ _ => Decidable.isFalse nofun | .err _ _ => Decidable.isFalse nofun
  | .obj c x, b => match b with
    | .obj c' y => if h : c = c' then (match D.decL x y with
      | Decidable.isTrue h' => Decidable.isTrue (by rw [h, h'])
      | Decidable.isFalse h' => Decidable.isFalse (by intro z; cases z; exact h' rfl)) else Decidable.isFalse (by intro z; cases z; exact h rfl)
    | .non => Decidable.isFalse nofun | .bl _ => Decidable.isFalse nofun | .int _ => Decidable.isFalse nofun | .str _ => Decidable.isFalse nofun | .lst _ => Decidable.isFalse nofun | .tup _ => Decidable.isFalse nofun | .loc _ => Decidable.isFalse nofun | .cls _ => Decidable.isFalse nofun | .dct _ _ => Decidable.isFalse nofun | .fdc _ _ => Decidable.isFalse nofun | .err _ _ => Decidable.isFalse nofun
  | .cls x, b => match b with
    | .cls y => if h : x = y then Decidable.isTrue (by rw [h]) else Decidable.isFalse (by intro z; cases z; exact h rfl)
    | .non => Decidable.isFalse nofun | .bl _ => Decidable.isFalse nofun | .int _ => Decidable.isFalse nofun | .str _ => Decidable.isFalse nofun | .lst _ => Decidable.isFalse nofun | .tup _ => Decidable.isFalse nofun | .loc _ => Decidable.isFalse nofun | .obj _ _ => Decidable.isFalse nofun | .dct _ _ => Decidable.isFalse nofun | .fdc _ _ => Decidable.isFalse nofun | .err _ _ => Decidable.isFalse nofun
  | .dct c x, b => match b with
    | .dct c' y => if h : c = c' then (match D.decL x y with
      | Decidable.isTrue h' => Decidable.isTrue (by rw [h, h'])
      | Decidable.isFalse h' => Decidable.isFalse (by intro z; cases z; exact h' rfl)) else Decidable.isFalse (by intro z; cases z; exact h rfl)
    | .non => Decidable.isFalse nofun | .bl _ => Decidable.isFalse nofun | .int _ => Decidable.isFalse nofun | .str _ => Decidable.isFalse nofun | .lst _ => Decidable.isFalse nofun | .tup _ => Decidable.isFalse nofun | .loc _ => Decidable.isFalse nofun | .obj _ _ => Decidable.isFalse nofun | .cls _ => Decidable.isFalse nofun | .fdc _ _ => Decidable.isFalse nofun | .err _ _ => Decidable.isFalse nofun
  | .fdc c x, b => match b with
    | .fdc c' y => if h : c = c' then (match D.decL x y with
      | Decidable.isTrue h' => Decidable.isTrue (by rw [h, h'])
      | Decidable.isFalse h' => Decidable.isFalse (by intro z; cases z; exact h' rfl)) else Decidable.isFalse (by intro z; cases z; exact h rfl)
    | .non => Decidable.isFalse nofun | .bl _ => Decidable.isFalse nofun | .int _ => Decidable.isFalse nofun | .str _ => Decidable.isFalse nofun | .lst _ => Decidable.isFalse nofun | .tup _ => Decidable.isFalse nofun | .loc _ => Decidable.isFalse nofun | .obj _ _ => Decidable.isFalse nofun | .cls _ => Decidable.isFalse nofun | .dct _ _ => Decidable.isFalse nofun | .err _ _ => Decidable.isFalse nofun
  | .err c x, b => match b with
    | .err c' y => if h : c = c' then (match D.decL x y with
      | Decidable.isTrue h' => Decidable.isTrue (by rw [h, h'])
      | Decidable.isFalse h' => Decidable.isFalse (by intro z; cases z; exact h' rfl)) else Decidable.isFalse (by intro z; cases z; exact h rfl)
    | .non => Decidable.isFalse nofun | .bl _ => Decidable.isFalse nofun | .int _ => Decidable.isFalse nofun | .str _ => Decidable.isFalse nofun | .lst _ => Decidable.isFalse nofun | .tup _ => Decidable.isFalse nofun | .loc _ => Decidable.isFalse nofun | .obj _ _ => Decidable.isFalse nofun | .cls _ => Decidable.isFalse nofun | .dct _ _ => Decidable.isFalse nofun | .fdc _ _ => Decidable.isFalse nofun
def D.decL : (a b : List D) → Decidable (a = b)
  | [], [] => Decidable.isTrue rfl
  | [], _ :: _ => Decidable.isFalse nofun
  | _ :: _, [] => Decidable.isFalse nofun
  | x :: xs, y :: ys => match D.dec x y with
    | Decidable.isTrue h => match D.decL xs ys with
      | Decidable.isTrue h' => Decidable.isTrue (by rw [h, h'])
      | Decidable.isFalse h' => Decidable.isFalse (by intro z; cases z; exact h' rfl)
    | Decidable.isFalse h => Decidable.isFalse (by intro z; cases z; exact h rfl)
end
instance : DecidableEq D := D.dec

/-! ### sources of loops -/
structure Src where
  items : List D
  gd : List (Nat × List D) := []
def cellIs (m : Store) (p : Nat × List D) : Bool := match m[p.1]? with
  | some (some (.lst es)) => decide (es = p.2)
  | _ => false
def Src.okB (s : Src) (m : Store) : Bool := s.gd.all (cellIs m)
def chk (s : Src) : M Unit := fun m => if s.okB m = true then .ok () m else .bad

section
variable (k : Kx) (K : PySem.W.Frag) (E : XK)
def ItOk (G : Hp) (L : Lam) (J : It) (src : Src) : Prop := ∀ G2 H2 L2 μ, Same G G2 → L <+: L2 → Wd k K G2 H2 L2 μ → src.okB μ = true → ∀ i : Nat,
  (∀ d, src.items[i]? = some d → J.go i H2 ∧ ∀ x H3, J.yld i H2 x H3 → ∃ G3, Stp G2 H2 L2 G3 H3 L2 ∧ Wd k K G3 H3 L2 μ ∧ Rp k K G3 L2 x d) ∧ (src.items.length ≤ i → J.stop i H2)
def dI (m : DEnv → M Src) : TI := fun s H R => ∃ e G L μ, Sg k K G L s e ∧ Wd k K G H L μ ∧ Good k K E G H L (m e μ) fun src _ G' H' L' => ∀ J, ItOk k K G' L' J src → R J H'
end
abbrev JI (k : Kx) (X : Cx) (E : XK) (tg iter : Expr) (m : DEnv → M Src) : Prop := PI X tg iter (dI k X.K E m)
theorem PI.imp {X : Cx} {tg e : Expr} {t t' : TI} (h : PI X tg e t) (q : ∀ s H R, t' s H R → t s H R) : PI X tg e t' := ⟨fun pins s σ H R I hw => h.run pins s σ H R I (q _ _ _ hw)⟩

section
variable {k : Kx} {K : PySem.W.Frag} {E : XK} {G H : Hp} {L : Lam} {α β : Type}
theorem Good.bind0 {x : M α} {f : α → M β} {m : Store} {Q : β → Store → Hp → Hp → Lam → Prop} (h : Good k K E G H L ((x >>= f) m) Q) :
    Good k K E G H L (x m) (fun a m' _ _ _ => Good k K E G H L (f a m') Q) := by
  have h' : Good k K E G H L (M.bind x f m) Q := h
  unfold M.bind at h'
  cases e : x m with
  | ok a m' =>
    rw [e] at h'
    exact fun G' H' L' e1 w => h'
  | exn c fs m' =>
    rw [e] at h'
    exact h'
  | bad =>
    rw [e] at h'
    exact h'
theorem chk_good {src : Src} {f : Unit → M β} {m : Store} {Q : β → Store → Hp → Hp → Lam → Prop} (h : Good k K E G H L ((chk src >>= f) m) Q) : src.okB m = true ∧ Good k K E G H L (f () m) Q := by
  have h' : Good k K E G H L (M.bind (chk src) f m) Q := h
  unfold M.bind chk at h'
  by_cases hc : src.okB m = true
  · rw [if_pos hc] at h'
    exact ⟨hc, h'⟩
  · rw [if_neg hc] at h'
    exact False.elim h'
/-- a private object changes -/
theorem Wd.priv {m : Store} (w : Wd k K G H L m) {a : Addr} {o o' : HO} (ga : G a = none) (ha : H a = some o') (nc : NC o') (no : NT o) (nl : ∀ p ∈ L, a ≠ p.1 ∧ a ≠ p.2) : Wd k K G (upd H a o) L m where
  ext := fun b u e => by
    rw [upd_ne (ne_of_none e ga)]
    exact w.ext b u e
  len := w.len
  tk := fun q hq => ⟨nt_upd no (w.tk q hq).1, nt_upd no (w.tk q hq).2⟩
  tab := tabs_upd w.tab (nc_at ha nc)
  gt := w.gt
  cell := fun n c e => by
    obtain ⟨x, y, hl, gx, gy, r⟩ := w.cell n c e
    obtain ⟨n1, n2⟩ := nl (x, y) (List.mem_of_getElem? hl)
    exact ⟨x, y, hl, gx, gy, r.step (Same.refl G) (pre_refl L) (upd_ne (Ne.symm n1)) (upd_ne (Ne.symm n2))⟩
  apart := w.apart
/-- a private object becomes data -/
theorem Wd.adopt {m : Store} (w : Wd k K G H L m) {a : Addr} {o : HO} (ga : G a = none) (ha : H a = some o) (no : NT o) (nl : ∀ p ∈ L, a ≠ p.1 ∧ a ≠ p.2) : Wd k K (upd G a o) H L m where
  ext := fun b u e => by
    by_cases hb : b = a
    · subst hb
      rw [upd_same] at e
      cases e
      exact ha
    · rw [upd_ne hb] at e
      exact w.ext b u e
  len := w.len
  tk := w.tk
  tab := w.tab
  gt := gt_upd no w.gt
  cell := fun n c e => by
    obtain ⟨x, y, hl, gx, gy, r⟩ := w.cell n c e
    obtain ⟨n1, n2⟩ := nl (x, y) (List.mem_of_getElem? hl)
    exact ⟨x, y, hl, by rw [upd_ne (Ne.symm n1)]; exact gx, by rw [upd_ne (Ne.symm n2)]; exact gy, r.step (Same.new ga) (pre_refl L) rfl rfl⟩
  apart := w.apart
/-- a private list becomes a mutable one of the data -/
theorem Wd.adoptLoc {m : Store} (w : Wd k K G H L m) {a : Addr} {vs : List V} {ds : List D} (ga : G a = none) (ha : H a = some (.lst vs)) (nl : ∀ p ∈ L, a ≠ p.1 ∧ a ≠ p.2) (r : RpA k K G L vs ds) : Wd k K G H (L ++ [(a, a)]) (m ++ [some (.lst ds)]) where
  ext := w.ext
  len := by simp [w.len]
  tk := fun q hq => by
    rcases List.mem_append.mp hq with z | z
    · exact w.tk q z
    · simp at z
      subst z
      exact ⟨⟨_, ha, (nc_lst vs).1⟩, ⟨_, ha, (nc_lst vs).1⟩⟩
  tab := w.tab
  gt := w.gt
  cell := fun n c e => by
    by_cases hn : n < m.length
    · rw [List.getElem?_append_left hn] at e
      obtain ⟨x, y, hl, gx, gy, r'⟩ := w.cell n c e
      exact ⟨x, y, pre_get (List.prefix_append _ _) hl, gx, gy, r'.step (Same.refl G) (List.prefix_append _ _) rfl rfl⟩
    · have h1 := (List.getElem?_eq_some_iff.mp e).1
      simp at h1
      have e0 : n = m.length := by omega
      subst e0
      simp at e
      subst e
      exact ⟨a, a, by rw [← w.len]; simp, ga, ga, rfl, vs, ha, RpA.mono (Same.refl G) (List.prefix_append _ _) _ _ r⟩
  apart := fun i j x y x' y' li lj ne hx hy => by
    have old : ∀ {i : Nat} {x y : Addr}, Live m i → (L ++ [(a, a)])[i]? = some (x, y) → x ≠ a ∧ y ≠ a ∧ L[i]? = some (x, y) := fun {i x y} li hx => by
      have hlt : i < L.length := by rw [w.len]; exact live_lt li
      rw [List.getElem?_append_left hlt] at hx
      obtain ⟨n1, n2⟩ := nl (x, y) (List.mem_of_getElem? hx)
      exact ⟨Ne.symm n1, Ne.symm n2, hx⟩
    have new : ∀ {x y : Addr}, (L ++ [(a, a)])[m.length]? = some (x, y) → x = a ∧ y = a := fun {x y} hx => by
      rw [← w.len] at hx
      simp at hx
      exact ⟨hx.1.symm, hx.2.symm⟩
    rcases live_app li with li | e1
    · obtain ⟨n1, n2, q1⟩ := old li hx
      rcases live_app lj with lj | e2
      · obtain ⟨n3, n4, q2⟩ := old lj hy
        exact w.apart i j x y x' y' li lj ne q1 q2
      · subst e2
        obtain ⟨rfl, rfl⟩ := new hy
        exact ⟨n1, n1, n2, n2⟩
    · subst e1
      obtain ⟨rfl, rfl⟩ := new hx
      rcases live_app lj with lj | e2
      · obtain ⟨n3, n4, q2⟩ := old lj hy
        exact ⟨n3.symm, n4.symm, n3.symm, n4.symm⟩
      · exact absurd e2.symm ne
end

/-! ### blocks and statements -/
def sNil : DEnv → M Out := fun e => pure (.nx e)
def andThen (o : Out) (s : DEnv → M Out) : M Out := match o with
  | .nx e => s e
  | o => pure o
def sSeq (s t : DEnv → M Out) : DEnv → M Out := fun e => do let o ← s e; andThen o t
def sSet (i : Nat) (a : DEnv → M D) : DEnv → M Out := fun e => do let x ← a e; pure (.nx (e.set i (some x)))
def sAsg (a : DEnv → M D) (g : D → DEnv → M DEnv) : DEnv → M Out := fun e => do let x ← a e; let e' ← g x e; pure (.nx e')
def sPar (i j : Nat) (a b : DEnv → M D) : DEnv → M Out := fun e => do let x ← a e; let y ← b e; pure (.nx ((e.set i (some x)).set j (some y)))
def sIf (t : DEnv → M Bool) (s u : DEnv → M Out) : DEnv → M Out := fun e => do let c ← t e; if c then s e else u e
def sRet (a : DEnv → M D) : DEnv → M Out := fun e => do let x ← a e; pure (.rt x)
def sRetN : DEnv → M Out := fun _ => pure (.rt .non)
def sExpr (a : DEnv → M D) : DEnv → M Out := fun e => do let _ ← a e; pure (.nx e)
def sBrk : DEnv → M Out := fun e => pure (.bk e)
def sCnt : DEnv → M Out := fun e => pure (.ct e)
def forL (src : Src) (g : D → DEnv → M DEnv) (b : DEnv → M Out) : List D → DEnv → M Out
  | [], e => do chk src; pure (.nx e)
  | d :: ds, e => do
    chk src
    let e1 ← g d e
    let o ← b e1
    match o with
      | .nx e2 => forL src g b ds e2
      | .ct e2 => forL src g b ds e2
      | .bk e2 => pure (.nx e2)
      | .rt d => pure (.rt d)
def sFor (it : DEnv → M Src) (g : D → DEnv → M DEnv) (b : DEnv → M Out) : DEnv → M Out := fun e => do let src ← it e; forL src g b src.items e
def whileL (t : DEnv → M Bool) (b : DEnv → M Out) : Nat → DEnv → M Out
  | 0, _ => M.bad
  | n + 1, e => do
    let c ← t e
    if c then (do
      let o ← b e
      match o with
        | .nx e2 => whileL t b n e2
        | .ct e2 => whileL t b n e2
        | .bk e2 => pure (.nx e2)
        | .rt d => pure (.rt d)) else pure (.nx e)
def sWhile (fuel : Nat) (t : DEnv → M Bool) (b : DEnv → M Out) : DEnv → M Out := fun e => whileL t b fuel e
def gNm (i : Nat) : D → DEnv → M DEnv := fun d e => pure (e.set i (some d))
def gTp (n : Nat) (g : List D → DEnv → M DEnv) : D → DEnv → M DEnv := fun d e => match d with
  | .tup ds => if ds.length = n then g ds e else M.bad
  | _ => M.bad
def gsNil : List D → DEnv → M DEnv := fun _ e => pure e
def gsCons (g : D → DEnv → M DEnv) (gs : List D → DEnv → M DEnv) : List D → DEnv → M DEnv := fun ds e => match ds with
  | d :: r => do let e1 ← g d e; gs r e1
  | [] => M.bad

section
variable {k : Kx} {X : Cx} {E : XK} {e a b : Expr} {ma mb : DEnv → M D} {pos : Pos} {st : Stmt} {rest : List Stmt} {ms mr mt' : DEnv → M Out} {mt : DEnv → M Bool}
theorem jb_nil : JB k X E [] sNil := by
  refine PSs.imp pss_nil fun D s H h => ?_
  obtain ⟨e, G, L, μ, sg, w, gd⟩ := h
  exact Good.ret gd w s sg
theorem jb_one (h : JS k X E st ms) : JB k X E [st] ms := pss_one h
theorem jb_cons (h : JS k X E st ms) (hr : JB k X E rest mr) : JB k X E (st :: rest) (sSeq ms mr) := by
  refine PSs.imp (pss_cons h hr) fun D s H h => ?_
  obtain ⟨e, G, L, μ, sg, w, gd⟩ := h
  refine ⟨e, G, L, μ, sg, w, Good.mono (Good.bind gd) fun o m1 G1 H1 L1 st1 w1 q1 => ?_⟩
  cases o with
  | nx e1 => exact fun s1 sg1 => ⟨e1, G1, L1, m1, sg1, w1, q1⟩
  | rt d => exact Good.ret q1 w1
  | bk e1 => exact Good.ret q1 w1
  | ct e1 => exact Good.ret q1 w1
theorem js_set (i : Nat) {x : Str} {pos' : Pos} (hN : X.N.Nodup) (hi : X.N[i]? = some x) (hx : Loc X.env.scope x) (ha : JE k X E a ma) (hs : swapsWith a (some (.Name x pos')) pos.line X.env = pure false := by rfl)
    (hf : X.fn x = true ∨ X.env.scope.names.lookup x = some .local := by first | exact .inl rfl | exact .inr rfl | assumption) : JS k X E (.Assign [.Name x pos'] a pos) (sSet i ma) := by
  refine PS.imp (ps_set hN hi hx ha hs hf) fun D s H h => ?_
  obtain ⟨e, G, L, μ, sg, w, gd⟩ := h
  refine ⟨e, G, L, μ, sg, w, Good.mono (Good.bind gd) fun d m1 G1 H1 L1 st1 w1 q1 v r => ?_⟩
  exact Good.ret q1 w1 _ ((sg.mono st1.g st1.l).set i r)
theorem js_ret (ha : JE k X E a ma) : JS k X E (.Return (some a) pos) (sRet ma) := by
  refine PS.imp (ps_ret ha) fun D s H h => ?_
  obtain ⟨e, G, L, μ, sg, w, gd⟩ := h
  exact ⟨e, G, L, μ, sg, w, Good.mono (Good.bind gd) fun d m1 G1 H1 L1 st1 w1 q1 v r => Good.ret q1 w1 _ r⟩
theorem js_retN : JS k X E (.Return none pos) sRetN := by
  refine PS.imp ps_retN fun D s H h => ?_
  obtain ⟨e, G, L, μ, sg, w, gd⟩ := h
  exact Good.ret gd w _ .non
theorem js_expr (ha : JE k X E a ma) (hs : swapsWith a none pos.line X.env = pure false := by rfl) : JS k X E (.Expr a pos) (sExpr ma) := by
  refine PS.imp (ps_expr ha hs) fun D s H h => ?_
  obtain ⟨e, G, L, μ, sg, w, gd⟩ := h
  exact ⟨e, G, L, μ, sg, w, Good.mono (Good.bind gd) fun d m1 G1 H1 L1 st1 w1 q1 v r => Good.ret q1 w1 _ (sg.mono st1.g st1.l)⟩
theorem js_if {c : Expr} {sa sb : List Stmt} (hc : JT k X E c mt) (ha : JB k X E sa ms) (hb : JB k X E sb mr) : JS k X E (.If c sa sb pos) (sIf mt ms mr) := by
  refine PS.imp (ps_if hc ha hb) fun D s H h => ?_
  obtain ⟨e, G, L, μ, sg, w, gd⟩ := h
  refine ⟨e, G, L, μ, sg, w, Good.mono (Good.bind gd) fun c m1 G1 H1 L1 st1 w1 q1 => ?_⟩
  cases c with
  | true => exact ⟨e, G1, L1, m1, sg.mono st1.g st1.l, w1, q1⟩
  | false => exact ⟨e, G1, L1, m1, sg.mono st1.g st1.l, w1, q1⟩
theorem js_pass : JS k X E (.Pass pos) sNil := by
  refine PS.imp ps_pass fun D s H h => ?_
  obtain ⟨e, G, L, μ, sg, w, gd⟩ := h
  exact Good.ret gd w s sg
theorem js_brk : JS k X E (.Break pos) sBrk := by
  refine PS.imp ps_break fun D s H h => ?_
  obtain ⟨e, G, L, μ, sg, w, gd⟩ := h
  exact Good.ret gd w s sg
theorem js_cnt : JS k X E (.Continue pos) sCnt := by
  refine PS.imp ps_continue fun D s H h => ?_
  obtain ⟨e, G, L, μ, sg, w, gd⟩ := h
  exact Good.ret gd w s sg

/-! targets -/
theorem set_agree {s : L2.St} {i : Nat} {v : V} : (s.set i (some v)).length = s.length ∧ ∀ j, j ∉ [i] → (s.set i (some v))[j]? = s[j]? := ⟨List.length_set, fun j hj => List.getElem?_set_ne (by simp at hj; exact Ne.symm hj)⟩
theorem jg_name (i : Nat) {x : Str} (hN : X.N.Nodup) (hi : X.N[i]? = some x) (hx : Loc X.env.scope x) (hf : X.fn x = true ∨ X.env.scope.names.lookup x = some .local := by first | exact .inl rfl | exact .inr rfl | assumption) : JG k X E (.Name x pos) [i] (gNm i) := by
  refine PG.imp (pg_name hN hi hx hf) fun v s H Q h => ?_
  obtain ⟨d, e, G, L, μ, sg, r, w, gd⟩ := h
  exact Good.ret gd w _ (sg.set i r) set_agree
/-- several targets -/
def dGs (k : Kx) (K : PySem.W.Frag) (E : XK) (ts : List Nat) (g : List D → DEnv → M DEnv) : TGs := fun vs s H Q => ∃ ds e G L μ, Sg k K G L s e ∧ RpA k K G L vs ds ∧ Wd k K G H L μ ∧ Good k K E G H L (g ds e μ) fun e' _ G' H' L' => ∀ s', Sg k K G' L' s' e' → (s'.length = s.length ∧ ∀ i, i ∉ ts → s'[i]? = s[i]?) → Q s' H'
abbrev JGs (k : Kx) (X : Cx) (E : XK) (n : Nat) (es : List Expr) (ts : List Nat) (g : List D → DEnv → M DEnv) : Prop := ∃ t, PGs X es t ∧ ∀ vs s H Q, vs.length = n → dGs k X.K E ts g vs s H Q → t vs s H Q
theorem jgs_nil : JGs k X E 0 [] [] gsNil := by
  refine ⟨_, pgs_nil, fun vs s H Q hl h => ?_⟩
  obtain ⟨ds, e, G, L, μ, sg, r, w, gd⟩ := h
  exact ⟨List.eq_nil_of_length_eq_zero hl, Good.ret gd w _ sg ⟨rfl, fun _ _ => rfl⟩⟩
theorem jgs_cons {n : Nat} {tg : Expr} {tgs : List Expr} {ts us : List Nat} {g : D → DEnv → M DEnv} {gs : List D → DEnv → M DEnv} (h : JG k X E tg ts g) (hs : JGs k X E n tgs us gs) (hst : (assignEach (tg :: tgs) X.env).map (·.2) = assign tg X.env :: (assignEach tgs X.env).map (·.2) := by rfl) : JGs k X E (n + 1) (tg :: tgs) (ts ++ us) (gsCons g gs) := by
  obtain ⟨t, h2, q⟩ := hs
  refine ⟨_, pgs_cons h h2 hst, fun vs s H Q hl hd => ?_⟩
  obtain ⟨ds, e, G, L, μ, sg, r, w, gd⟩ := hd
  cases r with
  | nil => cases hl
  | @cons v vs d ds h1 hr =>
    refine ⟨v, vs, rfl, ⟨d, e, G, L, μ, sg, h1, w, Good.mono (Good.bind gd) fun e1 m1 G1 H1 L1 st1 w1 q1 s1 sg1 ag => ?_⟩⟩
    refine q vs s1 H1 Q (by simpa using hl) ⟨ds, e1, G1, L1, m1, sg1, RpA.mono st1.g st1.l _ _ hr, w1, Good.mono q1 fun e2 m2 G2 H2 L2 st2 w2 q2 s2 sg2 ag2 => ?_⟩
    refine q2 s2 sg2 ⟨ag2.1.trans ag.1, fun i hi => ?_⟩
    rw [List.mem_append, not_or] at hi
    rw [ag2.2 i hi.2, ag.2 i hi.1]
theorem jg_tup {n : Nat} {es : List Expr} {kk : Nat} {ts : List Nat} {g : List D → DEnv → M DEnv} (hc : X.calm = true) (h : JGs k X E n es ts g)
    (hn : (assignEach es X.env).length = n := by rfl) (hst : (assignEach es X.env).findIdx? (·.1) = none := by rfl) : JG k X E (.Tuple es kk pos) ts (gTp n g) := by
  obtain ⟨t, h1, q⟩ := h
  refine PG.imp (pg_tup hc h1 hn hst) fun v s H Q hd => ?_
  obtain ⟨d, e, G, L, μ, sg, r, w, gd⟩ := hd
  cases d with
  | tup ds =>
    cases r with
    | @tup a xs _ hs ha =>
      obtain ⟨hl, gd⟩ := good_ite gd
      exact ⟨a, xs, rfl, sqT_mono w.ext hs, by rw [ha.len]; exact hl, q xs s H Q (by rw [ha.len]; exact hl) ⟨ds, e, G, L, μ, sg, ha, w, gd⟩⟩
  | _ => exact False.elim gd
theorem js_asg {tg : Expr} {ts : List Nat} {g : D → DEnv → M DEnv} (ha : JE k X E a ma) (hg : JG k X E tg ts g) (hs : swapsWithSole [tg] a pos.line X.env = pure false := by rfl) (hw : swappedStores [tg] a X.env = pure none := by rfl)
    (h1 : (assignEach [tg] X.env).map (·.2) = [assign tg X.env] := by rfl) : JS k X E (.Assign [tg] a pos) (sAsg ma g) := by
  refine PS.imp (ps_asg ha hg hs hw h1) fun D s H h => ?_
  obtain ⟨e, G, L, μ, sg, w, gd⟩ := h
  refine ⟨e, G, L, μ, sg, w, Good.mono (Good.bind gd) fun d m1 G1 H1 L1 st1 w1 q1 v r => ?_⟩
  refine ⟨d, e, G1, L1, m1, sg.mono st1.g st1.l, r, w1, Good.mono (Good.bind q1) fun e2 m2 G2 H2 L2 st2 w2 q2 s2 sg2 ag => ?_⟩
  exact Good.ret q2 w2 _ sg2
end
end DL

namespace DL
open PySem L2 PyProof.Rows

section
variable {k : Kx} {X : Cx} {E : XK} {tg iter : Expr} {pos : Pos}
/-! ### loops -/
theorem js_for {body : List Stmt} {mi : DEnv → M Src} {ts : List Nat} {g : D → DEnv → M DEnv} {mb : DEnv → M Out} (hp : PassesOwn (model X.prog X.w) X.A X.env X.xe) (hc : X.calm = true) (hi : JI k X E tg iter mi) (hg : JG k X E tg ts g) (hb : JB k X E body mb)
    (hs : ∀ x, foldedSetIterable iter X.env x = pure x := by intro _; rfl) : JS k X E (.For tg iter body [] pos) (sFor mi g mb) := by
  refine PS.imp (ps_for hp hc hi hg hb hs) fun Ds s H h => ?_
  obtain ⟨e, G, L, μ, sg, w, gd⟩ := h
  refine ⟨e, G, L, μ, sg, w, Good.mono (Good.bind gd) fun src m1 G1 H1 L1 st1 w1 q1 J ok => ?_⟩
  refine ⟨fun i m σ H => m = src.items.length - i ∧ i ≤ src.items.length ∧ ∃ e G L μ, Sg k X.K G L σ e ∧ Wd k X.K G H L μ ∧ Same G1 G ∧ L1 <+: L ∧ Good k X.K E G H L (forL src g mb (src.items.drop i) e μ) (fun o _ G' H' L' => OutOk k X.K Ds o G' H' L'),
    ⟨src.items.length, by simp, Nat.zero_le _, e, G1, L1, m1, sg.mono st1.g st1.l, w1, Same.refl _, pre_refl _, by simpa using q1⟩, ?_⟩
  rintro i m σ H2 ⟨rfl, hi, e2, G2, L2, μ2, sg2, w2, ge, le, q2⟩
  by_cases hlt : i < src.items.length
  · have hd : src.items.drop i = src.items[i] :: src.items.drop (i + 1) := List.drop_eq_getElem_cons hlt
    rw [hd] at q2
    obtain ⟨hok, q2⟩ := chk_good q2
    obtain ⟨ho, _⟩ := ok G2 H2 L2 μ2 ge le w2 hok i
    obtain ⟨go, yl⟩ := ho src.items[i] (List.getElem?_eq_getElem hlt)
    refine .inr ⟨go, fun σ' H' => ∃ e G L μ, Sg k X.K G L σ' e ∧ Wd k X.K G H' L μ ∧ Same G1 G ∧ L1 <+: L ∧ Good k X.K E G H' L (forL src g mb (src.items.drop (i + 1)) e μ) (fun o _ G' H' L' => OutOk k X.K Ds o G' H' L'), ?_, fun x H3 y => ?_⟩
    · rintro σ' H' q
      exact ⟨src.items.length - (i + 1), by omega, rfl, hlt, q⟩
    · obtain ⟨G3, st3, w3, r3⟩ := yl x H3 y
      refine ⟨src.items[i], e2, G3, L2, μ2, sg2.mono st3.g st3.l, r3, w3, Good.mono (Good.bind (Good.up q2 st3)) fun e4 m4 G4 H4 L4 st4 w4 q4 s4 sg4 ag => ?_⟩
      refine ⟨e4, G4, L4, m4, sg4, w4, Good.mono (Good.bind q4) fun o m5 G5 H5 L5 st5 w5 q5 => ?_⟩
      have ge5 : Same G1 G5 := ((ge.trans st3.g).trans st4.g).trans st5.g
      have le5 : L1 <+: L5 := ((le.trans st3.l).trans st4.l).trans st5.l
      cases o with
      | nx e5 => exact fun s5 sg5 => ⟨e5, G5, L5, m5, sg5, w5, ge5, le5, q5⟩
      | ct e5 => exact fun s5 sg5 => ⟨e5, G5, L5, m5, sg5, w5, ge5, le5, q5⟩
      | bk e5 => exact fun s5 sg5 => Good.ret q5 w5 s5 sg5
      | rt d => exact Good.ret q5 w5
  · have e0 : i = src.items.length := by omega
    subst e0
    rw [List.drop_length] at q2
    obtain ⟨hok, q2⟩ := chk_good q2
    obtain ⟨_, stp⟩ := ok G2 H2 L2 μ2 ge le w2 hok src.items.length
    exact .inl ⟨stp (Nat.le_refl _), Good.ret q2 w2 σ sg2⟩
theorem js_while {c : Expr} {body : List Stmt} {mt : DEnv → M Bool} {mb : DEnv → M Out} (fuel : Nat) (hp : PassesOwn (model X.prog X.w) X.A X.env X.xe) (hc : JT k X E c mt) (hb : JB k X E body mb) : JS k X E (.While c body [] pos) (sWhile fuel mt mb) := by
  refine PS.imp (ps_while hp hc hb) fun Ds s H h => ?_
  obtain ⟨e, G, L, μ, sg, w, gd⟩ := h
  refine ⟨fun m σ H => ∃ e G L μ, Sg k X.K G L σ e ∧ Wd k X.K G H L μ ∧ Good k X.K E G H L (whileL mt mb m e μ) (fun o _ G' H' L' => OutOk k X.K Ds o G' H' L'), ⟨fuel, e, G, L, μ, sg, w, gd⟩, ?_⟩
  rintro m σ H ⟨e, G, L, μ, sg, w, gd⟩
  cases m with
  | zero => exact False.elim gd
  | succ n =>
    refine ⟨e, G, L, μ, sg, w, Good.mono (Good.bind gd) fun c m1 G1 H1 L1 st1 w1 q1 => ?_⟩
    cases c with
    | false => exact Good.ret q1 w1 σ (sg.mono st1.g st1.l)
    | true =>
      refine ⟨fun σ' H' => ∃ e G L μ, Sg k X.K G L σ' e ∧ Wd k X.K G H' L μ ∧ Good k X.K E G H' L (whileL mt mb n e μ) (fun o _ G' H' L' => OutOk k X.K Ds o G' H' L'), fun σ' H' q => ⟨n, Nat.lt_succ_self n, q⟩, ?_⟩
      refine ⟨e, G1, L1, m1, sg.mono st1.g st1.l, w1, Good.mono (Good.bind q1) fun o m5 G5 H5 L5 st5 w5 q5 => ?_⟩
      cases o with
      | nx e5 => exact fun s5 sg5 => ⟨e5, G5, L5, m5, sg5, w5, q5⟩
      | ct e5 => exact fun s5 sg5 => ⟨e5, G5, L5, m5, sg5, w5, q5⟩
      | bk e5 => exact fun s5 sg5 => Good.ret q5 w5 s5 sg5
      | rt d => exact Good.ret q5 w5

/-! ### sources -/
def srcD (d : D) : M Src := fun m => match d with
  | .lst ds => .ok ⟨ds, []⟩ m
  | .tup ds => .ok ⟨ds, []⟩ m
  | .loc n => match m[n]? with
    | some (some (.lst ds)) => .ok ⟨ds, [(n, ds)]⟩ m
    | _ => .bad
  | _ => .bad
def iSeqD (a : DEnv → M D) : DEnv → M Src := fun e => do let x ← a e; srcD x
def iSeqT (K : PySem.W.Frag) (tl : TE) : TI := fun σ H R => tl σ H fun x H1 => ∃ a, x = .ref a ∧ (((∃ xs, SqL K H1 a xs) ∧ R (Itl K a) H1) ∨ ((∃ xs, SqT K H1 a xs) ∧ R (Itt K a) H1))
theorem pi_seq {l : Expr} {tl : TE} (hl : PE X l tl) : PI X tg l (iSeqT X.K tl) := by
  refine ⟨fun pins s σ H R I h => ?_⟩
  refine thn (hl.run pins s σ H _ I h) fun v s1 ⟨x, H1, I1, r1, q1⟩ => ?_
  obtain ⟨a, e, q1⟩ := q1
  subst e
  cases r1
  have fin : ∀ b ∈ [s1.heap.objs.size], FpOk X pins H1 b := fun b hb => by
    have e : b = s1.heap.objs.size := by simpa using hb
    subst e
    exact I1.fpOk (Nat.le_refl _) (I1.hok.fresh (Nat.le_refl _))
  rcases q1 with ⟨⟨xs, hq⟩, q⟩ | ⟨⟨xs, hq⟩, q⟩
  · obtain ⟨its, rv, p, hz⟩ := I1.list hq
    refine wpAny_pyIter_list p.isList ?_
    exact ⟨s1.heap.objs.size, [s1.heap.objs.size], _, _, H1, rfl, I1.kept (t' := s1.toks) fun b o e => Heap.get?_push_of_some _ e, turn_list a _, ⟨_, Heap.get?_push_size _ rfl, rfl, rfl⟩, fin, q⟩
  · obtain ⟨its, rv, p, hz⟩ := I1.tuple hq
    refine wpAny_pyIter_tuple (show s1.heap.IsTuple a its.toArray from p) ?_
    exact ⟨s1.heap.objs.size, [s1.heap.objs.size], _, _, H1, rfl, I1.kept (t' := s1.toks) fun b o e => Heap.get?_push_of_some _ e, turn_tuple a _, ⟨_, Heap.get?_push_size _ rfl, rfl, rfl⟩, fin, q⟩
theorem cellIs_of {m : Store} {n : Nat} {ds : List D} (h : cellIs m (n, ds) = true) : m[n]? = some (some (.lst ds)) := by
  unfold cellIs at h
  split at h
  · rename_i es e
    have := of_decide_eq_true h
    simp only at this e
    rw [e, this]
  · cases h
/-- a source's address, and its items through all that follows -/
def Stand (k : Kx) (K : PySem.W.Frag) (G : Hp) (L : Lam) (src : Src) (a : Addr) (isL : Bool) : Prop :=
  ∀ G2 H2 L2 μ, Same G G2 → L <+: L2 → Wd k K G2 H2 L2 μ → src.okB μ = true → ∃ vs, (if isL = true then SqL K H2 a vs else SqT K H2 a vs) ∧ RpA k K G2 L2 vs src.items
theorem okB_app {s t : Src} {m : Store} {xs : List D} (h : (Src.mk xs (s.gd ++ t.gd)).okB m = true) : s.okB m = true ∧ t.okB m = true := by
  unfold Src.okB at h ⊢
  rw [List.all_append, Bool.and_eq_true] at h
  exact h
theorem src_at {d : D} {x : V} {G H : Hp} {L : Lam} {μ : Store} {β : Type} {f : Src → M β} {Q : β → Store → Hp → Hp → Lam → Prop} (r : Rp k X.K G L x d) (w : Wd k X.K G H L μ) (g : Good k X.K E G H L ((srcD d >>= f) μ) Q) :
    ∃ a isL src, x = .ref a ∧ (∃ vs, if isL = true then SqL X.K H a vs else SqT X.K H a vs) ∧ Stand k X.K G L src a isL ∧ Good k X.K E G H L (f src μ) Q := by
  cases d with
  | lst ds =>
    cases r with
    | @lst a xs _ hs ha => exact ⟨a, true, ⟨ds, []⟩, rfl, ⟨xs, w.ext.seq hs⟩, fun G2 H2 L2 μ2 ge le w2 _ => ⟨xs, (ge.trans w2.ext).seq hs, RpA.mono ge le _ _ ha⟩, g⟩
  | tup ds =>
    cases r with
    | @tup a xs _ hs ha => exact ⟨a, false, ⟨ds, []⟩, rfl, ⟨xs, sqT_mono w.ext hs⟩, fun G2 H2 L2 μ2 ge le w2 _ => ⟨xs, sqT_mono (ge.trans w2.ext) hs, RpA.mono ge le _ _ ha⟩, g⟩
  | loc n =>
    have g' : Good k X.K E G H L (M.bind (srcD (.loc n)) f μ) Q := g
    unfold M.bind srcD at g'
    simp only at g'
    cases hm : μ[n]? with
    | none => rw [hm] at g'; exact False.elim g'
    | some o =>
      cases o with
      | none => rw [hm] at g'; exact False.elim g'
      | some c =>
        cases c with
        | ins _ _ => rw [hm] at g'; exact False.elim g'
        | dct _ _ => rw [hm] at g'; exact False.elim g'
        | lst ds =>
          rw [hm] at g'
          obtain ⟨a, vs, rfl, hl, _, h, ra⟩ := w.look hm r
          refine ⟨a, true, ⟨ds, [(n, ds)]⟩, rfl, ⟨vs, SqL.of h⟩, fun G2 H2 L2 μ2 ge le w2 ok => ?_, g'⟩
          have hc : cellIs μ2 (n, ds) = true := by
            have : ([(n, ds)] : List (Nat × List D)).all (cellIs μ2) = true := ok
            simpa using this
          obtain ⟨a', vs', e1, hl', _, h', ra'⟩ := w2.look (cellIs_of hc) (Rp.mono ge le _ _ r)
          cases e1
          exact ⟨vs', SqL.of h', ra'⟩
  | _ => exact False.elim g
theorem itt_ok {G : Hp} {L : Lam} {src : Src} {a : Addr} (h : Stand k X.K G L src a false) : ItOk k X.K G L (Itt X.K a) src := by
  intro G2 H2 L2 μ ge le w ok i
  obtain ⟨vs, hs, ra⟩ := h G2 H2 L2 μ ge le w ok
  refine ⟨fun d hd => ?_, fun hl => ⟨vs, hs, by rw [ra.len]; exact hl⟩⟩
  obtain ⟨v, hv, rv⟩ := ra.get hd
  refine ⟨⟨vs, v, hs, hv⟩, fun x H3 y => ?_⟩
  obtain ⟨rfl, y⟩ := y
  have := y vs hs
  rw [hv] at this
  cases this
  exact ⟨G2, Stp.refl _ _ _, w, rv⟩
theorem itl_ok' {G : Hp} {L : Lam} {src : Src} {a : Addr} (h : Stand k X.K G L src a true) : ItOk k X.K G L (Itl X.K a) src := by
  intro G2 H2 L2 μ ge le w ok i
  obtain ⟨vs, hs, ra⟩ := h G2 H2 L2 μ ge le w ok
  refine ⟨fun d hd => ?_, fun hl => ⟨vs, hs, by rw [ra.len]; exact hl⟩⟩
  obtain ⟨v, hv, rv⟩ := ra.get hd
  refine ⟨⟨vs, v, hs, hv⟩, fun x H3 y => ?_⟩
  obtain ⟨rfl, y⟩ := y
  have := y vs hs
  rw [hv] at this
  cases this
  exact ⟨G2, Stp.refl _ _ _, w, rv⟩
theorem ji_seq {a : Expr} {ma : DEnv → M D} (ha : JE k X E a ma) : JI k X E tg a (iSeqD ma) := by
  refine PI.imp (pi_seq ha) fun s H R h => ?_
  obtain ⟨e, G, L, μ, sg, w, gd⟩ := h
  refine ⟨e, G, L, μ, sg, w, Good.mono (Good.bind gd) fun d m1 G1 H1 L1 st1 w1 q1 v r => ?_⟩
  obtain ⟨a, isL, src, rfl, ⟨vs, hv⟩, sd, q⟩ := src_at (f := fun s => (pure s : M Src)) r w1 (show Good k X.K E G1 H1 L1 ((srcD d >>= fun s => (pure s : M Src)) m1) _ by
    have e2 : (srcD d >>= fun s => (pure s : M Src)) m1 = srcD d m1 := by
      show M.bind (srcD d) _ m1 = _
      unfold M.bind
      cases srcD d m1 <;> rfl
    rw [e2]
    exact q1)
  refine ⟨a, rfl, ?_⟩
  cases isL with
  | true => exact .inl ⟨⟨vs, hv⟩, Good.ret q w1 _ (itl_ok' sd)⟩
  | false => exact .inr ⟨⟨vs, hv⟩, Good.ret q w1 _ (itt_ok sd)⟩
/-! range -/
def rngI (lo : Int) (n : Nat) : List D := (List.range n).map fun (i : Nat) => D.int (lo + (i : Int))
def iRg1 (a : DEnv → M (List D)) : DEnv → M Src := fun e => do
  let xs ← a e
  match xs with
    | [.int n] => if -(2 ^ 62) ≤ n ∧ n < 2 ^ 62 then pure ⟨rngI 0 n.toNat, []⟩ else M.bad
    | _ => M.bad
def iRg2 (a : DEnv → M (List D)) : DEnv → M Src := fun e => do
  let xs ← a e
  match xs with
    | [.int m, .int n] => if (-(2 ^ 62) ≤ m ∧ m < 2 ^ 62) ∧ -(2 ^ 62) ≤ n ∧ n < 2 ^ 62 then pure ⟨rngI m (n - m).toNat, []⟩ else M.bad
    | _ => M.bad
theorem itr_ok {G : Hp} {L : Lam} {lo : Int} {n : Nat} : ItOk k X.K G L (Itr lo n) ⟨rngI lo n, []⟩ := by
  intro G2 H2 L2 μ ge le w ok i
  refine ⟨fun d hd => ?_, fun hl => show n ≤ i by simpa [rngI] using hl⟩
  have hi : i < n := by
    have := (List.getElem?_eq_some_iff.mp hd).1
    simpa [rngI] using this
  refine ⟨hi, fun x H3 y => ?_⟩
  obtain ⟨rfl, rfl⟩ := y
  have : d = .int (lo + (i : Int)) := by
    simp [rngI, hi] at hd
    exact hd.symm
  subst this
  exact ⟨G2, Stp.refl _ _ _, w, .int _⟩
theorem ji_range1 {a : Expr} {ms : DEnv → M (List D)} {p : Pos} (hg : Gl X "range") (hm : X.mg "range" = none) (ha : JA k X E [a] ms) (hs : starEach [a] X.env = [(false, eval a X.env)] := by rfl) : JI k X E tg (.Call (.Name "range" p) [a] [] pos) (iRg1 ms) := by
  refine PI.imp (pi_range1 hg hm ha hs) fun s H R h => ?_
  obtain ⟨e, G, L, μ, sg, w, gd⟩ := h
  refine ⟨e, G, L, μ, sg, w, Good.mono (Good.bind gd) fun ds m1 G1 H1 L1 st1 w1 q1 vs r => ?_⟩
  match ds, r, q1 with
  | [.int n], r, q1 =>
    obtain ⟨v, rfl, r'⟩ := one_of (H := H1) r
    cases r'
    obtain ⟨⟨h1, h2⟩, q1⟩ := good_ite q1
    exact ⟨n, rfl, h1, h2, Good.ret q1 w1 _ itr_ok⟩
  | [], _, q1 => exact False.elim q1
  | [.non], _, q1 => exact False.elim q1
  | [.bl _], _, q1 => exact False.elim q1
  | [.str _], _, q1 => exact False.elim q1
  | [.lst _], _, q1 => exact False.elim q1
  | [.tup _], _, q1 => exact False.elim q1
  | [.loc _], _, q1 => exact False.elim q1
  | [.obj _ _], _, q1 => exact False.elim q1
  | [.cls _], _, q1 => exact False.elim q1
  | [.dct _ _], _, q1 => exact False.elim q1
  | [.fdc _ _], _, q1 => exact False.elim q1
  | [.err _ _], _, q1 => exact False.elim q1
  | x :: _ :: _, _, q1 => cases x <;> exact False.elim q1
theorem ji_range2 {a b : Expr} {ms : DEnv → M (List D)} {p : Pos} (hg : Gl X "range") (hm : X.mg "range" = none) (ha : JA k X E [a, b] ms) (hs : starEach [a, b] X.env = [(false, eval a X.env), (false, eval b X.env)] := by rfl) (hs2 : starEach [b] X.env = [(false, eval b X.env)] := by rfl) :
    JI k X E tg (.Call (.Name "range" p) [a, b] [] pos) (iRg2 ms) := by
  refine PI.imp (pi_range2 hg hm ha hs hs2) fun s H R h => ?_
  obtain ⟨e, G, L, μ, sg, w, gd⟩ := h
  refine ⟨e, G, L, μ, sg, w, Good.mono (Good.bind gd) fun ds m1 G1 H1 L1 st1 w1 q1 vs r => ?_⟩
  match ds, r, q1 with
  | [], _, q1 => exact False.elim q1
  | [x], _, q1 => cases x <;> exact False.elim q1
  | [x, y], r, q1 =>
    obtain ⟨v, u, rfl, r1, r2⟩ := two_of (H := H1) r
    cases x with
    | int m =>
      cases y with
      | int n =>
        cases r1
        cases r2
        obtain ⟨⟨⟨h1, h2⟩, h3, h4⟩, q1⟩ := good_ite q1
        exact ⟨m, n, rfl, ⟨h1, h2, h3, h4⟩, Good.ret q1 w1 _ itr_ok⟩
      | _ => exact False.elim q1
    | _ => exact False.elim q1
  | x :: y :: _ :: _, _, q1 => cases x <;> (cases y <;> exact False.elim q1)
/-! zip, enumerate -/
def zipT (xs ys : List D) : List D := (xs.zip ys).map fun p => D.tup [p.1, p.2]
def enumT (xs : List D) : List D := xs.zipIdx.map fun p => D.tup [.int (p.2 : Int), p.1]
def sameKind (x y : D) : Bool := match x, y with
  | .tup _, .tup _ => true
  | .tup _, _ => false
  | _, .tup _ => false
  | _, _ => true
def iZipD (a : DEnv → M (List D)) : DEnv → M Src := fun e => do
  let xs ← a e
  match xs with
    | [x, y] => if sameKind x y = true then (do let s ← srcD x; let t ← srcD y; pure ⟨zipT s.items t.items, s.gd ++ t.gd⟩) else M.bad
    | _ => M.bad
theorem zipT_get {xs ys : List D} {i : Nat} {d : D} (h : (zipT xs ys)[i]? = some d) : ∃ x y, xs[i]? = some x ∧ ys[i]? = some y ∧ d = .tup [x, y] := by
  unfold zipT at h
  rw [List.getElem?_map] at h
  cases e : (xs.zip ys)[i]? with
  | none => rw [e] at h; cases h
  | some p =>
    rw [e] at h
    cases h
    rw [List.getElem?_zip_eq_some] at e
    exact ⟨p.1, p.2, e.1, e.2, rfl⟩
theorem zipT_len (xs ys : List D) : (zipT xs ys).length = min xs.length ys.length := by simp [zipT]
theorem two_new {G H : Hp} {L : Lam} {μ : Store} {T : Addr} {x y : V} {dx dy : D} (w : Wd k X.K G H L μ) (hT : H T = none) (r1 : Rp k X.K G L x dx) (r2 : Rp k X.K G L y dy) :
    ∃ G3, Stp G H L G3 (upd H T (.tup [x, y])) L ∧ Wd k X.K G3 (upd H T (.tup [x, y])) L μ ∧ Rp k X.K G3 L (.ref T) (.tup [dx, dy]) := by
  have st := w.newS (o := .tup [x, y]) hT
  exact ⟨_, st, w.new hT, .tup (SqT.of upd_same) (.cons (Rp.mono st.g st.l _ _ r1) (.cons (Rp.mono st.g st.l _ _ r2) .nil))⟩
theorem itz_ok {G : Hp} {L : Lam} {s t : Src} {a b : Addr} (h1 : Stand k X.K G L s a true) (h2 : Stand k X.K G L t b true) : ItOk k X.K G L (Itz X.K a b) ⟨zipT s.items t.items, s.gd ++ t.gd⟩ := by
  intro G2 H2 L2 μ ge le w ok i
  obtain ⟨o1, o2⟩ := okB_app ok
  obtain ⟨vs, hs, ra⟩ := h1 G2 H2 L2 μ ge le w o1
  obtain ⟨us, ht, rb⟩ := h2 G2 H2 L2 μ ge le w o2
  refine ⟨fun d hd => ?_, fun hl => ?_⟩
  · obtain ⟨dx, dy, e1, e2, rfl⟩ := zipT_get hd
    obtain ⟨v, hv, rv⟩ := ra.get e1
    obtain ⟨u, hu, ru⟩ := rb.get e2
    refine ⟨⟨vs, us, v, u, hs, ht, hv, hu⟩, fun x H3 y => ?_⟩
    obtain ⟨T, x', y', rfl, hT, rfl, q1, q2⟩ := y
    have z1 := q1 vs hs
    have z2 := q2 us ht
    rw [hv] at z1
    rw [hu] at z2
    cases z1
    cases z2
    exact two_new w hT rv ru
  · refine ⟨vs, us, hs, ht, ?_⟩
    rw [zipT_len] at hl
    rw [ra.len, rb.len]
    omega
theorem itzT_ok {G : Hp} {L : Lam} {s t : Src} {a b : Addr} (h1 : Stand k X.K G L s a false) (h2 : Stand k X.K G L t b false) : ItOk k X.K G L (RZ.ItzT X.K a b) ⟨zipT s.items t.items, s.gd ++ t.gd⟩ := by
  intro G2 H2 L2 μ ge le w ok i
  obtain ⟨o1, o2⟩ := okB_app ok
  obtain ⟨vs, hs, ra⟩ := h1 G2 H2 L2 μ ge le w o1
  obtain ⟨us, ht, rb⟩ := h2 G2 H2 L2 μ ge le w o2
  refine ⟨fun d hd => ?_, fun hl => ?_⟩
  · obtain ⟨dx, dy, e1, e2, rfl⟩ := zipT_get hd
    obtain ⟨v, hv, rv⟩ := ra.get e1
    obtain ⟨u, hu, ru⟩ := rb.get e2
    refine ⟨⟨vs, us, v, u, hs, ht, hv, hu⟩, fun x H3 y => ?_⟩
    obtain ⟨T, x', y', rfl, hT, rfl, q1, q2⟩ := y
    have z1 := q1 vs hs
    have z2 := q2 us ht
    rw [hv] at z1
    rw [hu] at z2
    cases z1
    cases z2
    exact two_new w hT rv ru
  · refine ⟨vs, us, hs, ht, ?_⟩
    rw [zipT_len] at hl
    rw [ra.len, rb.len]
    omega
def notTup : D → Bool
  | .tup _ => false
  | _ => true
/-- src_at, with the kind told by the data -/
theorem src_atK {d : D} {x : V} {G H : Hp} {L : Lam} {μ : Store} {β : Type} {f : Src → M β} {Q : β → Store → Hp → Hp → Lam → Prop} (r : Rp k X.K G L x d) (w : Wd k X.K G H L μ) (g : Good k X.K E G H L ((srcD d >>= f) μ) Q) :
    ∃ a src, x = .ref a ∧ (∃ vs, if notTup d = true then SqL X.K H a vs else SqT X.K H a vs) ∧ Stand k X.K G L src a (notTup d) ∧ Good k X.K E G H L (f src μ) Q := by
  cases d with
  | lst ds =>
    cases r with
    | @lst a xs _ hs ha => exact ⟨a, ⟨ds, []⟩, rfl, ⟨xs, w.ext.seq hs⟩, fun G2 H2 L2 μ2 ge le w2 _ => ⟨xs, (ge.trans w2.ext).seq hs, RpA.mono ge le _ _ ha⟩, g⟩
  | tup ds =>
    cases r with
    | @tup a xs _ hs ha => exact ⟨a, ⟨ds, []⟩, rfl, ⟨xs, sqT_mono w.ext hs⟩, fun G2 H2 L2 μ2 ge le w2 _ => ⟨xs, sqT_mono (ge.trans w2.ext) hs, RpA.mono ge le _ _ ha⟩, g⟩
  | loc n =>
    have g' : Good k X.K E G H L (M.bind (srcD (.loc n)) f μ) Q := g
    unfold M.bind srcD at g'
    simp only at g'
    cases hm : μ[n]? with
    | none => rw [hm] at g'; exact False.elim g'
    | some o =>
      cases o with
      | none => rw [hm] at g'; exact False.elim g'
      | some c =>
        cases c with
        | ins _ _ => rw [hm] at g'; exact False.elim g'
        | dct _ _ => rw [hm] at g'; exact False.elim g'
        | lst ds =>
          rw [hm] at g'
          obtain ⟨a, vs, rfl, hl, _, h, ra⟩ := w.look hm r
          refine ⟨a, ⟨ds, [(n, ds)]⟩, rfl, ⟨vs, SqL.of h⟩, fun G2 H2 L2 μ2 ge le w2 ok => ?_, g'⟩
          have hc : cellIs μ2 (n, ds) = true := by
            have : ([(n, ds)] : List (Nat × List D)).all (cellIs μ2) = true := ok
            simpa using this
          obtain ⟨a', vs', e1, hl', _, h', ra'⟩ := w2.look (cellIs_of hc) (Rp.mono ge le _ _ r)
          cases e1
          exact ⟨vs', SqL.of h', ra'⟩
  | _ => exact False.elim g
theorem ji_zip {a b : Expr} {ms : DEnv → M (List D)} {p tpos : Pos} {elts : List Expr} {kk : Nat} (hg : Gl X "zip") (hm : X.mg "zip" = none) (ha : JA k X E [a, b] ms)
    (hs : starEach [a, b] X.env = (false, eval a X.env) :: starEach [b] X.env := by rfl) (hpl : (backTo pos (starEach [b] X.env)).any (·.1) = false := by rfl) :
    JI k X E (.Tuple elts kk tpos) (.Call (.Name "zip" p) [a, b] [] pos) (iZipD ms) := by
  refine PI.imp (RZ.pi_zipA hg hm ha hs hpl) fun s H R h => ?_
  obtain ⟨e, G, L, μ, sg, w, gd⟩ := h
  refine ⟨e, G, L, μ, sg, w, Good.mono (Good.bind gd) fun ds m1 G1 H1 L1 st1 w1 q1 vs r => ?_⟩
  match ds, r, q1 with
  | [], _, q1 => exact False.elim q1
  | [_], _, q1 => exact False.elim q1
  | [x, y], r, q1 =>
    obtain ⟨v, u, rfl, r1, r2⟩ := two_of (H := H1) r
    obtain ⟨hk, q1⟩ := good_ite q1
    obtain ⟨a, s, rfl, ⟨va, hva⟩, sa, q1⟩ := src_atK (f := fun s => do let t ← srcD y; (pure ⟨zipT s.items t.items, s.gd ++ t.gd⟩ : M Src)) r1 w1 q1
    obtain ⟨b, t, rfl, ⟨vb, hvb⟩, sb, q1⟩ := src_atK (f := fun t => (pure ⟨zipT s.items t.items, s.gd ++ t.gd⟩ : M Src)) r2 w1 q1
    refine ⟨a, b, va, vb, rfl, ?_⟩
    have q2 := fun J ok => Good.ret q1 w1 J ok
    cases x with
    | tup xs =>
      cases y with
      | tup ys => exact .inr ⟨hva, hvb, q2 _ (itzT_ok sa sb)⟩
      | _ => cases hk
    | _ =>
      cases y with
      | tup ys => cases hk
      | _ => exact .inl ⟨hva, hvb, q2 _ (itz_ok sa sb)⟩
  | _ :: _ :: _ :: _, _, q1 => exact False.elim q1
def iEnumD (a : DEnv → M (List D)) : DEnv → M Src := fun e => do
  let xs ← a e
  match xs with
    | [.tup _] => M.bad
    | [x] => do let s ← srcD x; pure ⟨enumT s.items, s.gd⟩
    | _ => M.bad
theorem enumT_get {xs : List D} {i : Nat} {d : D} (h : (enumT xs)[i]? = some d) : ∃ x, xs[i]? = some x ∧ d = .tup [.int (i : Int), x] := by
  unfold enumT at h
  rw [List.getElem?_map, List.getElem?_zipIdx] at h
  cases e : xs[i]? with
  | none => rw [e] at h; cases h
  | some x =>
    rw [e] at h
    simp at h
    exact ⟨x, rfl, h.symm⟩
theorem enumT_len (xs : List D) : (enumT xs).length = xs.length := by simp [enumT]
theorem ite_ok {G : Hp} {L : Lam} {s : Src} {a : Addr} (h1 : Stand k X.K G L s a true) : ItOk k X.K G L (Ite X.K a) ⟨enumT s.items, s.gd⟩ := by
  intro G2 H2 L2 μ ge le w ok i
  obtain ⟨vs, hs, ra⟩ := h1 G2 H2 L2 μ ge le w ok
  refine ⟨fun d hd => ?_, fun hl => ⟨vs, hs, by rw [enumT_len] at hl; rw [ra.len]; exact hl⟩⟩
  obtain ⟨dx, e1, rfl⟩ := enumT_get hd
  obtain ⟨v, hv, rv⟩ := ra.get e1
  refine ⟨⟨vs, v, hs, hv⟩, fun x H3 y => ?_⟩
  obtain ⟨T, x', rfl, hT, rfl, q1⟩ := y
  have z1 := q1 vs hs
  rw [hv] at z1
  cases z1
  exact two_new w hT (.int _) rv
theorem ji_enum {a : Expr} {ms : DEnv → M (List D)} {p tpos : Pos} {elts : List Expr} {kk : Nat} (hg : Gl X "enumerate") (hm : X.mg "enumerate" = none) (ha : JA k X E [a] ms) (hs : starEach [a] X.env = [(false, eval a X.env)] := by rfl) :
    JI k X E (.Tuple elts kk tpos) (.Call (.Name "enumerate" p) [a] [] pos) (iEnumD ms) := by
  refine PI.imp (pi_enum hg hm ha hs) fun s H R h => ?_
  obtain ⟨e, G, L, μ, sg, w, gd⟩ := h
  refine ⟨e, G, L, μ, sg, w, Good.mono (Good.bind gd) fun ds m1 G1 H1 L1 st1 w1 q1 vs r => ?_⟩
  match ds, r, q1 with
  | [], _, q1 => exact False.elim q1
  | [x], r, q1 =>
    obtain ⟨v, rfl, r1⟩ := one_of (H := H1) r
    have main : Good k X.K E G1 H1 L1 ((do let s ← srcD x; (pure ⟨enumT s.items, s.gd⟩ : M Src)) m1) (fun src _ G' H' L' => ∀ J, ItOk k X.K G' L' J src → R J H') → (∀ t, x ≠ .tup t) → ∃ a xs, [v] = [V.ref a] ∧ SqL X.K H1 a xs ∧ R (Ite X.K a) H1 := fun q1 nt => by
      obtain ⟨a, s, rfl, ⟨va, hva⟩, sa, q1⟩ := src_atK (f := fun s => (pure ⟨enumT s.items, s.gd⟩ : M Src)) r1 w1 q1
      have hx : notTup x = true := by
        cases x <;> first | rfl | exact absurd rfl (nt _)
      rw [hx] at hva sa
      exact ⟨a, va, rfl, hva, Good.ret q1 w1 _ (ite_ok sa)⟩
    cases x with
    | tup _ => exact False.elim q1
    | _ => exact main q1 fun _ z => nomatch z
  | x :: _ :: _, _, q1 => cases x <;> exact False.elim q1
end
end DL

namespace DL
open PySem L2 PyProof.Rows

/-! ### comprehensions -/
def wipeD (e : DEnv) : List Nat → DEnv
  | [] => e
  | v :: vs => (wipeD e vs).set v none
/-- no error leaves -/
def noX {α : Type} (x : M α) : M α := fun m => match x m with
  | .exn _ _ _ => .bad
  | r => r
def compL (src : Src) (g : D → DEnv → M DEnv) (t : DEnv → M Bool) (elt : DEnv → M D) (e : DEnv) : List D → M (List D)
  | [] => do chk src; pure []
  | d :: ds => do
    chk src
    let e1 ← noX (g d e)
    let b ← noX (t e1)
    if b then (do
      let y ← noX (elt e1)
      let ys ← compL src g t elt e ds
      pure (y :: ys)) else compL src g t elt e ds
def sizeOk (src : Src) : M Unit := fun m => if src.items.length ≤ 100000 then .ok () m else .bad
def compM (it : DEnv → M Src) (g : D → DEnv → M DEnv) (t : DEnv → M Bool) (elt : DEnv → M D) (vs : List Nat) : DEnv → M (List D) := fun e => do
  let src ← it e
  sizeOk src
  compL src g t elt (wipeD e vs) src.items
def eComp (it : DEnv → M Src) (g : D → DEnv → M DEnv) (t : DEnv → M Bool) (elt : DEnv → M D) (vs : List Nat) : DEnv → M D := fun e => do
  let ds ← compM it g t elt vs e
  pure (.lst ds)
def newL (ds : List D) : M D := fun m => .ok (.loc m.length) (m ++ [some (.lst ds)])
def eCompM (it : DEnv → M Src) (g : D → DEnv → M DEnv) (t : DEnv → M Bool) (elt : DEnv → M D) (vs : List Nat) : DEnv → M D := fun e => do
  let ds ← compM it g t elt vs e
  newL ds
def tYesD : DEnv → M Bool := fun _ => pure true

section
variable {k : Kx} {X : Cx} {E : XK} {tg iter elt : Expr} {pos : Pos}
theorem good_noX {α β : Type} {x : M α} {f : α → M β} {G H G2 H2 : Hp} {L L2 : Lam} {m : Store} {Q : β → Store → Hp → Hp → Lam → Prop} (h : Good k X.K E G H L ((noX x >>= f) m) Q) (st : Stp G H L G2 H2 L2) :
    Good k X.K E0 G2 H2 L2 (x m) (fun a m' _ _ _ => Good k X.K E G H L (f a m') Q) := by
  have h' : Good k X.K E G H L (M.bind (noX x) f m) Q := h
  unfold M.bind noX at h'
  cases e : x m with
  | ok a m' =>
    rw [e] at h'
    exact fun G' H' L' e1 w => h'
  | exn c fs m' =>
    rw [e] at h'
    exact False.elim h'
  | bad =>
    rw [e] at h'
    exact False.elim h'
theorem wipe_sg {s : L2.St} {e : DEnv} {G : Hp} {L : Lam} (h : Sg k X.K G L s e) : ∀ vs : List Nat, Sg k X.K G L (wipe s vs) (wipeD e vs)
  | [] => h
  | v :: vs => by
    obtain ⟨h1, h2⟩ := wipe_sg h vs
    unfold wipe wipeD
    refine ⟨by rw [List.length_set, List.length_set]; exact h1, fun i d q => ?_⟩
    by_cases hi : v = i
    · subst hi
      by_cases hl : v < (wipeD e vs).length
      · rw [List.getElem?_set_self hl] at q
        cases q
      · rw [List.getElem?_eq_none (by simpa using hl)] at q
        cases q
    · rw [List.getElem?_set_ne hi] at q ⊢
      exact h2 i d q
theorem wipe_get {s : L2.St} {i : Nat} : ∀ {vs : List Nat}, i ∉ vs → (wipe s vs)[i]? = s[i]?
  | [], _ => rfl
  | v :: vs, h => by
    simp only [List.mem_cons, not_or] at h
    unfold wipe
    rw [List.getElem?_set_ne (Ne.symm h.1), wipe_get h.2]
theorem wipe_mem {s : L2.St} {i : Nat} : ∀ {vs : List Nat}, i ∈ vs → (wipe s vs)[i]? = if i < s.length then some none else none
  | [], h => by cases h
  | v :: vs, h => by
    unfold wipe
    by_cases hv : v = i
    · subst hv
      by_cases hl : v < s.length
      · rw [if_pos hl, List.getElem?_set_self (by rw [wipe_length]; exact hl)]
      · rw [if_neg hl, List.getElem?_eq_none (by rw [List.length_set, wipe_length]; omega)]
    · rw [List.getElem?_set_ne hv]
      exact wipe_mem ((List.mem_cons.mp h).resolve_left (Ne.symm hv))
theorem wipe_agree {s s' : L2.St} {ts vs : List Nat} (hl : s'.length = s.length) (ag : ∀ i, i ∉ ts → s'[i]? = s[i]?) (sub : ∀ i ∈ ts, i ∈ vs) : wipe s' vs = wipe s vs := by
  apply List.ext_getElem?
  intro i
  by_cases hi : i ∈ vs
  · rw [wipe_mem hi, wipe_mem hi, hl]
  · rw [wipe_get hi, wipe_get hi]
    exact ag i fun z => hi (sub i z)
theorem wipe_twice {s : L2.St} {vs : List Nat} : wipe (wipe s vs) vs = wipe s vs := by
  apply List.ext_getElem?
  intro i
  by_cases hi : i ∈ vs
  · rw [wipe_mem hi, wipe_mem hi, wipe_length]
  · rw [wipe_get hi, wipe_get hi]
theorem sizeOk_good {β : Type} {src : Src} {f : Unit → M β} {G H : Hp} {L : Lam} {m : Store} {Q : β → Store → Hp → Hp → Lam → Prop} (h : Good k X.K E G H L ((sizeOk src >>= f) m) Q) : src.items.length ≤ 100000 ∧ Good k X.K E G H L (f () m) Q := by
  have h' : Good k X.K E G H L (M.bind (sizeOk src) f m) Q := h
  unfold M.bind sizeOk at h'
  by_cases hc : src.items.length ≤ 100000
  · rw [if_pos hc] at h'
    exact ⟨hc, h'⟩
  · rw [if_neg hc] at h'
    exact False.elim h'
theorem privS {G H G1 H1 : Hp} {L L1 : Lam} {a : Addr} {o : HO} (st : Stp G1 H1 L1 G H L) (ha : H1 a = none) (no : NT o) : Stp G1 H1 L1 G (upd H a o) L where
  g := st.g
  l := st.l
  tr := fun x e => st.tr x (bare_at no e)
  keep := fun x u e nt n => by
    rw [upd_ne (ne_of_none e ha)]
    exact st.keep x u e nt n
  nl := st.nl
theorem lt_size {n : Nat} (h : n < 100000) : n < sizeLine := Nat.lt_of_lt_of_le h (by decide)
theorem good_assoc {α β γ : Type} {x : M α} {f : α → M β} {h : β → M γ} {G H : Hp} {L : Lam} {m : Store} {Q : γ → Store → Hp → Hp → Lam → Prop} (g : Good k X.K E G H L (((x >>= f) >>= h) m) Q) : Good k X.K E G H L ((x >>= fun a => f a >>= h) m) Q := by
  have e : ((x >>= f) >>= h) m = (x >>= fun a => f a >>= h) m := by
    show M.bind (M.bind x f) h m = M.bind x (fun a => M.bind (f a) h) m
    unfold M.bind
    cases x m <;> rfl
  rw [← e]
  exact g
theorem good_pureb {α β : Type} {a : α} {f : α → M β} {G H : Hp} {L : Lam} {m : Store} {Q : β → Store → Hp → Hp → Lam → Prop} (g : Good k X.K E G H L (((pure a : M α) >>= f) m) Q) : Good k X.K E G H L (f a m) Q := g
structure Pv (G H : Hp) (L : Lam) (a : Addr) (o : HO) : Prop where
  h : H a = some o
  g : G a = none
  n : ∀ p ∈ L, a ≠ p.1 ∧ a ≠ p.2
  nc : NC o
theorem Pv.step {G H G' H' : Hp} {L L' : Lam} {a : Addr} {o : HO} (p : Pv G H L a o) (st : Stp G H L G' H' L') : Pv G' H' L' a o := by
  obtain ⟨h1, h2⟩ := st.keep a o p.h p.nc.1 p.n
  refine ⟨h1, h2 p.g, fun q hq => ?_, p.nc⟩
  rcases st.nl q hq with z | ⟨z1, z2⟩
  · exact p.n q z
  · exact ⟨ne_of_bare p.h p.nc.1 z1, ne_of_bare p.h p.nc.1 z2⟩
/-- the core: what is done with the new list comes last -/
theorem comp_gen {β : Type} {mi : DEnv → M Src} {ts vs : List Nat} {g : D → DEnv → M DEnv} {mt : DEnv → M Bool} {me : DEnv → M D} {fin : List D → M β} {Q0 : β → Store → Hp → Hp → Lam → Prop} {s : L2.St} {H : Hp} {Q : VK} {e : DEnv} {G : Hp} {L : Lam} {μ : Store} (sub : ∀ i ∈ ts, i ∈ vs)
    (hfin : ∀ (G1 H1 : Hp) (L1 : Lam) (G' H' : Hp) (L' : Lam) (μ : Store) (Dl : Addr) (ws : List V) (ds : List D), Stp G H L G1 H1 L1 → Stp G1 H1 L1 G' H' L' → H1 Dl = none → Wd k X.K G' H' L' μ → Pv G' H' L' Dl (.lst ws) → RpA k X.K G' L' ws ds →
      Good k X.K E G1 H1 L1 (fin ds μ) Q0 → Q (.ref Dl) H') (sg : Sg k X.K G L s e) (w : Wd k X.K G H L μ) (gd : Good k X.K E G H L ((compM mi g mt me vs e >>= fin) μ) Q0) :
    tLc (dI k X.K E mi) (dG k X.K E0 ts g) (dT k X.K E0 mt) (dE k X.K E0 me) vs s H Q := by
  have gd1 := good_assoc gd
  refine ⟨e, G, L, μ, sg, w, Good.mono (Good.bind gd1) fun src m1 G1 H1 L1 st1 w1 q1 J ok Dl hD => ?_⟩
  have sg1 := wipe_sg (sg.mono st1.g st1.l) vs
  obtain ⟨hz, q1⟩ := sizeOk_good (good_assoc q1)
  have pv1 : Pv G1 (upd H1 Dl (.lst [])) L1 Dl (.lst []) := ⟨upd_same, w1.gnone hD, fun p hp => by
    obtain ⟨⟨o1, z1, _⟩, ⟨o2, z2, _⟩⟩ := w1.tk p hp
    exact ⟨Ne.symm (ne_of_none z1 hD), Ne.symm (ne_of_none z2 hD)⟩, nc_lst []⟩
  refine ⟨fun i m H => m = src.items.length - i ∧ i ≤ src.items.length ∧ ∃ G L μ ws ds, Stp G1 H1 L1 G H L ∧ Wd k X.K G H L μ ∧ Pv G H L Dl (.lst ws) ∧ RpA k X.K G L ws ds ∧ ws.length ≤ i ∧
      Good k X.K E G1 H1 L1 ((do let rest ← compL src g mt me (wipeD e vs) (src.items.drop i); fin (ds ++ rest)) μ) Q0,
    ⟨src.items.length, by simp, Nat.zero_le _, G1, L1, m1, [], [], junkS hD, w1.junk hD, pv1, .nil, Nat.zero_le _, by simpa using q1⟩, ?_⟩
  rintro i m H2 ⟨rfl, hi, G2, L2, μ2, ws, ds, st2, w2, pv2, ra, hl, q2⟩
  by_cases hlt : i < src.items.length
  · have hd : src.items.drop i = src.items[i] :: src.items.drop (i + 1) := List.drop_eq_getElem_cons hlt
    rw [hd] at q2
    obtain ⟨hok, q2⟩ := chk_good (good_assoc q2)
    obtain ⟨ho, _⟩ := ok G2 H2 L2 μ2 st2.g st2.l w2 hok i
    obtain ⟨go, yl⟩ := ho src.items[i] (List.getElem?_eq_getElem hlt)
    refine .inr ⟨go, fun H => ∃ G L μ ws ds, Stp G1 H1 L1 G H L ∧ Wd k X.K G H L μ ∧ Pv G H L Dl (.lst ws) ∧ RpA k X.K G L ws ds ∧ ws.length ≤ i + 1 ∧
      Good k X.K E G1 H1 L1 ((do let rest ← compL src g mt me (wipeD e vs) (src.items.drop (i + 1)); fin (ds ++ rest)) μ) Q0, fun H' q => ⟨src.items.length - (i + 1), by omega, rfl, hlt, q⟩, fun x H3 y => ?_⟩
    obtain ⟨G3, st3, w3, r3⟩ := yl x H3 y
    have s13 := st2.trans st3
    refine ⟨src.items[i], wipeD e vs, G3, L2, μ2, sg1.mono s13.g s13.l, r3, w3, Good.mono (good_noX (good_assoc q2) s13) fun e4 m4 G4 H4 L4 st4 w4 q4 s4 sg4 ag => ⟨?_, ?_⟩⟩
    · rw [wipe_agree ag.1 ag.2 sub, wipe_twice]
    · have s14 := s13.trans st4
      refine ⟨e4, G4, L4, m4, sg4, w4, Good.mono (good_noX (good_assoc q4) s14) fun b m5 G5 H5 L5 st5 w5 q5 => ?_⟩
      have s15 := s14.trans st5
      have ra5 := RpA.mono ((st3.g.trans st4.g).trans st5.g) ((st3.l.trans st4.l).trans st5.l) _ _ ra
      have pv5 := ((pv2.step st3).step st4).step st5
      cases b with
      | false => exact ⟨G5, L5, m5, ws, ds, s15, w5, pv5, ra5, Nat.le_succ_of_le hl, q5⟩
      | true =>
        refine ⟨e4, G5, L5, m5, sg4.mono st5.g st5.l, w5, Good.mono (good_noX (good_assoc q5) s15) fun d6 m6 G6 H6 L6 st6 w6 q6 v6 r6 => ?_⟩
        have pv6 := pv5.step st6
        refine ⟨ws, pv6.h, lt_size (by omega), G6, L6, m6, ws ++ [v6], ds ++ [d6], privS (s15.trans st6) hD (nc_lst _).1, w6.priv pv6.g pv6.h pv6.nc (nc_lst _).1 pv6.n, ⟨upd_same, pv6.g, pv6.n, nc_lst _⟩, (RpA.mono st6.g st6.l _ _ ra5).append (.cons r6 .nil), by simp; omega, ?_⟩
        have q7 := good_assoc q6
        have e7 : (fun rest => fin (ds ++ [d6] ++ rest)) = fun rest => fin (ds ++ d6 :: rest) := by
          funext rest
          simp
        rw [e7]
        exact q7
  · have e0 : i = src.items.length := by omega
    subst e0
    rw [List.drop_length] at q2
    obtain ⟨hok, q2⟩ := chk_good (good_assoc q2)
    obtain ⟨_, stp⟩ := ok G2 H2 L2 μ2 st2.g st2.l w2 hok src.items.length
    have q3 := good_pureb q2
    rw [List.append_nil] at q3
    exact .inl ⟨stp (Nat.le_refl _), hfin G1 H1 L1 G2 H2 L2 μ2 Dl ws ds st1 st2 hD w2 pv2 ra q3⟩
theorem comp_core {mi : DEnv → M Src} {ts vs : List Nat} {g : D → DEnv → M DEnv} {mt : DEnv → M Bool} {me : DEnv → M D} {fin : List D → M D} (sub : ∀ i ∈ ts, i ∈ vs)
    (hfin : ∀ (G1 H1 : Hp) (L1 : Lam) (G H : Hp) (L : Lam) (μ : Store) (Dl : Addr) (ws : List V) (ds : List D) (Q : VK), Stp G1 H1 L1 G H L → H1 Dl = none → Wd k X.K G H L μ → Pv G H L Dl (.lst ws) → RpA k X.K G L ws ds →
      Good k X.K E G1 H1 L1 (fin ds μ) (QV k X.K Q) → Q (.ref Dl) H) {s : L2.St} {H : Hp} {Q : VK} (h : dE k X.K E (fun e => do let ds ← compM mi g mt me vs e; fin ds) s H Q) :
    tLc (dI k X.K E mi) (dG k X.K E0 ts g) (dT k X.K E0 mt) (dE k X.K E0 me) vs s H Q := by
  obtain ⟨e, G, L, μ, sg, w, gd⟩ := h
  exact comp_gen sub (fun G1 H1 L1 G' H' L' μ Dl ws ds _ st hD w pv ra g => hfin G1 H1 L1 G' H' L' μ Dl ws ds Q st hD w pv ra g) sg w gd
theorem adoptS {G H G1 H1 : Hp} {L L1 : Lam} {a : Addr} {o : HO} (st : Stp G1 H1 L1 G H L) (ha : H1 a = none) (ga : G a = none) : Stp G1 H1 L1 (upd G a o) H L where
  g := st.g.trans (Same.new ga)
  l := st.l
  tr := st.tr
  keep := fun x u e nt n => by
    obtain ⟨h1, h2⟩ := st.keep x u e nt n
    exact ⟨h1, fun z => by rw [upd_ne (ne_of_none e ha)]; exact h2 z⟩
  nl := st.nl
theorem adoptLocS {G H G1 H1 : Hp} {L L1 : Lam} {a : Addr} (st : Stp G1 H1 L1 G H L) (ha : H1 a = none) : Stp G1 H1 L1 G H (L ++ [(a, a)]) where
  g := st.g
  l := st.l.trans (List.prefix_append _ _)
  tr := st.tr
  keep := st.keep
  nl := fun p hp => by
    rcases List.mem_append.mp hp with z | z
    · exact st.nl p z
    · simp at z
      subst z
      exact .inr ⟨bare_none ha, bare_none ha⟩
theorem fin_lst {E : XK} (G1 H1 : Hp) (L1 : Lam) (G H : Hp) (L : Lam) (μ : Store) (Dl : Addr) (ws : List V) (ds : List D) (Q : VK) (st : Stp G1 H1 L1 G H L) (hD : H1 Dl = none) (w : Wd k X.K G H L μ) (pv : Pv G H L Dl (.lst ws)) (ra : RpA k X.K G L ws ds)
    (g : Good k X.K E G1 H1 L1 ((pure (.lst ds) : M D) μ) (QV k X.K Q)) : Q (.ref Dl) H :=
  g _ _ _ (adoptS st hD pv.g) (w.adopt pv.g pv.h pv.nc.1 pv.n) _ (.lst (SqL.of upd_same) (RpA.mono (Same.new pv.g) (pre_refl L) _ _ ra))
theorem fin_loc {E : XK} (G1 H1 : Hp) (L1 : Lam) (G H : Hp) (L : Lam) (μ : Store) (Dl : Addr) (ws : List V) (ds : List D) (Q : VK) (st : Stp G1 H1 L1 G H L) (hD : H1 Dl = none) (w : Wd k X.K G H L μ) (pv : Pv G H L Dl (.lst ws)) (ra : RpA k X.K G L ws ds)
    (g : Good k X.K E G1 H1 L1 (newL ds μ) (QV k X.K Q)) : Q (.ref Dl) H :=
  g _ _ _ (adoptLocS st hD) (w.adoptLoc pv.g pv.h pv.n ra) _ (.loc (a := Dl) (b := Dl) (by rw [← w.len]; simp))
section
variable {mi : DEnv → M Src} {ts : List Nat} {g : D → DEnv → M DEnv} {mt : DEnv → M Bool} {me : DEnv → M D} {ifs : List Expr} {scope : Scope} {own : List (Str × Nat)}
theorem jts_nil {X : Cx} : PTs X [] (dT k X.K E tYesD) := by
  have h := pts_nil (X := X)
  refine ⟨fun pins s σ H Q I hw => h.run pins s σ H Q I ?_⟩
  obtain ⟨e, G, L, μ, sg, w, gd⟩ := hw
  exact Good.ret gd w
theorem jts_one {X : Cx} {c : Expr} {mt : DEnv → M Bool} (h : JT k X E c mt) : PTs X [c] (dT k X.K E mt) := pts_one h
theorem j_comp (sub : ∀ i ∈ ts, i ∈ own.map (·.2)) (hc : X.calm = true) (hN : X.N.Nodup) (hi : JI k X E tg iter mi) (ok : BlkOk X.N X.env.scope scope own)
    (hg : ∀ (s : Shared) (H : Hp) (C : Addr) (cl : List (Str × Addr)) (fp : List Addr), JG k (X.blk s H scope (compEnvC scope cl C X.env) fp) E0 tg ts g)
    (ht : ∀ (s : Shared) (H : Hp) (C : Addr) (cl : List (Str × Addr)) (fp : List Addr), PTs (X.blk s H scope (compEnvC scope cl C X.env) fp) ifs (dT k X.K E0 mt))
    (he : ∀ (s : Shared) (H : Hp) (C : Addr) (cl : List (Str × Addr)) (fp : List Addr), JE k (X.blk s H scope (compEnvC scope cl C X.env) fp) E0 elt me) (hs : ∀ x, foldedSetIterable iter X.env x = pure x := by intro _; rfl) :
    JE k X E (.ListComp elt [⟨tg, iter, ifs, 0⟩] scope pos) (eComp mi g mt me (own.map (·.2))) :=
  PE.imp (pe_lc hc hN hi ok hg ht he hs) fun s H Q h => comp_core sub fin_lst h
theorem j_compM (sub : ∀ i ∈ ts, i ∈ own.map (·.2)) (hc : X.calm = true) (hN : X.N.Nodup) (hi : JI k X E tg iter mi) (ok : BlkOk X.N X.env.scope scope own)
    (hg : ∀ (s : Shared) (H : Hp) (C : Addr) (cl : List (Str × Addr)) (fp : List Addr), JG k (X.blk s H scope (compEnvC scope cl C X.env) fp) E0 tg ts g)
    (ht : ∀ (s : Shared) (H : Hp) (C : Addr) (cl : List (Str × Addr)) (fp : List Addr), PTs (X.blk s H scope (compEnvC scope cl C X.env) fp) ifs (dT k X.K E0 mt))
    (he : ∀ (s : Shared) (H : Hp) (C : Addr) (cl : List (Str × Addr)) (fp : List Addr), JE k (X.blk s H scope (compEnvC scope cl C X.env) fp) E0 elt me) (hs : ∀ x, foldedSetIterable iter X.env x = pure x := by intro _; rfl) :
    JE k X E (.ListComp elt [⟨tg, iter, ifs, 0⟩] scope pos) (eCompM mi g mt me (own.map (·.2))) :=
  PE.imp (pe_lc hc hN hi ok hg ht he hs) fun s H Q h => comp_core sub fin_loc h
/-- name = [..]: the comprehension stores into the name within its own frame -/
def sSetC (i : Nat) (a : DEnv → M D) : DEnv → M Out := sSet i a
theorem js_setC {i : Nat} {y : Str} {py spos : Pos} {fin : List D → M D}
    (hfin : ∀ (G1 H1 : Hp) (L1 : Lam) (G H : Hp) (L : Lam) (μ : Store) (Dl : Addr) (ws : List V) (ds : List D) (Q : VK), Stp G1 H1 L1 G H L → H1 Dl = none → Wd k X.K G H L μ → Pv G H L Dl (.lst ws) → RpA k X.K G L ws ds → Good k X.K E G1 H1 L1 (fin ds μ) (QV k X.K Q) → Q (.ref Dl) H)
    (sub : ∀ i ∈ ts, i ∈ own.map (·.2)) (hc : X.calm = true) (hN : X.N.Nodup) (hy : X.N[i]? = some y) (hyl : X.env.scope.names.lookup y = some .local)
    (hsw : swapsWith (.ListComp elt [⟨tg, iter, ifs, 0⟩] scope pos) (some (.Name y py)) spos.line X.env = pure true) (hi : JI k X E tg iter mi) (ok : BlkOk X.N X.env.scope scope own)
    (hg : ∀ (s : Shared) (H : Hp) (C : Addr) (cl : List (Str × Addr)) (fp : List Addr), JG k (X.blk s H scope (compEnvC scope cl C X.env) fp) E0 tg ts g)
    (ht : ∀ (s : Shared) (H : Hp) (C : Addr) (cl : List (Str × Addr)) (fp : List Addr), PTs (X.blk s H scope (compEnvC scope cl C X.env) fp) ifs (dT k X.K E0 mt))
    (he : ∀ (s : Shared) (H : Hp) (C : Addr) (cl : List (Str × Addr)) (fp : List Addr), JE k (X.blk s H scope (compEnvC scope cl C X.env) fp) E0 elt me) (hs : ∀ x, foldedSetIterable iter X.env x = pure x := by intro _; rfl) :
    JS k X E (.Assign [.Name y py] (.ListComp elt [⟨tg, iter, ifs, 0⟩] scope pos) spos) (sSet i (fun e => do let ds ← compM mi g mt me (own.map (·.2)) e; fin ds)) := by
  refine PS.imp (ps_setLc (g := dG k X.K E0 ts g) (te := dE k X.K E0 me) hc hN hy hyl hsw hi ok hg ht he hs) fun D s H h => ?_
  refine comp_core (fin := fin) sub hfin ?_
  obtain ⟨e, G, L, μ, sg, w, gd⟩ := h
  refine ⟨e, G, L, μ, sg, w, Good.mono (Good.bind gd) fun d m1 G1 H1 L1 st1 w1 q1 v r => ?_⟩
  exact Good.ret q1 w1 _ ((sg.mono st1.g st1.l).set i r)
end
end
end DL

namespace DL
open PySem L2 PyProof.Rows

/-! ### locations below a number -/
mutual
def D.und (n : Nat) : D → Bool
  | .lst ds => D.undL n ds
  | .tup ds => D.undL n ds
  | .loc i => decide (i < n)
  | .obj _ ds => D.undL n ds
  | .dct _ ds => D.undL n ds
  | .fdc _ ds => D.undL n ds
  | .err _ ds => D.undL n ds
  | _ => true
def D.undL (n : Nat) : List D → Bool
  | [] => true
  | d :: ds => d.und n && D.undL n ds
end
def undO (n : Nat) : List (Option D) → Bool
  | [] => true
  | some d :: r => d.und n && undO n r
  | none :: r => undO n r
def Cell.und (n : Nat) : Cell → Bool
  | .lst ds => D.undL n ds
  | .ins _ ss => undO n ss
  | .dct _ ds => D.undL n ds
instance : DecidableEq Cell := fun a b => match a, b with
  | .lst x, .lst y => if h : x = y then .isTrue (by rw [h]) else .isFalse (by intro z; cases z; exact h rfl)
  | .ins c x, .ins d y => if h : c = d ∧ x = y then .isTrue (by rw [h.1, h.2]) else .isFalse (by intro z; cases z; exact h ⟨rfl, rfl⟩)
  | .lst _, .ins _ _ => .isFalse nofun
  | .ins _ _, .lst _ => .isFalse nofun
  | .dct c x, .dct d y => if h : c = d ∧ x = y then .isTrue (by rw [h.1, h.2]) else .isFalse (by intro z; cases z; exact h ⟨rfl, rfl⟩)
  | .dct _ _, .lst _ => .isFalse nofun
  | .dct _ _, .ins _ _ => .isFalse nofun
  | .lst _, .dct _ _ => .isFalse nofun
  | .ins _ _, .dct _ _ => .isFalse nofun

section
variable {k : Kx} {K : PySem.W.Frag} {G G' : Hp} {L L' : Lam}
mutual
theorem Rp.lower (e : L <+: L') : ∀ (d : D) (v : V), Rp k K G L' v d → d.und L.length = true → Rp k K G L v d
  | .non, _, h, _ => by cases h; exact .non
  | .bl b, _, h, _ => by cases h; exact .bl b
  | .int i, _, h, _ => by cases h; exact .int i
  | .str i, _, h, _ => by cases h; exact .str i
  | .lst ds, _, h, b => by
    cases h with
    | lst hs ha => exact .lst hs (RpA.lower e ds _ ha (by simpa [D.und] using b))
  | .tup ds, _, h, b => by
    cases h with
    | tup hs ha => exact .tup hs (RpA.lower e ds _ ha (by simpa [D.und] using b))
  | .loc n, _, h, b => by
    cases h with
    | loc hn =>
      have hl : n < L.length := by simpa [D.und] using b
      obtain ⟨t, rfl⟩ := e
      rw [List.getElem?_append_left hl] at hn
      exact .loc hn
  | .obj c ds, _, h, b => by
    cases h with
    | obj hs ha => exact .obj hs (RpA.lower e ds _ ha (by simpa [D.und] using b))
  | .cls c, _, h, _ => by cases h; exact .cls c
  | .dct ks ds, _, h, b => by
    cases h with
    | dct hs hl ha => exact .dct hs hl (RpA.lower e ds _ ha (by simpa [D.und] using b))
  | .fdc ks ds, _, h, b => by
    cases h with
    | fdc hs hl ha => exact .fdc hs hl (RpA.lower e ds _ ha (by simpa [D.und] using b))
  | .err c ds, _, h, b => by
    cases h with
    | err h1 h2 hl ha => exact .err h1 h2 hl (RpA.lower e ds _ ha (by simpa [D.und] using b))
    | err0 h0 h1 => exact .err0 h0 h1
theorem RpA.lower (e : L <+: L') : ∀ (ds : List D) (vs : List V), RpA k K G L' vs ds → D.undL L.length ds = true → RpA k K G L vs ds
  | [], _, h, _ => by cases h; exact .nil
  | d :: ds, _, h, b => by
    cases h with
    | cons h1 h2 =>
      have b' : d.und L.length = true ∧ D.undL L.length ds = true := by simpa [D.undL] using b
      exact .cons (Rp.lower e d _ h1 b'.1) (RpA.lower e ds _ h2 b'.2)
end
mutual
theorem Rp.und : ∀ (d : D) (v : V), Rp k K G L v d → d.und L.length = true
  | .non, _, _ => rfl
  | .bl _, _, _ => rfl
  | .int _, _, _ => rfl
  | .str _, _, _ => rfl
  | .lst ds, _, h => by
    cases h with
    | lst hs ha => simpa [D.und] using RpA.und ds _ ha
  | .tup ds, _, h => by
    cases h with
    | tup hs ha => simpa [D.und] using RpA.und ds _ ha
  | .loc n, _, h => by
    cases h with
    | loc hn => simpa [D.und] using (List.getElem?_eq_some_iff.mp hn).1
  | .obj c ds, _, h => by
    cases h with
    | obj hs ha => simpa [D.und] using RpA.und ds _ ha
  | .cls _, _, _ => rfl
  | .dct ks ds, _, h => by
    cases h with
    | dct hs hl ha => simpa [D.und] using RpA.und ds _ ha
  | .fdc ks ds, _, h => by
    cases h with
    | fdc hs hl ha => simpa [D.und] using RpA.und ds _ ha
  | .err c ds, _, h => by
    cases h with
    | err h1 h2 hl ha => simpa [D.und] using RpA.und ds _ ha
    | err0 h0 h1 => simp [D.und, D.undL]
theorem RpA.und : ∀ (ds : List D) (vs : List V), RpA k K G L vs ds → D.undL L.length ds = true
  | [], _, _ => rfl
  | d :: ds, _, h => by
    cases h with
    | cons h1 h2 => simp [D.undL, Rp.und d _ h1, RpA.und ds _ h2]
end
theorem undO_get {n : Nat} : ∀ {ss : List (Option D)} {i : Nat} {d : D}, undO n ss = true → ss[i]? = some (some d) → d.und n = true
  | [], i, d, _, h => by simp at h
  | o :: ss, 0, d, b, h => by
    simp at h
    subst h
    have : d.und n = true ∧ undO n ss = true := by simpa [undO] using b
    exact this.1
  | o :: ss, i + 1, d, b, h => by
    have hb : undO n ss = true := by
      cases o with
      | none => simpa [undO] using b
      | some x =>
        have : x.und n = true ∧ undO n ss = true := by simpa [undO] using b
        exact this.2
    exact undO_get (i := i) hb (by simpa using h)
theorem undO_of {n : Nat} : ∀ {ss : List (Option D)}, (∀ (i : Nat) (d : D), ss[i]? = some (some d) → d.und n = true) → undO n ss = true
  | [], _ => rfl
  | o :: ss, h => by
    have hr : undO n ss = true := undO_of fun i d e => h (i + 1) d (by simpa using e)
    cases o with
    | none => simpa [undO] using hr
    | some x => simp [undO, hr, h 0 x (by simp)]
theorem CellR.und {H : Hp} {a b : Addr} {c : Cell} (r : CellR k K G H L a b c) : c.und L.length = true := by
  cases c with
  | lst ds =>
    obtain ⟨_, vs, _, ra⟩ := r
    exact RpA.und ds vs ra
  | dct ks ds =>
    obtain ⟨_, vs, _, _, ra⟩ := r
    exact RpA.und ds vs ra
  | ins c ss =>
    obtain ⟨vs, _, q, _⟩ := r
    exact undO_of fun i d e => let ⟨v, _, rv⟩ := q.2 i d e; Rp.und d v rv
theorem CellR.lower {H : Hp} {a b : Addr} {c : Cell} (e : L <+: L') (r : CellR k K G H L' a b c) (hb : c.und L.length = true) : CellR k K G H L a b c := by
  cases c with
  | lst ds =>
    obtain ⟨e1, vs, h, ra⟩ := r
    exact ⟨e1, vs, h, RpA.lower e ds vs ra hb⟩
  | dct ks ds =>
    obtain ⟨e1, vs, h, hl, ra⟩ := r
    exact ⟨e1, vs, h, hl, RpA.lower e ds vs ra hb⟩
  | ins c ss =>
    obtain ⟨vs, h, q, r⟩ := r
    exact ⟨vs, h, ⟨q.1, fun i d z => let ⟨v, x, rv⟩ := q.2 i d z; ⟨v, x, Rp.lower e d v rv (undO_get hb z)⟩⟩, r⟩
end

/-! ### dropping dead locations -/
def cellKept (n : Nat) (p : Option Cell × Option Cell) : Bool := decide (p.1 = p.2) || (match p.1 with | some c => c.und n | none => true)
def trimOk (m m' : Store) : Bool := decide (m.length ≤ m'.length) && ((m'.take m.length).zip m).all (cellKept m.length)
def scopeM (x : M D) : M D := fun m => match x m with
  | .ok d m' => if (trimOk m m' && d.und m.length) = true then .ok d (m'.take m.length) else .ok d m'
  | r => r
section
variable {k : Kx} {X : Cx} {E : XK}
theorem scope_good {x : M D} {G H : Hp} {L : Lam} {μ : Store} {Q : VK} (w : Wd k X.K G H L μ) (g : Good k X.K E G H L (scopeM x μ) (QV k X.K Q)) : Good k X.K E G H L (x μ) (QV k X.K Q) := by
  unfold scopeM at g
  cases e : x μ with
  | exn c fs m => rw [e] at g; exact g
  | bad => rw [e] at g; exact g
  | ok d m' =>
    rw [e] at g
    simp only at g
    by_cases hc : (trimOk μ m' && d.und μ.length) = true
    · rw [if_pos hc] at g
      obtain ⟨ht, hd⟩ := Bool.and_eq_true_iff.mp hc
      unfold trimOk at ht
      obtain ⟨t2, t3⟩ := Bool.and_eq_true_iff.mp ht
      have t2 := of_decide_eq_true t2
      intro G' H' L' st w' v r
      have hp : L <+: L' := st.l
      have live : ∀ i, Live (m'.take μ.length) i → i < μ.length ∧ Live m' i := fun i hi => by
        obtain ⟨c, hc⟩ := hi
        have hl := (List.getElem?_eq_some_iff.mp hc).1
        rw [List.length_take] at hl
        rw [List.getElem?_take_of_lt (by omega)] at hc
        exact ⟨by omega, c, hc⟩
      have getL : ∀ {i : Nat} {p : Addr × Addr}, i < μ.length → L'[i]? = some p → L[i]? = some p := fun {i p} hi h => by
        obtain ⟨t, rfl⟩ := hp
        rw [List.getElem?_append_left (by rw [w.len]; exact hi)] at h
        exact h
      have w2 : Wd k X.K G' H' L (m'.take μ.length) := by
        refine ⟨w'.ext, by rw [List.length_take, w.len]; omega, fun p hp' => w'.tk p (by obtain ⟨t, rfl⟩ := hp; exact List.mem_append_left _ hp'), w'.tab, w'.gt, fun n c hn => ?_, fun i j a b a' b' li lj ne ha hb => ?_⟩
        · obtain ⟨hl, _⟩ := live n ⟨c, hn⟩
          have hn' : m'[n]? = some (some c) := by
            rw [List.getElem?_take_of_lt hl] at hn
            exact hn
          obtain ⟨a, b, h1, h2, h3, r'⟩ := w'.cell n c hn'
          refine ⟨a, b, getL hl h1, h2, h3, r'.lower hp ?_⟩
          rw [w.len]
          have hz : ((m'.take μ.length).zip μ)[n]? = some (some c, μ[n]) := by
            rw [List.getElem?_zip_eq_some]
            exact ⟨hn, List.getElem?_eq_getElem hl⟩
          have hk := List.all_eq_true.mp t3 _ (List.mem_of_getElem? hz)
          unfold cellKept at hk
          rcases (Bool.or_eq_true_iff.mp hk) with q | q
          · have q' : some c = μ[n] := of_decide_eq_true q
            have hm : μ[n]? = some (some c) := by rw [List.getElem?_eq_getElem hl, ← q']
            obtain ⟨_, _, _, _, _, r0⟩ := w.cell n c hm
            have := r0.und
            rw [w.len] at this
            exact this
          · exact q
        · exact w'.apart i j a b a' b' (live i li).2 (live j lj).2 ne (pre_get hp ha) (pre_get hp hb)
      refine g G' H' L ⟨st.g, pre_refl L, st.tr, st.keep, fun p h => .inl h⟩ w2 v (Rp.lower hp d v r ?_)
      rw [w.len]
      exact hd
    · rw [if_neg hc] at g
      exact g

/-! ### what a def promises -/
def spD (k : Kx) (K : PySem.W.Frag) (n : Nat) (den : List D → M D) : Sp := fun vs H Q E => ∃ ds G L μ, RpA k K G L vs ds ∧ ds.length = n ∧ Wd k K G H L μ ∧ Good k K E G H L (den ds μ) (QV k K Q)
def startD (n : Nat) (ds : List D) : DEnv := ds.map some ++ List.replicate (n - ds.length) none
def runB (x : M Out) : M D := do
  let o ← x
  match o with
    | .nx _ => pure .non
    | .rt d => pure d
    | _ => M.bad
/-- the denotation of a def: N slots, its body -/
def fnD (n : Nat) (body : DEnv → M Out) : List D → M D := fun ds => scopeM (runB (body (startD n ds)))
theorem start_sg {k : Kx} {K : PySem.W.Frag} {G : Hp} {L : Lam} {N : List Str} {vs : List V} {ds : List D} (r : RpA k K G L vs ds) : Sg k K G L (start N vs) (startD N.length ds) := by
  unfold L2.start startD
  refine ⟨by simp [r.len], fun i d h => ?_⟩
  by_cases hi : i < ds.length
  · rw [List.getElem?_append_left (by simpa using hi), List.getElem?_map] at h
    cases e : ds[i]? with
    | none => rw [e] at h; cases h
    | some d' =>
      rw [e] at h
      cases h
      obtain ⟨v, hv, rv⟩ := r.get e
      refine ⟨v, ?_, rv⟩
      rw [List.getElem?_append_left (by rw [List.length_map, r.len]; exact hi), List.getElem?_map, hv]
      rfl
  · rw [List.getElem?_append_right (by simpa using hi), List.getElem?_replicate] at h
    split at h <;> cases h
section
variable {P : Program} {w : World} {K : PySem.W.Frag} {mg : Str → Option Value} {base : Heap}
theorem fn_ok {x qual : Str} {st : Stmt} {f : Addr} {fd : FuncData} {N ps : List Str} {lvl : Nat} {m : DEnv → M Out} (F : Fun K x qual st f fd) (S : FnScope N ps (defScope st))
    (hb : ∀ (cdv : Value) (A : Around) (outer : List Env) (s : Shared) (H : Hp) (E : XK), Room lvl (A.deeper (envOfC qual (defScope st) s.heap.objs.size f cdv)) → JB k (cxOf (L2.CX P w) P w K mg base N qual (defScope st) f cdv A outer s H E) E (defBody st) m) :
    FnOk P w K mg base (L2.CX P w) (lvl + 1) f fd ps (spD k K ps.length (fnD N.length m)) := by
  refine Fun.okX F S (fun vs H Q E h => ?_) (fun cdv A outer s H vs Q E hr h => ?_)
  · obtain ⟨ds, G, L, μ, r, hl, _⟩ := h
    rw [r.len, hl]
  · obtain ⟨ds, G, L, μ, r, hl, w0, g⟩ := h
    refine ⟨_, hb cdv A outer s H E hr, ?_⟩
    have g1 := scope_good (X := cxOf (L2.CX P w) P w K mg base N qual (defScope st) f cdv A outer s H E) w0 g
    refine ⟨startD N.length ds, G, L, μ, start_sg r, w0, Good.mono (Good.bind g1) fun o m1 G1 H1 L1 st1 w1 q1 => ?_⟩
    cases o with
    | nx e => exact fun s1 _ => Good.ret q1 w1 _ .non
    | rt d => exact fun v rv => Good.ret q1 w1 v rv
    | bk e => exact False.elim q1
    | ct e => exact False.elim q1
end
/-! ### calls -/
def callN (n : Nat) (den : List D → M D) (ds : List D) : M D := if ds.length = n then den ds else M.bad
abbrev FnDn (k : Kx) (X : Cx) (lvl : Nat) (f : Addr) (n : Nat) (den : List D → M D) : Prop := FnR X.prog X.w X.K X.mg X.base (L2.CX X.prog X.w) lvl f (spD k X.K n den)
theorem j_call {x : Str} {p pos : Pos} {a : Expr} {es : List Expr} {ms : DEnv → M (List D)} {lvl : Nat} {f : Addr} {n : Nat} {den : List D → M D} (F : FnDn k X lvl f n den) (hr : Room lvl X.A) (hx : Passes (L2.CX X.prog X.w) X E) (hg : Gl X x) (hm : X.mg x = some (.ref f))
    (hk : PySem.W.keepIn X.K (.ref f) = true) (ha : JA k X E (a :: es) ms) (hdb : (x == ("__debug__" : Str)) = false := by decide) (he : starEach (a :: es) X.env = (false, eval a X.env) :: starEach es X.env := by rfl) (hpl : (backTo pos (starEach es X.env)).any (·.1) = false := by rfl) :
    JE k X E (.Call (.Name x p) (a :: es) [] pos) (eCallB (callN n den) ms) := by
  refine ⟨fun pins s σ H Q I h => ?_⟩
  refine wpAny_Call_Name_kw (ld_glob I hg hm ?_ hdb)
  obtain ⟨e, G, L, μ, sg, w, gd⟩ := h
  have h' : dA k X.K E ms σ H fun vs H1 => spD k X.K n den vs H1 Q E := ⟨e, G, L, μ, sg, w, Good.mono (Good.bind gd) fun ds m1 G1 H1 L1 st1 w1 q1 vs r => by
    obtain ⟨hl, q1⟩ := good_ite q1
    exact ⟨ds, G1, L1, m1, r, hl, w1, q1⟩⟩
  refine PySem.W.callWith_K (h₀ := X.base) I.ok.mod.kin hk (thn (ha.run pos pins s σ H _ I h') fun us s1 ⟨vs, H1, I1, r, q⟩ => ⟨I1.kIn, ?_⟩) he hpl
  exact wpAny_call (run_fnR F hr hx I1 r q)
theorem j_call0 {x : Str} {p pos : Pos} {lvl : Nat} {f : Addr} {n : Nat} {den : List D → M D} (F : FnDn k X lvl f n den) (hr : Room lvl X.A) (hx : Passes (L2.CX X.prog X.w) X E) (hg : Gl X x) (hm : X.mg x = some (.ref f))
    (hk : PySem.W.keepIn X.K (.ref f) = true) (hdb : (x == ("__debug__" : Str)) = false := by decide) :
    JE k X E (.Call (.Name x p) [] [] pos) (eCallB (callN n den) aNil) := by
  refine ⟨fun pins s σ H Q I h => ?_⟩
  refine wpAny_Call_Name_kw (ld_glob I hg hm ?_ hdb)
  obtain ⟨e, G, L, μ, sg, w, gd⟩ := h
  obtain ⟨hl, q1⟩ := good_ite (good_pureb gd)
  exact PySem.W.callWith_K0 I.kIn hk (wpAny_call (run_fnR (us := []) (vs := []) F hr hx I .nil ⟨[], G, L, μ, .nil, hl, w, q1⟩))
end
end DL

namespace DL
open PySem L2 PyProof.Rows

/-! ### isinstance -/
inductive Kd where
  | non | bl | int | str | lst | tup | dct | obj (c : Nat)
  deriving DecidableEq
inductive Ty where
  | int | bool | str | lst | tup | seq | cls (c : Nat)
  deriving DecidableEq
def isK : Ty → Kd → Bool
  | .int, .int => true
  | .int, .bl => true
  | .bool, .bl => true
  | .str, .str => true
  | .lst, .lst => true
  | .tup, .tup => true
  | .seq, .lst => true
  | .seq, .tup => true
  | .cls c, .obj c' => decide (c = c')
  | _, _ => false
def kindOf (cs : List Nat) (d : D) (m : Store) : Option Kd := match d with
  | .non => some .non
  | .bl _ => some .bl
  | .int _ => some .int
  | .str _ => some .str
  | .lst _ => some .lst
  | .tup _ => some .tup
  | .cls _ => none
  | .dct _ _ => some .dct
  | .fdc _ _ => none
  | .err _ _ => none
  | .obj c _ => if c ∈ cs then some (.obj c) else none
  | .loc n => match m[n]? with
    | some (some (.lst _)) => some .lst
    | _ => none
def isiD (cs : List Nat) (t : Ty) (d : D) : M D := fun m => match kindOf cs d m with
  | some kd => .ok (.bl (isK t kd)) m
  | none => .bad
def nmK : Kd → String
  | .non => "NoneType"
  | .bl => "bool"
  | .int => "int"
  | .str => "str"
  | .lst => "list"
  | .tup => "tuple"
  | .dct => "dict"
  | .obj _ => ""
def tyNm : Ty → String
  | .int => "int"
  | .bool => "bool"
  | .str => "str"
  | .lst => "list"
  | .tup => "tuple"
  | _ => ""
section
variable {k : Kx} {X : Cx} {E : XK}
theorem tyx_of {cs : List Nat} {d : D} {x : V} {kd : Kd} {G H : Hp} {L : Lam} {μ : Store} (r : Rp k X.K G L x d) (w : Wd k X.K G H L μ) (h : kindOf cs d μ = some kd) (no : ∀ c, kd ≠ .obj c) : TyX X.K H x (.type (nmK kd)) := by
  have lst : ∀ {a : Addr} {xs : List V}, SqL X.K H a xs → TyX X.K H (.ref a) (.type "list") := fun {a xs} hs => by
    rcases hs with (hs | ⟨o, hs⟩) | ⟨o, its, n, hk, hc, _⟩
    · exact .base (.lst hs)
    · exact .base (.frz hs)
    · exact .kList hk hc
  have tup : ∀ {a : Addr} {xs : List V}, SqT X.K H a xs → TyX X.K H (.ref a) (.type "tuple") := fun {a xs} hs => by
    rcases hs with (hs | ⟨o, hs⟩) | ⟨o, its, n, hk, hc, _⟩
    · exact .base (.tup hs)
    · exact .fTuple hs
    · exact .kTuple hk hc
  cases d with
  | non => cases r; cases h; exact .base .non
  | bl b => cases r; cases h; exact .base (.bl b)
  | int i => cases r; cases h; exact .base (.int i)
  | str s => cases r; cases h; exact .base (.str s)
  | lst ds =>
    cases h
    cases r with
    | lst hs ha => exact lst (w.ext.seq hs)
  | tup ds =>
    cases h
    cases r with
    | tup hs ha => exact tup (sqT_mono w.ext hs)
  | loc n =>
    simp only [kindOf] at h
    cases hm : μ[n]? with
    | none => rw [hm] at h; cases h
    | some o =>
      cases o with
      | none => rw [hm] at h; cases h
      | some c =>
        cases c with
        | ins _ _ => rw [hm] at h; cases h
        | dct _ _ => rw [hm] at h; cases h
        | lst ds =>
          rw [hm] at h
          cases h
          obtain ⟨a, vs, rfl, _, _, hh, _⟩ := w.look hm r
          exact lst (SqL.of hh)
  | cls c => cases h
  | fdc _ _ => cases h
  | err _ _ => cases h
  | dct ks ds =>
    cases h
    cases r with
    | dct hs hl ha => exact .base (.dK (w.ext _ _ hs))
  | obj c ds =>
    simp only [kindOf] at h
    by_cases hc : c ∈ cs
    · rw [if_pos hc] at h
      cases h
      exact absurd rfl (no c)
    · rw [if_neg hc] at h
      cases h
/-- what is to be known of the law's classes for isinstance with the class value u -/
structure IsiF (k : Kx) (K : PySem.W.Frag) (cs : List Nat) (t : Ty) (u : Value) : Prop where
  ob : ∀ c ∈ cs, SlX.SCls K (k.cl c) ∧ SlX.SIsi K (k.cl c) ∧ PySem.W.kitOne K (.ref (k.cl c)) u = some (isK t (.obj c))
  bu : ∀ kd, (∀ c, kd ≠ .obj c) → PySem.W.kitOne K (.type (nmK kd)) u = some (isK t kd)
theorem isi_run {cs : List Nat} {t : Ty} {u : Value} {c : V} (F : IsiF k X.K cs t u) (rc : RelV c u) (one : ∀ w, RelV c w → w = u) (kc : ClsV c u) {d : D} {x : V} {G H : Hp} {L : Lam} {μ : Store} {Q : VK} (r : Rp k X.K G L x d) (w : Wd k X.K G H L μ)
    (g : Good k X.K E G H L (isiD cs t d μ) (QV k X.K Q)) : rIsi X.K [x, c] H Q ∨ SlX.rIsiSl X.K u [x, c] H Q := by
  unfold isiD at g
  cases h : kindOf cs d μ with
  | none => rw [h] at g; exact False.elim g
  | some kd =>
    rw [h] at g
    have q := Good.okE g w _ (.bl _)
    by_cases no : ∀ c, kd ≠ .obj c
    · exact .inl ⟨x, c, _, u, _, rfl, kc, tyx_of r w h no, F.bu kd no, q⟩
    · have no' : ∃ c, kd = .obj c := by
        cases kd with
        | obj c => exact ⟨c, rfl⟩
        | _ => exact absurd (fun c z => nomatch z) no
      obtain ⟨cc, rfl⟩ := no'
      have hd : ∃ ds, d = .obj cc ds ∧ cc ∈ cs := by
        cases d with
        | obj c' ds =>
          simp only [kindOf] at h
          by_cases hc : c' ∈ cs
          · rw [if_pos hc] at h
            cases h
            exact ⟨ds, rfl, hc⟩
          · rw [if_neg hc] at h
            cases h
        | loc n =>
          simp only [kindOf] at h
          cases hm : μ[n]? with
          | none => rw [hm] at h; cases h
          | some o =>
            cases o with
            | none => rw [hm] at h; cases h
            | some c' => cases c' <;> (rw [hm] at h; cases h)
        | _ => cases h
      obtain ⟨ds, rfl, hcs⟩ := hd
      cases r with
      | @obj _ a dx vs _ hs ha =>
        obtain ⟨f1, f2, f3⟩ := F.ob cc hcs
        exact .inr ⟨a, k.cl cc, dx, _, c, _, rfl, rc, one, slt_mono w.ext hs, f1, f2, f3, q⟩
def eIsi (cs : List Nat) (t : Ty) (a : DEnv → M D) : DEnv → M D := eUn (isiD cs t) a
theorem kit_bu (t : Ty) (h : t = .int ∨ t = .bool ∨ t = .str ∨ t = .lst ∨ t = .tup) {K : PySem.W.Frag} : ∀ kd, (∀ c, kd ≠ .obj c) → PySem.W.kitOne K (.type (nmK kd)) (.type (tyNm t)) = some (isK t kd) := by
  intro kd no
  cases kd with
  | obj c => exact absurd rfl (no c)
  | _ => rcases h with rfl | rfl | rfl | rfl | rfl <;> exact kit_ty (by decide +kernel)
/-- isinstance(e, T), T a built-in class or one of the program's -/
theorem j_isi {a : Expr} {ma : DEnv → M D} {p pos pc : Pos} {cn : Str} {cs : List Nat} {t : Ty} {u : Value} {c : V} {te : TE} (F : IsiF k X.K cs t u) (rc : RelV c u) (one : ∀ w, RelV c w → w = u) (kc : ClsV c u) (hg : Gl X "isinstance") (hm : X.mg "isinstance" = none)
    (ha : JE k X E a ma) (hc : PE X (.Name cn pc) (tC c)) (hs1 : starEach [.Name cn pc] X.env = [(false, eval (.Name cn pc) X.env)] := by rfl) (he : starEach [a, .Name cn pc] X.env = (false, eval a X.env) :: starEach [.Name cn pc] X.env := by rfl) (hpl : (backTo pos (starEach [.Name cn pc] X.env)).any (·.1) = false := by rfl) :
    JE k X E (.Call (.Name "isinstance" p) [a, .Name cn pc] [] pos) (eIsi cs t ma) := by
  refine PE.imp (pe_callB (CallR.or call_isi (SlX.call_isiSl u)) hg hm (by decide +kernel) (pa_cons ha (pa_cons hc pa_nil hs1) he) (by decide) (by decide) he hpl) fun s H Q h => ?_
  obtain ⟨e, G, L, μ, sg, w, gd⟩ := h
  refine ⟨e, G, L, μ, sg, w, Good.mono (Good.bind gd) fun d1 m1 G1 H1 L1 st1 w1 q1 x r1 => ?_⟩
  exact isi_run F rc one kc r1 w1 q1
/-- isinstance(e, (list, tuple)) -/
theorem kit_seq {K : PySem.W.Frag} : ∀ kd, (∀ c, kd ≠ .obj c) → PySem.W.kitAny K (.type (nmK kd)) [.type "list", .type "tuple"] = some (isK .seq kd) := by
  intro kd no
  have h1 := kit_bu (K := K) .lst (by simp) kd no
  have h2 := kit_bu (K := K) .tup (by simp) kd no
  cases kd with
  | obj c => exact absurd rfl (no c)
  | lst => exact kitAny_cons h1 (fun z => by cases z) fun _ => rfl
  | tup => exact kitAny_cons h1 (fun _ => kitAny_cons h2 (fun z => by cases z) fun _ => rfl) fun z => by cases z
  | _ => exact kitAny_cons h1 (fun _ => kitAny_cons h2 (fun _ => kitAny_nil) fun z => by cases z) fun z => by cases z
structure IsiS (k : Kx) (K : PySem.W.Frag) (cs : List Nat) : Prop where
  ob : ∀ c ∈ cs, SlX.SCls K (k.cl c) ∧ SlX.SIsi K (k.cl c) ∧ PySem.W.kitAny K (.ref (k.cl c)) [.type "list", .type "tuple"] = some false
/-- isinstance of an instance with slots against a tuple of classes -/
def rIsiSlT (K : PySem.W.Frag) : List V → Hp → VK → Prop := fun xs H Q => ∃ (a C dx tp : Addr) (vs : List (Option V)) (cs : List V) (us : List Value) (b : Bool), xs = [V.ref a, .ref tp] ∧ H tp = some (.tup cs) ∧ Paired ClsV cs us ∧ SlX.Slt H a C dx vs ∧ SlX.SCls K C ∧ SlX.SIsi K C ∧ PySem.W.kitAny K (.ref C) us = some b ∧ Q (.bl b) H
theorem call_isiSlT : CallR X (.builtin "isinstance") (rIsiSlT X.K) := by
  intro pins s σ H xs us Q I r h
  obtain ⟨a, C, dx, tp, vs, cs, ws, b, rfl, hT, kk, hsl, hc, hi, hk, q⟩ := h
  obtain ⟨u1, u2, rfl, r1, r2⟩ := r.two
  cases (show u1 = Value.ref a from r1)
  cases (show u2 = Value.ref tp from r2)
  obtain ⟨sl, od, _, J, _⟩ := SlX.slt_inst I hsl
  obtain ⟨_, its, rv, o, h1, h2, n, h3⟩ := (show ObjOk X.prog X.w H s.heap tp (.tup cs) from I.hok tp _ hT)
  have e3 := ClsV.all kk rv
  subst e3
  obtain ⟨oc, od', dt, sl'⟩ := o
  simp only at h2 h3
  subst h2 h3
  exact PySem.W.kia_tup (OwX.kitx_slt hc.ic (hc.get _) hi.ca hi.cn hi.ct hi.cm) I.kIn J h1 hk (fun z => nomatch z) fun tk => ⟨.bl b, H, I.tok tk, rfl, q⟩
theorem j_isiS {a : Expr} {ma : DEnv → M D} {p pos p1 p2 p3 : Pos} {kk : Nat} {cs : List Nat} (F : IsiS k X.K cs) (hg : Gl X "isinstance") (hm : X.mg "isinstance" = none) (hgl : Gl X "list") (hml : X.mg "list" = none) (hgt : Gl X "tuple") (hmt : X.mg "tuple" = none) (ha : JE k X E a ma)
    (h1 : starEach [.Name "tuple" p2] X.env = [(false, eval (.Name "tuple" p2) X.env)] := by rfl) (h2 : starEach [.Name "list" p1, .Name "tuple" p2] X.env = (false, eval (.Name "list" p1) X.env) :: starEach [.Name "tuple" p2] X.env := by rfl)
    (h3 : starEach [.Tuple [.Name "list" p1, .Name "tuple" p2] kk p3] X.env = [(false, eval (.Tuple [.Name "list" p1, .Name "tuple" p2] kk p3) X.env)] := by rfl)
    (he : starEach [a, .Tuple [.Name "list" p1, .Name "tuple" p2] kk p3] X.env = (false, eval a X.env) :: starEach [.Tuple [.Name "list" p1, .Name "tuple" p2] kk p3] X.env := by rfl)
    (hpl : (backTo pos (starEach [.Tuple [.Name "list" p1, .Name "tuple" p2] kk p3] X.env)).any (·.1) = false := by rfl) :
    JE k X E (.Call (.Name "isinstance" p) [a, .Tuple [.Name "list" p1, .Name "tuple" p2] kk p3] [] pos) (eIsi cs .seq ma) := by
  have hl : PE X (.Name "list" p1) (tC (.ty "list")) := pe_bltn hgl hml (by decide +kernel) rfl
  have ht : PE X (.Name "tuple" p2) (tC (.ty "tuple")) := pe_bltn hgt hmt (by decide +kernel) rfl
  refine PE.imp (pe_callB (CallR.or call_isiT call_isiSlT) hg hm (by decide +kernel) (pa_cons ha (pa_cons (pe_tup (pa_cons hl (pa_cons ht pa_nil h1) h2)) pa_nil h3) he) (by decide) (by decide) he hpl) fun s H Q h => ?_
  obtain ⟨e, G, L, μ, sg, w, gd⟩ := h
  refine ⟨e, G, L, μ, sg, w, Good.mono (Good.bind gd) fun d1 m1 G1 H1 L1 st1 w1 q1 x r1 => ⟨by show 2 ≤ sizeLine; decide, fun tp htp => ?_⟩⟩
  have w2 := w1.junk (o := .tup [V.ty "list", V.ty "tuple"]) htp
  have q2 := Good.up q1 (junkS (G := G1) (L := L1) (o := .tup [V.ty "list", V.ty "tuple"]) htp)
  unfold isiD at q2
  cases h : kindOf cs d1 m1 with
  | none => rw [h] at q2; exact False.elim q2
  | some kd =>
    rw [h] at q2
    have q := Good.okE q2 w2 _ (.bl _)
    have kp : Paired ClsV [V.ty "list", V.ty "tuple"] [.type "list", .type "tuple"] := .cons (.ty _) (.cons (.ty _) .nil)
    by_cases no : ∀ c, kd ≠ .obj c
    · exact .inl ⟨x, tp, _, _, _, _, rfl, upd_same, kp, tyx_of r1 w2 h no, kit_seq kd no, q⟩
    · have no' : ∃ c, kd = .obj c := by
        cases kd with
        | obj c => exact ⟨c, rfl⟩
        | _ => exact absurd (fun c z => nomatch z) no
      obtain ⟨cc, rfl⟩ := no'
      cases d1 with
      | obj c' ds =>
        simp only [kindOf] at h
        by_cases hc : c' ∈ cs
        · rw [if_pos hc] at h
          cases h
          cases r1 with
          | @obj _ a dx vs _ hs ha =>
            obtain ⟨f1, f2, f3⟩ := F.ob cc hc
            exact .inr ⟨a, k.cl cc, dx, tp, _, _, _, _, rfl, upd_same, kp, slt_mono w2.ext hs, f1, f2, f3, q⟩
        · rw [if_neg hc] at h
          cases h
      | loc n =>
        simp only [kindOf] at h
        cases hm : m1[n]? with
        | none => rw [hm] at h; cases h
        | some o =>
          cases o with
          | none => rw [hm] at h; cases h
          | some c' => cases c' <;> (rw [hm] at h; cases h)
      | _ => cases h
/-! ### a display times a number -/
def szL (ds : List D) : M Unit := if ds.length ≤ 1000 then pure () else M.bad
def repW (fin : List D → M D) (ds : List D) (y : D) : M D := match y with
  | .int j => if 0 ≤ j ∧ j ≤ 1000 then fin (List.replicate j.toNat ds).flatten else M.bad
  | _ => M.bad
def mkLst (ds : List D) : M D := pure (.lst ds)
def eRep (as : DEnv → M (List D)) (b : DEnv → M D) : DEnv → M D := fun e => do let ds ← as e; szL ds; let y ← b e; repW mkLst ds y
def eRepM (as : DEnv → M (List D)) (b : DEnv → M D) : DEnv → M D := fun e => do let ds ← as e; szL ds; let y ← b e; repW newL ds y
theorem szL_good {β : Type} {ds : List D} {f : Unit → M β} {G H : Hp} {L : Lam} {m : Store} {Q : β → Store → Hp → Hp → Lam → Prop} (h : Good k X.K E G H L ((szL ds >>= f) m) Q) : ds.length ≤ 1000 ∧ Good k X.K E G H L (f () m) Q := by
  have h' : Good k X.K E G H L (M.bind (szL ds) f m) Q := h
  unfold M.bind szL at h'
  by_cases hc : ds.length ≤ 1000
  · rw [if_pos hc] at h'
    exact ⟨hc, h'⟩
  · rw [if_neg hc] at h'
    exact False.elim h'
theorem rep_core {es : List Expr} {b : Expr} {ms : DEnv → M (List D)} {mb : DEnv → M D} {pos p1 : Pos} {fin : List D → M D}
    (hfin : ∀ (G H : Hp) (L : Lam) (μ : Store) (vs : List V) (ds : List D) (Q : VK) (p : Addr), Wd k X.K G H L μ → RpA k X.K G L vs ds → H p = none → Good k X.K E G H L (fin ds μ) (QV k X.K Q) → Q (.ref p) (upd H p (.lst vs)))
    (ha : JA k X E es ms) (hb : JE k X E b mb) : JE k X E (.BinOp (.List es p1) .Mult b pos) (fun e => do let ds ← ms e; szL ds; let y ← mb e; repW fin ds y) := by
  refine PE.imp (pe_op op_rep (pe_lst ha) hb) fun s H Q h => ?_
  obtain ⟨e, G, L, μ, sg, w, gd⟩ := h
  refine ⟨e, G, L, μ, sg, w, Good.mono (Good.bind gd) fun ds m1 G1 H1 L1 st1 w1 q1 vs r1 => ?_⟩
  obtain ⟨hz, q1⟩ := szL_good q1
  refine ⟨by rw [r1.len]; exact Nat.le_trans hz (by decide), fun p hp => ?_⟩
  have js := junkS (G := G1) (L := L1) (o := .lst vs) hp
  have pv : Pv G1 (upd H1 p (.lst vs)) L1 p (.lst vs) := ⟨upd_same, w1.gnone hp, fun q hq => by
    obtain ⟨⟨o1, z1, _⟩, ⟨o2, z2, _⟩⟩ := w1.tk q hq
    exact ⟨Ne.symm (ne_of_none z1 hp), Ne.symm (ne_of_none z2 hp)⟩, nc_lst _⟩
  refine ⟨e, G1, L1, m1, sg.mono st1.g st1.l, w1.junk hp, Good.mono (Good.bind (Good.up q1 js)) fun d2 m2 G2 H2 L2 st2 w2 q2 y r2 => ?_⟩
  have pv2 := pv.step st2
  cases d2 with
  | int j =>
    cases r2
    obtain ⟨⟨h1, h2⟩, q2⟩ := good_ite q2
    refine ⟨p, j, vs, rfl, rfl, pv2.h, by omega, by omega, ?_, fun p' hp' => ?_⟩
    · rw [r1.len]
      have a1 : ds.length * j.toNat ≤ 1000 * 1000 := Nat.mul_le_mul hz (by omega)
      exact Nat.le_trans a1 (by decide)
    · exact hfin G2 H2 L2 m2 _ _ Q p' w2 (rpA_rep (RpA.mono st2.g st2.l _ _ r1) j.toNat) hp' q2
  | _ => exact False.elim q2
theorem j_rep {es : List Expr} {b : Expr} {ms : DEnv → M (List D)} {mb : DEnv → M D} {pos p1 : Pos} (ha : JA k X E es ms) (hb : JE k X E b mb) : JE k X E (.BinOp (.List es p1) .Mult b pos) (eRep ms mb) :=
  rep_core (fin := mkLst) (fun G H L μ vs ds Q p w r hp g => g _ _ _ (w.newS hp) (w.new hp) _ (.lst (SqL.of upd_same) (RpA.mono (w.newS (o := .lst vs) hp).g (pre_refl L) _ _ r))) ha hb
theorem j_repM {es : List Expr} {b : Expr} {ms : DEnv → M (List D)} {mb : DEnv → M D} {pos p1 : Pos} (ha : JA k X E es ms) (hb : JE k X E b mb) : JE k X E (.BinOp (.List es p1) .Mult b pos) (eRepM ms mb) :=
  rep_core (fin := newL) (fun G H L μ vs ds Q p w r hp g => g _ _ _ (newLocS hp) (w.newLoc hp r) _ (.loc (a := p) (b := p) (by rw [← w.len]; simp))) ha hb
/-! ### x[i] = v, a mutable list -/
def setIx (o i v : D) : M Unit := fun m => match o, i with
  | .loc n, .int i => match m[n]? with
    | some (some (.lst ds)) => match ixN ds.length i with
      | some j => .ok () (m.set n (some (.lst (ds.set j v))))
      | none => .bad
    | _ => .bad
  | _, _ => .bad
def sSetIx (o i v : DEnv → M D) : DEnv → M Out := fun e => do let x ← v e; let y ← o e; let z ← i e; setIx y z x; pure (.nx e)
theorem setIx_good {β : Type} {o i v : D} {x y : V} {u : V} {f : Unit → M β} {G H : Hp} {L : Lam} {μ : Store} {Q : β → Store → Hp → Hp → Lam → Prop} (ro : Rp k X.K G L x o) (ri : Rp k X.K G L y i) (rv : Rp k X.K G L u v) (w : Wd k X.K G H L μ) (g : Good k X.K E G H L ((setIx o i v >>= f) μ) Q) :
    ∃ p xs kk j m', x = .ref p ∧ y = .int kk ∧ H p = some (.lst xs) ∧ ixN xs.length kk = some j ∧ Stp G H L G (upd H p (.lst (xs.set j u))) L ∧ Wd k X.K G (upd H p (.lst (xs.set j u))) L m' ∧ Good k X.K E G H L (f () m') Q := by
  have g' : Good k X.K E G H L (M.bind (setIx o i v) f μ) Q := g
  unfold M.bind setIx at g'
  cases o with
  | loc n =>
    cases i with
    | int kk =>
      cases ri
      simp only at g'
      cases hm : μ[n]? with
      | none => rw [hm] at g'; exact False.elim g'
      | some c =>
        cases c with
        | none => rw [hm] at g'; exact False.elim g'
        | some c =>
          cases c with
          | ins _ _ => rw [hm] at g'; exact False.elim g'
          | dct _ _ => rw [hm] at g'; exact False.elim g'
          | lst ds =>
            rw [hm] at g'
            simp only at g'
            cases hj : ixN ds.length kk with
            | none => rw [hj] at g'; exact False.elim g'
            | some j =>
              rw [hj] at g'
              obtain ⟨a, vs, rfl, hl, ga, h, ra⟩ := w.look hm ro
              exact ⟨a, vs, kk, j, _, rfl, rfl, h, by rw [ra.len]; exact hj, setLocS hl h, w.setLoc hm hl (ra.set j rv), g'⟩
    | _ => exact False.elim g'
  | _ => cases i <;> exact False.elim g'
theorem js_setIx {o i v : Expr} {mo mi mv : DEnv → M D} {pos pos' : Pos} (hv : JE k X E v mv) (ho : JE k X E o mo) (hi : JE k X E i mi) (hs : swapsWithSole [.Subscript o i pos'] v pos.line X.env = pure false := by rfl) (hw : swappedStores [.Subscript o i pos'] v X.env = pure none := by rfl)
    (h1 : (assignEach [.Subscript o i pos'] X.env).map (·.2) = [assign (.Subscript o i pos') X.env] := by rfl)
    (ha : ∀ v, assign (.Subscript o i pos') X.env v = (do
      let ov ← holding [v] (eval o X.env)
      let iv ← holding [v, ov] (eval i X.env)
      standAt pos'
      holding [v, ov, iv] (setItem ov iv v)
      release [v, ov, iv] []) := by intro _; rfl) : JS k X E (.Assign [.Subscript o i pos'] v pos) (sSetIx mo mi mv) := by
  refine PS.imp (ps_asg hv (pg_sub ho hi set_list ha) hs hw h1) fun Ds s H h => ?_
  obtain ⟨e, G, L, μ, sg, w, gd⟩ := h
  refine ⟨e, G, L, μ, sg, w, Good.mono (Good.bind gd) fun d1 m1 G1 H1 L1 st1 w1 q1 x1 r1 => ?_⟩
  have sg1 := sg.mono st1.g st1.l
  refine ⟨e, G1, L1, m1, sg1, w1, Good.mono (Good.bind q1) fun d2 m2 G2 H2 L2 st2 w2 q2 x2 r2 => ?_⟩
  have sg2 := sg1.mono st2.g st2.l
  refine ⟨e, G2, L2, m2, sg2, w2, Good.mono (Good.bind q2) fun d3 m3 G3 H3 L3 st3 w3 q3 x3 r3 => ?_⟩
  have sg3 := sg2.mono st3.g st3.l
  obtain ⟨p, xs, kk, j, m', rfl, rfl, h, hj, st4, w4, q4⟩ := setIx_good (Rp.mono st3.g st3.l _ _ r2) r3 (Rp.mono st3.g st3.l _ _ (Rp.mono st2.g st2.l _ _ r1)) w3 q3
  exact ⟨p, xs, kk, j, rfl, rfl, h, hj, Good.up q4 st4 _ _ _ (Stp.refl _ _ _) w4 _ (sg3.mono st4.g st4.l)⟩
/-! ### xs.append(e), xs.extend([..]) -/
def isLocL (o : D) : M Unit := fun m => match o with
  | .loc n => match m[n]? with
    | some (some (.lst _)) => .ok () m
    | _ => .bad
  | _ => .bad
def growD (o : D) (vs : List D) : M D := fun m => match o with
  | .loc n => match m[n]? with
    | some (some (.lst ds)) => if ds.length + vs.length ≤ 100000 then .ok .non (m.set n (some (.lst (ds ++ vs)))) else .bad
    | _ => .bad
  | _ => .bad
def eApp (o v : DEnv → M D) : DEnv → M D := fun e => do let x ← o e; isLocL x; let y ← v e; growD x [y]
theorem isLoc_good {β : Type} {o : D} {x : V} {f : Unit → M β} {G H : Hp} {L : Lam} {μ : Store} {Q : β → Store → Hp → Hp → Lam → Prop} (r : Rp k X.K G L x o) (w : Wd k X.K G H L μ) (g : Good k X.K E G H L ((isLocL o >>= f) μ) Q) :
    tyV X.K "list" x H ∧ Good k X.K E G H L (f () μ) Q := by
  have g' : Good k X.K E G H L (M.bind (isLocL o) f μ) Q := g
  unfold M.bind isLocL at g'
  cases o with
  | loc n =>
    simp only at g'
    cases hm : μ[n]? with
    | none => rw [hm] at g'; exact False.elim g'
    | some c =>
      cases c with
      | none => rw [hm] at g'; exact False.elim g'
      | some c =>
        cases c with
        | ins _ _ => rw [hm] at g'; exact False.elim g'
        | dct _ _ => rw [hm] at g'; exact False.elim g'
        | lst ds =>
          rw [hm] at g'
          obtain ⟨a, vs, rfl, hl, ga, h, ra⟩ := w.look hm r
          exact ⟨.inl ⟨rfl, vs, SqL.of h⟩, g'⟩
  | _ => exact False.elim g'
theorem grow_good {o : D} {x : V} {us : List V} {ds' : List D} {G H : Hp} {L : Lam} {μ : Store} {Q : VK} (r : Rp k X.K G L x o) (ru : RpA k X.K G L us ds') (w : Wd k X.K G H L μ) (g : Good k X.K E G H L (growD o ds' μ) (QV k X.K Q)) :
    ∃ l xs, x = .ref l ∧ H l = some (.lst xs) ∧ xs.length + us.length ≤ 100000 ∧ Q .non (upd H l (.lst (xs ++ us))) := by
  unfold growD at g
  cases o with
  | loc n =>
    simp only at g
    cases hm : μ[n]? with
    | none => rw [hm] at g; exact False.elim g
    | some c =>
      cases c with
      | none => rw [hm] at g; exact False.elim g
      | some c =>
        cases c with
        | ins _ _ => rw [hm] at g; exact False.elim g
        | dct _ _ => rw [hm] at g; exact False.elim g
        | lst ds =>
          rw [hm] at g
          simp only at g
          by_cases hz : ds.length + ds'.length ≤ 100000
          · rw [if_pos hz] at g
            obtain ⟨a, vs, rfl, hl, ga, h, ra⟩ := w.look hm r
            exact ⟨a, vs, rfl, h, by rw [ra.len, ru.len]; exact hz, g _ _ _ (setLocS hl h) (w.setLoc hm hl (ra.append ru)) _ .non⟩
          · rw [if_neg hz] at g
            exact False.elim g
  | _ => exact False.elim g
theorem j_app {o v : Expr} {mo mv : DEnv → M D} {apos pos : Pos} (ho : JE k X E o mo) (hv : JE k X E v mv)
    (hbase : attributeBase o "append" X.env (eval o X.env) = eval o X.env := by rfl)
    (hfew : ((backTo pos (starEach [v] X.env)).all (fun x => !x.1) && (backToKw pos (keywordEach [] X.env)).all (fun x => x.1.isSome)
      && decide ([v].length + ([] : List Keyword).length + (if ([] : List Keyword).isEmpty then 0 else 1) < 30)) = true := by rfl)
    (hline : (apos.endLine == pos.line) = true := by rfl) (hs : starEach [v] X.env = (false, eval v X.env) :: starEach [] X.env := by rfl) (hplain : (backTo pos (starEach [] X.env)).any (·.1) = false := by rfl) :
    JE k X E (.Call (.Attribute o "append" apos) [v] [] pos) (eApp mo mv) := by
  refine PE.imp (pe_bm PySem.F.plainAttrs_list PySem.F.slot_list_append PySem.F.type_list_append mt_append ho (pa_cons hv pa_nil hs) hbase hfew hline hs hplain) fun s H Q h => ?_
  obtain ⟨e, G, L, μ, sg, w, gd⟩ := h
  refine ⟨e, G, L, μ, sg, w, Good.mono (Good.bind gd) fun d1 m1 G1 H1 L1 st1 w1 q1 x1 r1 => ?_⟩
  obtain ⟨ty, q1⟩ := isLoc_good r1 w1 q1
  refine ⟨ty, e, G1, L1, m1, sg.mono st1.g st1.l, w1, Good.mono (Good.bind q1) fun d2 m2 G2 H2 L2 st2 w2 q2 x2 r2 => ?_⟩
  obtain ⟨l, xs, rfl, h, hz, q⟩ := grow_good (Rp.mono st2.g st2.l _ _ r1) (.cons r2 .nil) w2 q2
  exact ⟨l, xs, x2, rfl, rfl, h, lt_size (by simp at hz; omega), q⟩
/-- xs.extend([.. for ..]) -/
def eExt (o : DEnv → M D) (c : DEnv → M (List D)) : DEnv → M D := fun e => do let x ← o e; isLocL x; let ds ← c e; growD x ds
theorem j_ext {o : Expr} {mo : DEnv → M D} {apos pos cpos : Pos} {tg iter elt : Expr} {mi : DEnv → M Src} {ts : List Nat} {g : D → DEnv → M DEnv} {mt : DEnv → M Bool} {me : DEnv → M D} {ifs : List Expr} {scope : Scope} {own : List (Str × Nat)} (ho : JE k X E o mo)
    (sub : ∀ i ∈ ts, i ∈ own.map (·.2)) (hc : X.calm = true) (hN : X.N.Nodup) (hi : JI k X E tg iter mi) (ok : BlkOk X.N X.env.scope scope own)
    (hg : ∀ (s : Shared) (H : Hp) (C : Addr) (cl : List (Str × Addr)) (fp : List Addr), JG k (X.blk s H scope (compEnvC scope cl C X.env) fp) E0 tg ts g)
    (ht : ∀ (s : Shared) (H : Hp) (C : Addr) (cl : List (Str × Addr)) (fp : List Addr), PTs (X.blk s H scope (compEnvC scope cl C X.env) fp) ifs (dT k X.K E0 mt))
    (he : ∀ (s : Shared) (H : Hp) (C : Addr) (cl : List (Str × Addr)) (fp : List Addr), JE k (X.blk s H scope (compEnvC scope cl C X.env) fp) E0 elt me) (hfs : ∀ x, foldedSetIterable iter X.env x = pure x := by intro _; rfl)
    (hbase : attributeBase o "extend" X.env (eval o X.env) = eval o X.env := by rfl)
    (hfew : ((backTo pos (starEach [.ListComp elt [⟨tg, iter, ifs, 0⟩] scope cpos] X.env)).all (fun x => !x.1) && (backToKw pos (keywordEach [] X.env)).all (fun x => x.1.isSome)
      && decide ([Expr.ListComp elt [⟨tg, iter, ifs, 0⟩] scope cpos].length + ([] : List Keyword).length + (if ([] : List Keyword).isEmpty then 0 else 1) < 30)) = true := by rfl)
    (hline : (apos.endLine == pos.line) = true := by rfl) (hs : starEach [.ListComp elt [⟨tg, iter, ifs, 0⟩] scope cpos] X.env = (false, eval (.ListComp elt [⟨tg, iter, ifs, 0⟩] scope cpos) X.env) :: starEach [] X.env := by rfl) (hplain : (backTo pos (starEach [] X.env)).any (·.1) = false := by rfl) :
    JE k X E (.Call (.Attribute o "extend" apos) [.ListComp elt [⟨tg, iter, ifs, 0⟩] scope cpos] [] pos) (eExt mo (compM mi g mt me (own.map (·.2)))) := by
  have pc := pe_lc (pos := cpos) (g := dG k X.K E0 ts g) (te := dE k X.K E0 me) hc hN hi ok hg ht he hfs
  refine PE.imp (pe_bm PySem.F.plainAttrs_list PySem.F.slot_list_extend PySem.F.type_list_extend mt_extend ho (pa_cons pc pa_nil hs) hbase hfew hline hs hplain) fun s H Q h => ?_
  obtain ⟨e, G, L, μ, sg, w, gd⟩ := h
  refine ⟨e, G, L, μ, sg, w, Good.mono (Good.bind gd) fun d1 m1 G1 H1 L1 st1 w1 q1 x1 r1 => ?_⟩
  obtain ⟨ty, q1⟩ := isLoc_good r1 w1 q1
  refine ⟨ty, comp_gen (fin := fun ds => growD d1 ds) sub (fun G2 H2 L2 G' H' L' μ' Dl ws ds st12 st hD w' pv ra g' => ?_) (sg.mono st1.g st1.l) w1 q1⟩
  have s1 := st12.trans st
  obtain ⟨l, xs, rfl, hh, hz, q⟩ := grow_good (Rp.mono s1.g s1.l _ _ r1) ra w' (Good.up g' st)
  exact ⟨l, Dl, xs, ws, rfl, rfl, hh, pv.h, size_of hz, q⟩
end
end DL

namespace DL
open PySem L2 PyProof.Rows

/-! ### instances -/
def clsD (d : D) (m : Store) : Option Nat := match d with
  | .obj c _ => some c
  | .loc n => match m[n]? with
    | some (some (.ins c _)) => some c
    | _ => none
  | _ => none
def slotD (i : Nat) (d : D) (m : Store) : Option D := match d with
  | .obj _ ds => ds[i]?
  | .loc n => match m[n]? with
    | some (some (.ins _ ss)) => match ss[i]? with
      | some (some v) => some v
      | _ => none
    | _ => none
  | _ => none
inductive At where
  | slot (i : Nat)
  | prop (den : List D → M D)
def attrD (tab : List (Nat × At)) (d : D) : M D := fun m => match clsD d m with
  | some c => match tab.lookup c with
    | some (.slot i) => match slotD i d m with
      | some v => .ok v m
      | none => .bad
    | some (.prop den) => noX (den [d]) m
    | none => .bad
  | none => .bad
section
variable {k : Kx} {X : Cx} {E : XK}
theorem ins_at {d : D} {x : V} {c : Nat} {G H : Hp} {L : Lam} {μ : Store} (r : Rp k X.K G L x d) (w : Wd k X.K G H L μ) (h : clsD d μ = some c) :
    ∃ a dx vs, x = .ref a ∧ SlX.Slt H a (k.cl c) dx vs ∧ ∀ i v, slotD i d μ = some v → ∃ u, vs[i]? = some (some u) ∧ Rp k X.K G L u v := by
  cases d with
  | obj c' ds =>
    simp only [clsD] at h
    cases h
    cases r with
    | @obj _ a dx vs _ hs ha =>
      refine ⟨a, dx, _, rfl, slt_mono w.ext hs, fun i v e => ?_⟩
      simp only [slotD] at e
      obtain ⟨u, hu, ru⟩ := ha.get e
      exact ⟨u, by rw [List.getElem?_map, hu]; rfl, ru⟩
  | loc n =>
    simp only [clsD] at h
    cases hm : μ[n]? with
    | none => rw [hm] at h; cases h
    | some o =>
      cases o with
      | none => rw [hm] at h; cases h
      | some cc =>
        cases cc with
        | lst _ => rw [hm] at h; cases h
        | dct _ _ => rw [hm] at h; cases h
        | ins c' ss =>
          rw [hm] at h
          cases h
          obtain ⟨a, dx, vs, rfl, hl, ga, gb, hs, q, ne⟩ := w.lookIns hm r
          refine ⟨a, dx, vs, rfl, hs, fun i v e => ?_⟩
          simp only [slotD, hm] at e
          cases he : ss[i]? with
          | none => rw [he] at e; cases e
          | some o =>
            cases o with
            | none => rw [he] at e; cases e
            | some d' =>
              rw [he] at e
              cases e
              exact q.2 i _ he
  | _ => cases h
theorem slt_of {d : D} {x : V} {c : Nat} {G H : Hp} {L : Lam} {μ : Store} (r : Rp k X.K G L x d) (w : Wd k X.K G H L μ) (h : clsD d μ = some c) : ∃ a dx vs, x = .ref a ∧ SlX.Slt H a (k.cl c) dx vs :=
  let ⟨a, dx, vs, e, hs, _⟩ := ins_at r w h
  ⟨a, dx, vs, e, hs⟩
def At1 (k : Kx) (X : Cx) (f : Str) (c : Nat) : At → Prop
  | .slot i => SlX.SCls X.K (k.cl c) ∧ ∃ p, SlX.Slot1 X.K (k.cl c) f p i
  | .prop den => SlX.SCls X.K (k.cl c) ∧ ∃ p g lvl rest, PySem.W.findIn X.K (.ref (k.cl c)) f = some (some (.ref p)) ∧ PySem.W.specialIn X.K (.ref p) "__get__" = some (some (.builtin "property.__get__")) ∧
      PySem.W.takesIn X.K (.ref p) = some true ∧ PySem.W.recIn X.K p "property" = some (.ref g :: rest) ∧ FnDn k X lvl g 1 den ∧ Room (lvl + 1) X.A
def AtAll (k : Kx) (X : Cx) (f : Str) : List (Nat × At) → Prop
  | [] => True
  | p :: r => At1 k X f p.1 p.2 ∧ AtAll k X f r
theorem atAll_of {f : Str} {c : Nat} {a : At} : ∀ {tab : List (Nat × At)}, AtAll k X f tab → tab.lookup c = some a → At1 k X f c a
  | [], _, h => by cases h
  | p :: r, F, h => by
    rw [List.lookup_cons] at h
    by_cases hc : c == p.1
    · rw [hc] at h
      cases h
      rw [beq_iff_eq.mp hc]
      exact F.1
    · rw [Bool.eq_false_iff.mpr hc] at h
      exact atAll_of F.2 h
theorem noX_good {α : Type} {x : M α} {G H : Hp} {L : Lam} {m : Store} {Q : α → Store → Hp → Hp → Lam → Prop} (h : Good k X.K E G H L (noX x m) Q) : Good k X.K E0 G H L (x m) Q := by
  unfold noX at h
  cases e : x m with
  | ok a m' => rw [e] at h; exact h
  | exn c fs m' => rw [e] at h; exact False.elim h
  | bad => rw [e] at h; exact False.elim h
/-- e.f, by the class of e: a slot, a property -/
theorem j_attr {a : Expr} {ma : DEnv → M D} {f : Str} {pos : Pos} {tab : List (Nat × At)} (F : AtAll k X f tab) (ha : JE k X E a ma) (hb : attributeBase a f X.env (eval a X.env) = eval a X.env := by rfl) : JE k X E (.Attribute a f pos) (eUn (attrD tab) ma) := by
  refine ⟨fun pins s σ H Q I h => ?_⟩
  obtain ⟨e, G, L, μ, sg, w, gd⟩ := h
  have h' : dE k X.K E ma σ H fun x H1 => ∃ G1 L1 m1 d, Rp k X.K G1 L1 x d ∧ Wd k X.K G1 H1 L1 m1 ∧ Good k X.K E G1 H1 L1 (attrD tab d m1) (QV k X.K Q) :=
    ⟨e, G, L, μ, sg, w, Good.mono (Good.bind gd) fun d m1 G1 H1 L1 st1 w1 q1 x r => ⟨G1, L1, m1, d, r, w1, q1⟩⟩
  refine attr_of hb (thn (ha.run pins s σ H _ I h') fun u s1 ⟨x, H1, I1, rx, G1, L1, m1, d, r, w1, q1⟩ => ?_)
  unfold attrD at q1
  cases hc : clsD d m1 with
  | none => rw [hc] at q1; exact False.elim q1
  | some c =>
    simp only [hc] at q1
    obtain ⟨a, dx, vs, rfl, hs, hv⟩ := ins_at r w1 hc
    obtain rfl : u = Value.ref a := rx
    cases ht : tab.lookup c with
    | none => rw [ht] at q1; exact False.elim q1
    | some at' =>
      simp only [ht] at q1
      have A1 := atAll_of F ht
      cases at' with
      | slot i =>
        simp only at q1
        cases hsl : slotD i d m1 with
        | none => rw [hsl] at q1; exact False.elim q1
        | some v =>
          simp only [hsl] at q1
          obtain ⟨y, hy, ry⟩ := hv i v hsl
          obtain ⟨sc, p, sp⟩ := A1
          exact SlX.getslot_ok I1 hs sc sp hy fun u' s2 I2 ru => ⟨y, H1, I2, ru, Good.okE q1 w1 _ ry⟩
      | prop den =>
        simp only at q1
        obtain ⟨sc, p, g, lvl, rest, f1, f2, f3, f4, Fn, hr⟩ := A1
        refine SlX.getprop_sl (E := E0) I1 hs sc f1 f2 f3 ⟨rest, f4⟩ Fn hr (fun H s e s' z => ?_) ⟨[d], G1, L1, m1, .cons r .nil, rfl, w1, noX_good q1⟩
        obtain ⟨_, _, _, _, _, _, _, _, _, _, _, _, z⟩ := z
        exact z.elim
/-- self.f = e, in a class's own defs -/
def setAt (i : Nat) (o v : D) : M Unit := fun m => match o with
  | .loc n => match m[n]? with
    | some (some (.ins c ss)) => .ok () (m.set n (some (.ins c (putD i v ss))))
    | _ => .bad
  | _ => .bad
def setAtT (tab : List (Nat × Nat)) (o v : D) : M Unit := fun m => match clsD o m with
  | some c => match tab.lookup c with
    | some i => setAt i o v m
    | none => .bad
  | none => .bad
def sAttr (tab : List (Nat × Nat)) (o v : DEnv → M D) : DEnv → M Out := fun e => do let x ← v e; let y ← o e; setAtT tab y x; pure (.nx e)
def SlAll (k : Kx) (X : Cx) (f : Str) : List (Nat × Nat) → Prop
  | [] => True
  | p :: r => (SlX.SCls X.K (k.cl p.1) ∧ ∃ q, SlX.Slot1 X.K (k.cl p.1) f q p.2) ∧ SlAll k X f r
theorem slAll_of {f : Str} {c i : Nat} : ∀ {tab : List (Nat × Nat)}, SlAll k X f tab → tab.lookup c = some i → SlX.SCls X.K (k.cl c) ∧ ∃ q, SlX.Slot1 X.K (k.cl c) f q i
  | [], _, h => by cases h
  | p :: r, F, h => by
    rw [List.lookup_cons] at h
    by_cases hc : c == p.1
    · rw [hc] at h
      cases h
      rw [beq_iff_eq.mp hc]
      exact F.1
    · rw [Bool.eq_false_iff.mpr hc] at h
      exact slAll_of F.2 h
theorem setAt_good {β : Type} {tab : List (Nat × Nat)} {o v : D} {x y : V} {f : Unit → M β} {G H : Hp} {L : Lam} {μ : Store} {Q : β → Store → Hp → Hp → Lam → Prop} (ro : Rp k X.K G L x o) (rv : Rp k X.K G L y v) (w : Wd k X.K G H L μ) (g : Good k X.K E G H L ((setAtT tab o v >>= f) μ) Q) :
    ∃ a c dx vs i m', x = .ref a ∧ tab.lookup c = some i ∧ SlX.Slt H a (k.cl c) dx vs ∧ Stp G H L G (SlX.slH H a (k.cl c) dx (SlX.putS i y vs)) L ∧ Wd k X.K G (SlX.slH H a (k.cl c) dx (SlX.putS i y vs)) L m' ∧ Good k X.K E G H L (f () m') Q := by
  have g' : Good k X.K E G H L (M.bind (setAtT tab o v) f μ) Q := g
  unfold M.bind setAtT setAt at g'
  cases o with
  | loc n =>
    simp only [clsD] at g'
    cases hm : μ[n]? with
    | none => simp only [hm] at g'; exact False.elim g'
    | some oc =>
      cases oc with
      | none => simp only [hm] at g'; exact False.elim g'
      | some cc =>
        cases cc with
        | lst _ => simp only [hm] at g'; exact False.elim g'
        | dct _ _ => simp only [hm] at g'; exact False.elim g'
        | ins c ss =>
          simp only [hm] at g'
          cases ht : tab.lookup c with
          | none => rw [ht] at g'; exact False.elim g'
          | some i =>
            rw [ht] at g'
            simp only at g'
            obtain ⟨a, dx, vs, rfl, hl, ga, gb, hs, q, ne⟩ := w.lookIns hm ro
            exact ⟨a, c, dx, vs, i, _, rfl, ht, hs, setInsS hl, w.setIns i hm hl q ne rv, g'⟩
  | obj c ds =>
    simp only [clsD] at g'
    cases ht : tab.lookup c with
    | none => rw [ht] at g'; exact False.elim g'
    | some i => rw [ht] at g'; exact False.elim g'
  | _ => exact False.elim g'
theorem js_attr {o v : Expr} {mo mv : DEnv → M D} {f : Str} {pos pos' : Pos} {tab : List (Nat × Nat)} (F : SlAll k X f tab) (ho : JE k X E o mo) (hv : JE k X E v mv) (hs : swapsWith v (some (.Attribute o f pos')) pos.line X.env = pure false := by rfl) :
    JS k X E (.Assign [.Attribute o f pos'] v pos) (sAttr tab mo mv) := by
  refine PS.imp (SlX.ps_sl ho hv hs) fun Ds s H h => ?_
  obtain ⟨e, G, L, μ, sg, w, gd⟩ := h
  refine ⟨e, G, L, μ, sg, w, Good.mono (Good.bind gd) fun d1 m1 G1 H1 L1 st1 w1 q1 x1 r1 => ?_⟩
  have sg1 := sg.mono st1.g st1.l
  refine ⟨e, G1, L1, m1, sg1, w1, Good.mono (Good.bind q1) fun d2 m2 G2 H2 L2 st2 w2 q2 x2 r2 => ?_⟩
  have sg2 := sg1.mono st2.g st2.l
  obtain ⟨a, c, dx, vs, i, m', rfl, ht, hsl, st3, w3, q3⟩ := setAt_good r2 (Rp.mono st2.g st2.l _ _ r1) w2 q2
  obtain ⟨sc, p, sp⟩ := slAll_of F ht
  exact ⟨a, k.cl c, dx, p, vs, i, rfl, hsl, sc, sp, Good.up q3 st3 _ _ _ (Stp.refl _ _ _) w3 _ (sg2.mono st3.g st3.l)⟩

/-! ### o.m(e, ..) -/
abbrev MTab := List (Nat × Nat × (List D → M D))
def clsM (d : D) : M Nat := fun m => match clsD d m with
  | some c => .ok c m
  | none => .bad
def methOf (tab : MTab) (c : Nat) : M (Nat × (List D → M D)) := match tab.lookup c with
  | some p => pure p
  | none => M.bad
def eMeth (tab : MTab) (o : DEnv → M D) (as : DEnv → M (List D)) : DEnv → M D := fun e => do
  let x ← o e
  let c ← clsM x
  let p ← methOf tab c
  let ds ← as e
  callN p.1 p.2 (x :: ds)
def Mt1 (k : Kx) (X : Cx) (m : Str) (c n : Nat) (den : List D → M D) : Prop := SlX.SCls X.K (k.cl c) ∧ ∃ g lvl, Meth X.K (k.cl c) m g ∧ FnDn k X lvl g n den ∧ Room lvl X.A
def MtAll (k : Kx) (X : Cx) (m : Str) : MTab → Prop
  | [] => True
  | p :: r => Mt1 k X m p.1 p.2.1 p.2.2 ∧ MtAll k X m r
theorem mtAll_of {m : Str} {c : Nat} {q : Nat × (List D → M D)} : ∀ {tab : MTab}, MtAll k X m tab → tab.lookup c = some q → Mt1 k X m c q.1 q.2
  | [], _, h => by cases h
  | p :: r, F, h => by
    rw [List.lookup_cons] at h
    by_cases hc : c == p.1
    · rw [hc] at h
      cases h
      rw [beq_iff_eq.mp hc]
      exact F.1
    · rw [Bool.eq_false_iff.mpr hc] at h
      exact mtAll_of F.2 h
theorem clsM_good {β : Type} {d : D} {f : Nat → M β} {G H : Hp} {L : Lam} {μ : Store} {Q : β → Store → Hp → Hp → Lam → Prop} (g : Good k X.K E G H L ((clsM d >>= f) μ) Q) : ∃ c, clsD d μ = some c ∧ Good k X.K E G H L (f c μ) Q := by
  have g' : Good k X.K E G H L (M.bind (clsM d) f μ) Q := g
  unfold M.bind clsM at g'
  cases h : clsD d μ with
  | none => rw [h] at g'; exact False.elim g'
  | some c => rw [h] at g'; exact ⟨c, rfl, g'⟩
theorem methOf_good {β : Type} {tab : MTab} {c : Nat} {f : (Nat × (List D → M D)) → M β} {G H : Hp} {L : Lam} {μ : Store} {Q : β → Store → Hp → Hp → Lam → Prop} (g : Good k X.K E G H L ((methOf tab c >>= f) μ) Q) : ∃ p, tab.lookup c = some p ∧ Good k X.K E G H L (f p μ) Q := by
  unfold methOf at g
  cases h : tab.lookup c with
  | none => rw [h] at g; exact False.elim g
  | some p => rw [h] at g; exact ⟨p, rfl, g⟩
theorem j_meth {o a : Expr} {es : List Expr} {mo : DEnv → M D} {ms : DEnv → M (List D)} {m : Str} {pos apos : Pos} {tab : MTab} {pl : Sem Bool} (F : MtAll k X m tab) (hx : Passes (L2.CX X.prog X.w) X E) (ho : JE k X E o mo) (ha : JA k X E (a :: es) ms)
    (hst : starEach (a :: es) X.env = (false, eval a X.env) :: starEach es X.env := by rfl) (hpl : (backTo pos (starEach es X.env)).any (·.1) = false := by rfl)
    (ht : eval (.Call (.Attribute o m apos) (a :: es) [] pos) X.env = (do
      let ov ← eval o X.env
      standAt apos.atName
      let (f, first) ← holding [ov] (getMethod ov m pl)
      callWith pos f first (backTo pos (starEach (a :: es) X.env)) (backToKw pos (keywordEach [] X.env))) := by rfl) :
    JE k X E (.Call (.Attribute o m apos) (a :: es) [] pos) (eMeth tab mo ms) := by
  refine ⟨fun pins s σ H Q I h => ?_⟩
  obtain ⟨e, G, L, μ, sg, w, gd⟩ := h
  have h' : dE k X.K E mo σ H fun x H1 => ∃ c n den a dx vs, x = .ref a ∧ tab.lookup c = some (n, den) ∧ SlX.Slt H1 a (k.cl c) dx vs ∧ dA k X.K E ms σ H1 fun ws H2 => spD k X.K n den (x :: ws) H2 Q E := by
    refine ⟨e, G, L, μ, sg, w, Good.mono (Good.bind gd) fun d m1 G1 H1 L1 st1 w1 q1 x r => ?_⟩
    obtain ⟨c, hc, q1⟩ := clsM_good q1
    obtain ⟨⟨n, den⟩, ht, q1⟩ := methOf_good q1
    obtain ⟨a, dx, vs, rfl, hs⟩ := slt_of r w1 hc
    refine ⟨c, n, den, a, dx, vs, rfl, ht, hs, e, G1, L1, m1, sg.mono st1.g st1.l, w1, Good.mono (Good.bind q1) fun ds m2 G2 H2 L2 st2 w2 q2 ws rw' => ?_⟩
    obtain ⟨hl, q2⟩ := good_ite q2
    exact ⟨d :: ds, G2, L2, m2, .cons (Rp.mono st2.g st2.l _ _ r) rw', hl, w2, q2⟩
  refine PySem.W.methodCall_KW (pl := pl) (thn (ho.run pins s σ H _ I h') fun u s1 ⟨x, H1, I1, rx, c, n, den, a, dx, vs, ex, htab, hsl, q⟩ => ?_) ht
  subst ex
  obtain rfl : u = Value.ref a := rx
  obtain ⟨sc, g, lvl, hm, Fn, hr⟩ := mtAll_of F htab
  refine SlX.getmethsl_ok I1 hsl sc hm ?_
  refine PySem.W.callWith_K (first := [.ref a]) (h₀ := X.base) I.ok.mod.kin hm.kp (thn (ha.run pos pins s1 σ H1 _ I1 q) fun us s2 ⟨ws, H2, I2, r, q2⟩ => ⟨I2.kIn, ?_⟩) hst hpl
  exact wpAny_call (run_fnR (us := .ref a :: us) (vs := .ref a :: ws) Fn hr hx I2 (.cons rfl r) q2)
theorem j_meth0 {o : Expr} {mo : DEnv → M D} {m : Str} {pos apos : Pos} {tab : MTab} {pl : Sem Bool} (F : MtAll k X m tab) (hx : Passes (L2.CX X.prog X.w) X E) (ho : JE k X E o mo)
    (ht : eval (.Call (.Attribute o m apos) [] [] pos) X.env = (do
      let ov ← eval o X.env
      standAt apos.atName
      let (f, first) ← holding [ov] (getMethod ov m pl)
      callWith pos f first (backTo pos (starEach [] X.env)) (backToKw pos (keywordEach [] X.env))) := by rfl) :
    JE k X E (.Call (.Attribute o m apos) [] [] pos) (eMeth tab mo aNil) := by
  refine ⟨fun pins s σ H Q I h => ?_⟩
  obtain ⟨e, G, L, μ, sg, w, gd⟩ := h
  have h' : dE k X.K E mo σ H fun x H1 => ∃ c n den a dx vs, x = .ref a ∧ tab.lookup c = some (n, den) ∧ SlX.Slt H1 a (k.cl c) dx vs ∧ spD k X.K n den [x] H1 Q E := by
    refine ⟨e, G, L, μ, sg, w, Good.mono (Good.bind gd) fun d m1 G1 H1 L1 st1 w1 q1 x r => ?_⟩
    obtain ⟨c, hc, q1⟩ := clsM_good q1
    obtain ⟨⟨n, den⟩, ht, q1⟩ := methOf_good q1
    obtain ⟨a, dx, vs, rfl, hs⟩ := slt_of r w1 hc
    obtain ⟨hl, q2⟩ := good_ite (good_pureb q1)
    exact ⟨c, n, den, a, dx, vs, rfl, ht, hs, [d], G1, L1, m1, .cons r .nil, hl, w1, q2⟩
  refine PySem.W.methodCall_KW (pl := pl) (thn (ho.run pins s σ H _ I h') fun u s1 ⟨x, H1, I1, rx, c, n, den, a, dx, vs, ex, htab, hsl, q⟩ => ?_) ht
  subst ex
  obtain rfl : u = Value.ref a := rx
  obtain ⟨sc, g, lvl, hm, Fn, hr⟩ := mtAll_of F htab
  refine SlX.getmethsl_ok I1 hsl sc hm ?_
  exact PySem.W.callWith_K0 (first := [.ref a]) I1.kIn hm.kp (wpAny_call (run_fnR (us := [.ref a]) (vs := [.ref a]) Fn hr hx I1 (.cons rfl .nil) q))

/-! ### C(e, ..) -/
def newI (c : Nat) : M D := fun m => .ok (.loc m.length) (m ++ [some (.ins c [])])
def allSome : List (Option D) → Option (List D)
  | [] => some []
  | some d :: r => (allSome r).map (d :: ·)
  | none :: _ => none
def frzI (d : D) : M D := fun m => match d with
  | .loc n => match m[n]? with
    | some (some (.ins c ss)) => match allSome ss with
      | some ds => .ok (.obj c ds) (m.set n none)
      | none => .bad
    | _ => .bad
  | _ => .bad
def isNon : D → M Unit
  | .non => pure ()
  | _ => M.bad
def makeD (c n : Nat) (den : List D → M D) (ds : List D) : M D := scopeM (do
  let o ← newI c
  let r ← callN n den (o :: ds)
  isNon r
  frzI o)
theorem allSome_of : ∀ {ss : List (Option D)} {ds : List D}, allSome ss = some ds → ss = ds.map some
  | [], _, h => by cases h; rfl
  | none :: _, _, h => by cases h
  | some d :: r, _, h => by
    simp only [allSome] at h
    cases e : allSome r with
    | none => rw [e] at h; cases h
    | some es =>
      rw [e] at h
      cases h
      rw [allSome_of e]
      rfl
theorem make_good {c n : Nat} {den : List D → M D} {vs : List V} {ds : List D} {G H : Hp} {L : Lam} {μ : Store} {Q : VK} (r : RpA k X.K G L vs ds) (w : Wd k X.K G H L μ) (g : Good k X.K E G H L (makeD c n den ds μ) (QV k X.K Q)) :
    ∀ x dx, H x = none → H dx = none → dx ≠ x → spD k X.K n den (V.ref x :: vs) (upd (upd H dx (.own x)) x (.ins (k.cl c) dx [])) (fun v H2 => v = .non ∧ Q (.ref x) H2) E := by
  intro x dx hx hd ne
  have g1 := scope_good w g
  have g2 : Good k X.K E G H L ((do let r ← callN n den (.loc μ.length :: ds); isNon r; frzI (.loc μ.length)) (μ ++ [some (Cell.ins c [])])) (QV k X.K Q) := g1
  have st := newInsS (G := G) (L := L) (o := .own x) (o' := .ins (k.cl c) dx []) hx hd ne
  have w1 := w.newIns (c := c) hx hd ne
  have rx : Rp k X.K G (L ++ [(x, dx)]) (.ref x) (.loc μ.length) := .loc (a := x) (b := dx) (by rw [← w.len]; simp)
  have g3 := Good.up g2 st
  unfold callN at g3
  by_cases hl : (D.loc μ.length :: ds).length = n
  · simp only [hl, if_true] at g3
    refine ⟨.loc μ.length :: ds, G, L ++ [(x, dx)], _, .cons rx (RpA.mono st.g st.l _ _ r), hl, w1, Good.mono (Good.bind g3) fun d m2 G2 H2 L2 st2 w2 q2 v rv => ?_⟩
    cases d with
    | non =>
      cases rv
      have q3 : Good k X.K E G2 H2 L2 (frzI (.loc μ.length) m2) (QV k X.K Q) := q2
      refine ⟨rfl, ?_⟩
      unfold frzI at q3
      simp only at q3
      cases hm : m2[μ.length]? with
      | none => rw [hm] at q3; exact False.elim q3
      | some o =>
        cases o with
        | none => rw [hm] at q3; exact False.elim q3
        | some cc =>
          cases cc with
          | lst _ => rw [hm] at q3; exact False.elim q3
          | dct _ _ => rw [hm] at q3; exact False.elim q3
          | ins c' ss =>
            rw [hm] at q3
            simp only at q3
            cases ha : allSome ss with
            | none => rw [ha] at q3; exact False.elim q3
            | some es =>
              rw [ha] at q3
              have e := allSome_of ha
              subst e
              obtain ⟨G3, st3, w3, r3⟩ := w2.freezeIns hm (Rp.mono st2.g st2.l _ _ rx)
              exact q3 G3 H2 L2 st3 w3 _ r3
    | _ => exact False.elim q2
  · simp only [hl, if_false] at g3
    exact False.elim g3
theorem j_make {x : Str} {p pos : Pos} {a : Expr} {es : List Expr} {ms : DEnv → M (List D)} {lvl c n : Nat} {f : Addr} {den : List D → M D} (Mc : Mk X.K (k.cl c) f) (F : FnDn k X lvl f n den) (hr : Room (lvl + 1) X.A) (hx : Passes (L2.CX X.prog X.w) X E) (hg : Gl X x) (hm : X.mg x = some (.ref (k.cl c)))
    (ha : JA k X E (a :: es) ms) (hdb : (x == ("__debug__" : Str)) = false := by decide) (he : starEach (a :: es) X.env = (false, eval a X.env) :: starEach es X.env := by rfl) (hpl : (backTo pos (starEach es X.env)).any (·.1) = false := by rfl) :
    JE k X E (.Call (.Name x p) (a :: es) [] pos) (eCallB (makeD c n den) ms) := by
  refine PE.imp (StX.pe_makeR Mc F hr hg hm hx ha hdb he hpl) fun s H Q h => ?_
  obtain ⟨e, G, L, μ, sg, w, gd⟩ := h
  exact ⟨e, G, L, μ, sg, w, Good.mono (Good.bind gd) fun ds m1 G1 H1 L1 st1 w1 q1 vs r => make_good r w1 q1⟩
end
end DL

namespace DL
open PySem L2 PyProof.Rows

section
variable {k : Kx} {X : Cx} {E : XK}
/-! ### x op y by an own def of x's class -/
def argOk (cls : Nat) (y : D) (m : Store) : Bool := match y with
  | .int _ => true
  | y => decide (clsD y m = some cls)
def ownB (tab : MTab) (g0 : D → D → M D) (x y : D) : M D := fun m => match clsD x m with
  | some c => match tab.lookup c with
    | some p => if argOk c y m = true then callN p.1 p.2 [x, y] m else .bad
    | none => .bad
  | none => g0 x y m
structure Ob1 (k : Kx) (X : Cx) (op : Operator) (c n : Nat) (den : List D → M D) : Prop where
  sf : PySem.W.selfFirst X.K (k.cl c) = true
  ex : ∃ g lvl, PySem.W.findIn X.K (.ref (k.cl c)) (PySem.dunder op.info.2) = some (some (.ref g)) ∧ PySem.W.isFn X.K (.ref g) = true ∧ FnDn k X lvl g n den ∧ Room lvl X.A
  rc : PySem.W.findIn X.K (.ref (k.cl c)) (dunderR op.info.2) = some none
  i1 : ∃ fo, PySem.W.findIn X.K (.type "int") (PySem.dunder op.info.2) = some fo
  i2 : ∃ ro, PySem.W.findIn X.K (.type "int") (dunderR op.info.2) = some ro
  i3 : PySem.W.subIn X.K (.type "int") (.ref (k.cl c)) = some false
def ObAll (k : Kx) (X : Cx) (op : Operator) : MTab → Prop
  | [] => True
  | p :: r => Ob1 k X op p.1 p.2.1 p.2.2 ∧ ObAll k X op r
theorem obAll_of {op : Operator} {c : Nat} {q : Nat × (List D → M D)} : ∀ {tab : MTab}, ObAll k X op tab → tab.lookup c = some q → Ob1 k X op c q.1 q.2
  | [], _, h => by cases h
  | p :: r, F, h => by
    rw [List.lookup_cons] at h
    by_cases hc : c == p.1
    · rw [hc] at h
      cases h
      rw [beq_iff_eq.mp hc]
      exact F.1
    · rw [Bool.eq_false_iff.mpr hc] at h
      exact obAll_of F.2 h
def rOB (k : Kx) (K : PySem.W.Frag) (E : XK) (tab : MTab) : R2 := fun x y H Q => ∃ a c dx vs n den, x = .ref a ∧ SlX.Slt H a (k.cl c) dx vs ∧ tab.lookup c = some (n, den) ∧ ((∃ b dy ws, y = .ref b ∧ SlX.Slt H b (k.cl c) dy ws) ∨ ∃ i, y = .int i) ∧ spD k K n den [x, y] H Q E
theorem op_OB {op : Operator} {tab : MTab} (F : ObAll k X op tab) (hx : Passes (L2.CX X.prog X.w) X E) : OpR X (binaryOp op) (rOB k X.K E tab) := by
  intro pins s σ H x y v u Q I rx ry h
  obtain ⟨a, c, dx, vs, n, den, rfl, hs, ht, hy, q⟩ := h
  obtain ⟨sf, ⟨g, lvl, f1, f2, Fn, hr⟩, rc, ⟨fo, i1⟩, ⟨ro, i2⟩, i3⟩ := obAll_of F ht
  cases (show v = Value.ref a from rx)
  obtain ⟨sl, od, _, J, _⟩ := SlX.slt_inst I hs
  obtain ⟨m, hF⟩ := I.fr
  have fin : wpAny (model X.prog X.w) X.A (call (.ref g) [.ref a, u]) (PySem.W.CmpBack (EP X pins σ Q)) X.xe s := by
    refine wpAny_mono (wpAny_call (run_fnR (us := [.ref a, u]) (vs := [.ref a, y]) Fn hr hx I (.cons rfl (.cons ry .nil)) q)) (fun w s' z => ?_) fun _ _ x => x
    obtain ⟨z', H', I', rz, qz⟩ := z
    exact SlX.cmpback rz ⟨z', H', I', rz, qz⟩
  rcases hy with ⟨b, dy, ws, rfl, hb⟩ | ⟨i, rfl⟩
  · cases (show u = Value.ref b from ry)
    obtain ⟨sl', od', _, J', _⟩ := SlX.slt_inst I hb
    exact PySem.W.binop_K hF I.ok.mod.kin J J'.type sf f1 f2 fin
  · obtain ⟨t, rfl⟩ := (show ∃ t, u = Value.int i t from ry)
    exact PySem.W.ksp_binT (T := "int") hF I.ok.mod.kin J rfl sf f1 f2 rc (.inl rfl) i1 i2 i3 fin
theorem b_own {op : Operator} {tab : MTab} {g0 : D → D → M D} (F : ObAll k X op tab) (hx : Passes (L2.CX X.prog X.w) X E) (h0 : BinD k X E (binaryOp op) g0) : BinD k X E (binaryOp op) (ownB tab g0) := by
  obtain ⟨r0, h1, h2⟩ := h0
  refine ⟨_, OpR.or h1 (op_OB F hx), fun x y dx dy G H L μ Q rx ry w g => ?_⟩
  unfold ownB at g
  cases hc : clsD dx μ with
  | none =>
    simp only [hc] at g
    exact .inl (h2 x y dx dy G H L μ Q rx ry w g)
  | some c =>
    simp only [hc] at g
    cases ht : tab.lookup c with
    | none => simp only [ht] at g; exact False.elim g
    | some p =>
      simp only [ht] at g
      by_cases ho : argOk c dy μ = true
      · rw [if_pos ho] at g
        obtain ⟨hl, g⟩ := good_ite g
        obtain ⟨a, dx', vs, rfl, hs⟩ := slt_of rx w hc
        refine .inr ⟨a, c, dx', vs, p.1, p.2, rfl, hs, ht, ?_, [dx, dy], G, L, μ, .cons rx (.cons ry .nil), hl, w, g⟩
        cases dy with
        | int i => cases ry; exact .inr ⟨i, rfl⟩
        | _ =>
          obtain ⟨b, dy', ws, rfl, hb⟩ := slt_of ry w (of_decide_eq_true ho)
          exact .inl ⟨b, dy', ws, rfl, hb⟩
      · rw [if_neg ho] at g
        exact False.elim g
/-! ### -x -/
def ownU (tab : MTab) (g0 : D → M D) (x : D) : M D := fun m => match clsD x m with
  | some c => match tab.lookup c with
    | some p => callN p.1 p.2 [x] m
    | none => .bad
  | none => g0 x m
def Ou1 (k : Kx) (X : Cx) (nm : Str) (c n : Nat) (den : List D → M D) : Prop := ∃ g lvl, PySem.W.findIn X.K (.ref (k.cl c)) nm = some (some (.ref g)) ∧ PySem.W.isFn X.K (.ref g) = true ∧ FnDn k X lvl g n den ∧ Room lvl X.A
def OuAll (k : Kx) (X : Cx) (nm : Str) : MTab → Prop
  | [] => True
  | p :: r => Ou1 k X nm p.1 p.2.1 p.2.2 ∧ OuAll k X nm r
theorem ouAll_of {nm : Str} {c : Nat} {q : Nat × (List D → M D)} : ∀ {tab : MTab}, OuAll k X nm tab → tab.lookup c = some q → Ou1 k X nm c q.1 q.2
  | [], _, h => by cases h
  | p :: r, F, h => by
    rw [List.lookup_cons] at h
    by_cases hc : c == p.1
    · rw [hc] at h
      cases h
      rw [beq_iff_eq.mp hc]
      exact F.1
    · rw [Bool.eq_false_iff.mpr hc] at h
      exact ouAll_of F.2 h
def rOU (k : Kx) (K : PySem.W.Frag) (E : XK) (tab : MTab) : V → Hp → VK → Prop := fun x H Q => ∃ a c dx vs n den, x = .ref a ∧ SlX.Slt H a (k.cl c) dx vs ∧ tab.lookup c = some (n, den) ∧ spD k K n den [x] H Q E
theorem UnR.or {f : Value → Sem Value} {r r' : V → Hp → VK → Prop} (h : UnR X f r) (h' : UnR X f r') : UnR X f (fun x H Q => r x H Q ∨ r' x H Q) := by
  intro pins s σ H x v Q I rx q
  rcases q with q | q
  · exact h pins s σ H x v Q I rx q
  · exact h' pins s σ H x v Q I rx q
theorem un_OU {tab : MTab} (F : OuAll k X "__neg__" tab) (hx : Passes (L2.CX X.prog X.w) X E) : UnR X (unaryOp .USub) (rOU k X.K E tab) := by
  intro pins s σ H x v Q I rx h
  obtain ⟨a, c, dx, vs, n, den, rfl, hs, ht, q⟩ := h
  obtain ⟨g, lvl, f1, f2, Fn, hr⟩ := ouAll_of F ht
  cases (show v = Value.ref a from rx)
  obtain ⟨sl, od, _, J, _⟩ := SlX.slt_inst I hs
  obtain ⟨m, hF⟩ := I.fr
  exact PySem.W.ksp_neg hF I.ok.mod.kin J f1 f2 (wpAny_call (run_fnR (us := [.ref a]) (vs := [.ref a]) Fn hr hx I (.cons rfl .nil) q))
theorem u_own {tab : MTab} {g0 : D → M D} (F : OuAll k X "__neg__" tab) (hx : Passes (L2.CX X.prog X.w) X E) (h0 : MonD k X E (unaryOp .USub) g0) : MonD k X E (unaryOp .USub) (ownU tab g0) := by
  obtain ⟨r0, h1, h2⟩ := h0
  refine ⟨_, UnR.or h1 (un_OU F hx), fun x dx G H L μ Q rx w g => ?_⟩
  unfold ownU at g
  cases hc : clsD dx μ with
  | none =>
    simp only [hc] at g
    exact .inl (h2 x dx G H L μ Q rx w g)
  | some c =>
    simp only [hc] at g
    cases ht : tab.lookup c with
    | none => simp only [ht] at g; exact False.elim g
    | some p =>
      simp only [ht] at g
      obtain ⟨hl, g⟩ := good_ite g
      obtain ⟨a, dx', vs, rfl, hs⟩ := slt_of rx w hc
      exact .inr ⟨a, c, dx', vs, p.1, p.2, rfl, hs, ht, [dx], G, L, μ, .cons rx .nil, hl, w, g⟩
/-! ### ==, != by an own __eq__ -/
/-- the kinds of the other side: built-in ones, or the law's classes cs -/
structure Oe1 (k : Kx) (X : Cx) (cs : List Nat) (c n : Nat) (den : List D → M D) : Prop where
  ex : ∃ g lvl, PySem.W.findIn X.K (.ref (k.cl c)) "__eq__" = some (some (.ref g)) ∧ PySem.W.isFn X.K (.ref g) = true ∧ FnDn k X lvl g n den ∧ Room (lvl + 1) X.A
  ne : PySem.W.findIn X.K (.ref (k.cl c)) "__ne__" = some (some (.builtin "object.__ne__"))
  mo : PySem.W.mroIn X.K (k.cl c) (.type "object") = some true
  nb : ∀ kd, (∀ c, kd ≠ .obj c) → PySem.W.notFirst X.K (k.cl c) (.type (nmK kd)) = true
  no : ∀ c' ∈ cs, PySem.W.notFirst X.K (k.cl c) (.ref (k.cl c')) = true
def OeAll (k : Kx) (X : Cx) (cs : List Nat) : MTab → Prop
  | [] => True
  | p :: r => Oe1 k X cs p.1 p.2.1 p.2.2 ∧ OeAll k X cs r
theorem oeAll_of {cs : List Nat} {c : Nat} {q : Nat × (List D → M D)} : ∀ {tab : MTab}, OeAll k X cs tab → tab.lookup c = some q → Oe1 k X cs c q.1 q.2
  | [], _, h => by cases h
  | p :: r, F, h => by
    rw [List.lookup_cons] at h
    by_cases hc : c == p.1
    · rw [hc] at h
      cases h
      rw [beq_iff_eq.mp hc]
      exact F.1
    · rw [Bool.eq_false_iff.mpr hc] at h
      exact oeAll_of F.2 h
def rOE (k : Kx) (K : PySem.W.Frag) (E : XK) (cs : List Nat) (tab : MTab) (neg : Bool) : R2 := fun x y H Q => ∃ a c dx vs n den, x = .ref a ∧ SlX.Slt H a (k.cl c) dx vs ∧ tab.lookup c = some (n, den) ∧
  ((∃ kd, (∀ c, kd ≠ .obj c) ∧ TyX K H y (.type (nmK kd))) ∨ ∃ c' b dy ws, c' ∈ cs ∧ y = .ref b ∧ SlX.Slt H b (k.cl c') dy ws) ∧ spD k K n den [x, y] H (fun z H' => if neg = true then ∃ b, z = .bl b ∧ Q (.bl (!b)) H' else Q z H') E
theorem cmp_ne_K {prog : Program} {w : World} {A : Around} {E : Value → Shared → Prop} {s : Shared} {K : PySem.W.Frag} {x C L f : Addr} {h₀ : Heap} {m : Str → Option Value} {ox : Obj} {od : Option Obj} {b tb : Value} {Q : Value → Shared → Prop} (hu : A.units + 1 < cLine) (Fx : Fr h₀ L s.heap m) (X₀ : K.In h₀) (I : PySem.W.InstAt s.heap x ox C od)
    (hb : PySem.W.Looks (model prog w) s.heap (typeOf b) tb) (hn : PySem.W.notFirst K C tb = true) (hne : PySem.W.findIn K (.ref C) "__ne__" = some (some (.builtin "object.__ne__"))) (hmo : PySem.W.mroIn K C (.type "object") = some true)
    (hs : PySem.W.findIn K (.ref C) "__eq__" = some (some (.ref f))) (hf : PySem.W.isFn K (.ref f) = true)
    (h : wpAny (model prog w) A.in1 (call (.ref f) [.ref x, b]) (fun v s' => ∃ r, v = .bool r ∧ Q (.bool (!r)) s') E s) : wpAny (model prog w) A (richCompare .NotEq (.ref x) b) Q E s := by
  have X := X₀.keeps Fx.keep
  have sub : PySem.W.Looks (model prog w) s.heap (isInstance (.ref x) (.type "object")) true := I.type.andThen (PySem.W.looks_mroIn X hmo)
  have ent : wpAny (model prog w) A.in1 (Builtin.«object.__ne__» ⟨[.ref x, b], []⟩) (fun fin s' => ∃ r, fin = .done (.ret (.bool r)) ∧ Q (.bool r) s') E s := by
    unfold Builtin.«object.__ne__»
    refine wpAny_bind (wpAny_of_eq (a := (.ref x, [b])) (by first | rfl | kernel_rfl) ?_)
    dsimp only
    refine wpAny_bind (wpAny_cRoomFor hu ?_)
    refine wpAny_bind (PySem.W.ifBound_K X I hs hf (wpAny_mono h (fun v s' hv => ?_) fun _ _ e => e))
    obtain ⟨r, rfl, hq⟩ := hv
    dsimp only
    exact wpAny_bind (wpAny_truthy_bool (wpAny_pure ⟨_, rfl, hq⟩))
  have cal : wpAny (model prog w) A (call (.builtin "object.__ne__") [.ref x, b]) (fun v s' => ∃ r, v = .bool r ∧ Q (.bool r) s') E s :=
    wpAny_call (codeAny_call_builtin F.cmp_object.ne.plain F.cmpEntry_ne (PySem.W.check_slot F.cmpKind_ne F.cmpSplit_ne sub (F.cmpArgs_ne _ _) (wpAny_mono ent (fun fin s' z => by obtain ⟨v, rfl, q⟩ := z; exact ⟨v, rfl, q⟩) fun _ _ e => e)))
  have spc : wpAny (model prog w) A (callSpecialIfBound? (.ref x) "__ne__" [b]) (fun v s' => ∃ r, v = some (.bool r) ∧ Q (.bool r) s') E s := by
    simp only [callSpecialIfBound?, bindSpecialIfBound?]
    refine wpAny_holding (wpAny_bind (wpAny_bind (wpAny_bind (I.type.here ((PySem.W.looks_findIn X hne).here ?_)))))
    refine wpAny_bind (wpAny_askSetting (wpAny_ite ?_))
    have fin : wpAny (model prog w) A (call (.builtin "object.__ne__") ([.ref x] ++ [b]) >>= fun v => pure (some v)) (fun v s' => ∃ r, v = some (.bool r) ∧ Q (.bool r) s') E s := wpAny_bind (wpAny_mono cal (fun v s' h' => wpAny_pure (by obtain ⟨r, rfl, q⟩ := h'; exact ⟨r, rfl, q⟩)) fun _ _ h' => h')
    split
    · exact wpAny_bind (wpAny_of_eq (F.cmp_object.ne.bind _) (wpAny_pure (by exact fin)))
    · exact wpAny_tryCatch (wpAny_bind (wpAny_of_eq (F.cmp_object.ne.bind _) (wpAny_pure (by exact fin))))
  have one : wpAny (model prog w) A (tryCompare (.ref x) (cmpInfo .NotEq).2.1 b) (fun r s' => ∃ v, r = some v ∧ Q v s') E s := by
    unfold tryCompare
    refine wpAny_bind (wpAny_mono spc (fun v s' hv => ?_) fun _ _ e => e)
    obtain ⟨r, rfl, hq⟩ := hv
    exact wpAny_pure ⟨_, rfl, hq⟩
  unfold richCompare
  simp only [oneThing_ref]
  refine wpAny_holding (wpAny_bind (wpAny_cRoomFor (Nat.lt_of_succ_lt hu) ?_))
  refine wpAny_bind (I.type.here (wpAny_bind (hb.here ?_)))
  split
  · rename_i q
    have e : PySem.W.subIn K tb (.ref C) = some false := by
      rcases Bool.or_eq_true_iff.mp hn with e | e
      · rw [beq_iff_eq.mp e] at q; simp at q
      · exact beq_iff_eq.mp e
    refine wpAny_bind ((PySem.W.looks_subIn X e).here ?_)
    simp only [Bool.false_eq_true, if_false]
    refine wpAny_bind (wpAny_mono one (fun r s' z => ?_) fun _ _ e => e)
    obtain ⟨v, rfl, hq⟩ := z
    exact wpAny_pure hq
  · refine wpAny_bind (wpAny_pure ?_)
    simp only [Bool.false_eq_true, if_false]
    refine wpAny_bind (wpAny_mono one (fun r s' z => ?_) fun _ _ e => e)
    obtain ⟨v, rfl, hq⟩ := z
    exact wpAny_pure hq
theorem rOE_ty {cs : List Nat} {C : Addr} {H : Hp} {pins : List (Addr × Obj)} {σ : L2.St} {s : Shared} {y : V} {u : Value} (I : L2.Inv X pins σ H s) (ry : L2.RelV y u) (nb : ∀ kd, (∀ c, kd ≠ .obj c) → PySem.W.notFirst X.K C (.type (nmK kd)) = true)
    (no : ∀ c' ∈ cs, PySem.W.notFirst X.K C (.ref (k.cl c')) = true) (h : (∃ kd, (∀ c, kd ≠ .obj c) ∧ TyX X.K H y (.type (nmK kd))) ∨ ∃ c' b dy ws, c' ∈ cs ∧ y = .ref b ∧ SlX.Slt H b (k.cl c') dy ws) :
    ∃ tb, PySem.W.Looks (model X.prog X.w) s.heap (typeOf u) tb ∧ PySem.W.notFirst X.K C tb = true := by
  rcases h with ⟨kd, n, t⟩ | ⟨c', b, dy, ws, hc, rfl, hs⟩
  · obtain ⟨P, kx, hp, _⟩ := kit_of I ry t
    exact ⟨_, kx.ty _ _ I.kIn hp, nb kd n⟩
  · cases (show u = Value.ref b from ry)
    obtain ⟨sl, od, _, J, _⟩ := SlX.slt_inst I hs
    exact ⟨_, J.type, no c' hc⟩
theorem op_OE {cs : List Nat} {tab : MTab} (F : OeAll k X cs tab) (hx : Passes (L2.CX X.prog X.w) X E) (hu : X.A.units + 64 < cLine) : OpR X (compareOp .Eq) (rOE k X.K E cs tab false) := by
  intro pins s σ H x y v u Q I rx ry h
  obtain ⟨a, c, dx, vs, n, den, rfl, hs, ht, hy, q⟩ := h
  obtain ⟨⟨g, lvl, f1, f2, Fn, hr⟩, ne, mo, nb, no⟩ := oeAll_of F ht
  cases (show v = Value.ref a from rx)
  obtain ⟨tb, hb, hn⟩ := rOE_ty I ry nb no hy
  obtain ⟨sl, od, _, J, _⟩ := SlX.slt_inst I hs
  obtain ⟨m, hF⟩ := I.fr
  refine PySem.W.cmp_K (op := .Eq) (Nat.lt_of_le_of_lt (Nat.le_add_right _ _) hu) hF I.ok.mod.kin J hb hn f1 f2 ?_
  refine wpAny_mono (wpAny_call (run_fnR (us := [.ref a, u]) (vs := [.ref a, y]) Fn (Room.mono hr (Nat.le_succ _)) hx I (.cons rfl (.cons ry .nil)) q)) (fun w s' z => ?_) fun _ _ x => x
  obtain ⟨z', H', I', rz, qz⟩ := z
  exact SlX.cmpback rz ⟨z', H', I', rz, qz⟩
theorem op_ONE {cs : List Nat} {tab : MTab} (F : OeAll k X cs tab) (hx : Passes (L2.CX X.prog X.w) X E) (hu : X.A.units + 64 < cLine) : OpR X (compareOp .NotEq) (rOE k X.K E cs tab true) := by
  intro pins s σ H x y v u Q I rx ry h
  obtain ⟨a, c, dx, vs, n, den, rfl, hs, ht, hy, q⟩ := h
  obtain ⟨⟨g, lvl, f1, f2, Fn, hr⟩, ne, mo, nb, no⟩ := oeAll_of F ht
  cases (show v = Value.ref a from rx)
  obtain ⟨tb, hb, hn⟩ := rOE_ty I ry nb no hy
  obtain ⟨sl, od, _, J, _⟩ := SlX.slt_inst I hs
  obtain ⟨m, hF⟩ := I.fr
  refine cmp_ne_K (Nat.lt_of_le_of_lt (Nat.add_le_add_left (by decide) _) hu) hF I.ok.mod.kin J hb hn ne mo f1 f2 ?_
  refine wpAny_mono (wpAny_call (SlX.run_at (us := [.ref a, u]) (ws := [.ref a, y]) Fn hr.in1 I.env0.in1 hx I (.cons rfl (.cons ry .nil)) q)) (fun w s' z => ?_) fun _ _ x => x
  obtain ⟨z', H', I', rz, b, rfl, qz⟩ := z
  cases (show w = Value.bool b from rz)
  exact ⟨b, rfl, .bl (!b), H', I', rfl, qz⟩
def flipD : Bool → D → M D
  | false, d => pure d
  | true, .bl b => pure (.bl (!b))
  | true, _ => fun _ => .bad
def ownE (cs : List Nat) (tab : MTab) (neg : Bool) (g0 : D → D → M D) (x y : D) : M D := fun m => match clsD x m with
  | some c => match tab.lookup c with
    | some p => match kindOf cs y m with
      | some _ => (callN p.1 p.2 [x, y] >>= flipD neg) m
      | none => .bad
    | none => .bad
  | none => g0 x y m
theorem ownE_op {cs : List Nat} {tab : MTab} {neg : Bool} {g0 : D → D → M D} {op : CmpOp} {r0 : R2} (h1 : OpR X (compareOp op) (rOE k X.K E cs tab neg)) (o0 : OpR X (compareOp op) r0) (h2 : OpD k X.K E r0 g0) : BinD k X E (compareOp op) (ownE cs tab neg g0) := by
  refine ⟨_, OpR.or o0 h1, fun x y dx dy G H L μ Q rx ry w g => ?_⟩
  unfold ownE at g
  cases hc : clsD dx μ with
  | none =>
    simp only [hc] at g
    exact .inl (h2 x y dx dy G H L μ Q rx ry w g)
  | some c =>
    simp only [hc] at g
    cases ht : tab.lookup c with
    | none => simp only [ht] at g; exact False.elim g
    | some p =>
      simp only [ht] at g
      cases hk : kindOf cs dy μ with
      | none => simp only [hk] at g; exact False.elim g
      | some kd =>
        simp only [hk] at g
        obtain ⟨a, dx', vs, rfl, hs⟩ := slt_of rx w hc
        have g1 := Good.bind g
        obtain ⟨hl, g2⟩ := good_ite g1
        refine .inr ⟨a, c, dx', vs, p.1, p.2, rfl, hs, ht, ?_, [dx, dy], G, L, μ, .cons rx (.cons ry .nil), hl, w, ?_⟩
        · by_cases no : ∀ c, kd ≠ .obj c
          · exact .inl ⟨kd, no, tyx_of ry w hk no⟩
          · have no' : ∃ c, kd = .obj c := by
              cases kd with
              | obj c => exact ⟨c, rfl⟩
              | _ => exact absurd (fun c z => nomatch z) no
            obtain ⟨cc, rfl⟩ := no'
            cases dy with
            | obj c' ds =>
              simp only [kindOf] at hk
              by_cases hcs : c' ∈ cs
              · rw [if_pos hcs] at hk
                cases hk
                cases ry with
                | @obj _ b dy' ws _ hs' ha => exact .inr ⟨cc, b, dy', _, hcs, rfl, slt_mono w.ext hs'⟩
              · rw [if_neg hcs] at hk
                cases hk
            | loc n =>
              simp only [kindOf] at hk
              cases hm : μ[n]? with
              | none => rw [hm] at hk; cases hk
              | some o =>
                cases o with
                | none => rw [hm] at hk; cases hk
                | some c' => cases c' <;> (rw [hm] at hk; cases hk)
            | _ => cases hk
        · refine Good.mono g2 fun d1 m1 G1 H1 L1 st1 w1 q1 z rz => ?_
          cases neg with
          | false => exact Good.okE q1 w1 z rz
          | true =>
            cases d1 with
            | bl b => cases rz; exact ⟨b, rfl, Good.okE q1 w1 _ (.bl _)⟩
            | _ => exact False.elim q1
theorem b_eqO {cs : List Nat} {tab : MTab} (F : OeAll k X cs tab) (hx : Passes (L2.CX X.prog X.w) X E) (hu : X.A.units + 64 < cLine) : BinD k X E (compareOp .Eq) (ownE cs tab false eqD) := by
  obtain ⟨r, h1, h2⟩ := b_eq (k := k) (E := E) hu
  exact ownE_op (op_OE F hx hu) h1 h2
theorem b_neO {cs : List Nat} {tab : MTab} (F : OeAll k X cs tab) (hx : Passes (L2.CX X.prog X.w) X E) (hu : X.A.units + 64 < cLine) : BinD k X E (compareOp .NotEq) (ownE cs tab true neD) := by
  obtain ⟨r, h1, h2⟩ := b_ne (k := k) (E := E) hu
  exact ownE_op (op_ONE F hx hu) h1 h2
end
end DL

namespace DL
open PySem L2 PyProof.Rows

section
variable {k : Kx} {X : Cx} {E : XK}
/-! ### a, b = x, y -/
def sParA (i j : Nat) (as : DEnv → M (List D)) : DEnv → M Out := fun e => do
  let ds ← as e
  match ds with
  | [x, y] => pure (.nx ((e.set i (some x)).set j (some y)))
  | _ => M.bad
theorem js_par (i j : Nat) {x y : Str} {a b : Expr} {ms : DEnv → M (List D)} {px py pt pos : Pos} {kt k2 pt2} (hc : X.calm = true) (hN : X.N.Nodup) (hi : X.N[i]? = some x) (hj : X.N[j]? = some y) (hij : i ≠ j)
    (hx : X.env.scope.names.lookup x = some .local) (hy : X.env.scope.names.lookup y = some .local) (ha : JA k X E [a, b] ms)
    (hw : swappedStores [.Tuple [.Name x px, .Name y py] kt pt] (.Tuple [a, b] k2 pt2) X.env = pure (some [x, y]))
    (hs : swapsWithSole [.Tuple [.Name x px, .Name y py] kt pt] (.Tuple [a, b] k2 pt2) pos.line X.env = pure false := by rfl) :
    JS k X E (.Assign [.Tuple [.Name x px, .Name y py] kt pt] (.Tuple [a, b] k2 pt2) pos) (sParA i j ms) := by
  refine PS.imp (ps_par hc hN hi hj hij hx hy ha hw hs) fun Ds s H h => ?_
  obtain ⟨e, G, L, μ, sg, w, gd⟩ := h
  refine ⟨e, G, L, μ, sg, w, Good.mono (Good.bind gd) fun ds m1 G1 H1 L1 st1 w1 q1 vs r => ?_⟩
  match ds, r, q1 with
  | [dx, dy], .cons r1 (.cons r2 .nil), q1 => exact ⟨_, _, rfl, Good.ret q1 w1 _ (((sg.mono st1.g st1.l).set i r1).set j r2)⟩
  | [], _, q1 => exact False.elim q1
  | [_], _, q1 => exact False.elim q1
  | _ :: _ :: _ :: _, _, q1 => exact False.elim q1
/-! ### what is never reached -/
def sBad : DEnv → M Out := fun _ => M.bad
def eBad : DEnv → M D := fun _ => M.bad
theorem js_bad {s : Stmt} : JS k X E s sBad := ⟨fun pins s σ H D I h => by
  obtain ⟨e, G, L, μ, sg, w, gd⟩ := h
  exact False.elim gd⟩
theorem jb_bad {s : List Stmt} : JB k X E s sBad := ⟨fun pins s σ H D I h => by
  obtain ⟨e, G, L, μ, sg, w, gd⟩ := h
  exact False.elim gd⟩
theorem j_bad {s : Expr} : JE k X E s eBad := ⟨fun pins s σ H D I h => by
  obtain ⟨e, G, L, μ, sg, w, gd⟩ := h
  exact False.elim gd⟩
/-! ### an instance called -/
def objM (c : Nat) : D → M Unit
  | .obj c' _ => if c' = c then pure () else M.bad
  | _ => M.bad
def eCallO (c n : Nat) (den : List D → M D) (o : DEnv → M D) (as : DEnv → M (List D)) : DEnv → M D := fun e => do
  let x ← o e
  objM c x
  let ds ← as e
  callN n den (x :: ds)
theorem objM_good {β : Type} {d : D} {c : Nat} {f : Unit → M β} {G H : Hp} {L : Lam} {μ : Store} {Q : β → Store → Hp → Hp → Lam → Prop} (g : Good k X.K E G H L ((objM c d >>= f) μ) Q) : ∃ ds, d = .obj c ds ∧ Good k X.K E G H L (f () μ) Q := by
  cases d with
  | obj c' ds =>
    unfold objM at g
    by_cases h : c' = c
    · subst h
      simp only [if_true] at g
      exact ⟨ds, rfl, g⟩
    · simp only [h, if_false] at g
      exact False.elim g
  | _ => exact False.elim g
theorem j_callO {fe a : Expr} {es : List Expr} {mo : DEnv → M D} {ms : DEnv → M (List D)} {pos : Pos} {c n lvl : Nat} {g : Addr} {den : List D → M D} (hf : JE k X E fe mo) (cc : StX.CallO X.K (k.cl c) g) (F : FnDn k X lvl g n den) (hr : Room lvl X.A) (hx : Passes (L2.CX X.prog X.w) X E) (ha : JA k X E (a :: es) ms)
    (ht : eval (.Call fe (a :: es) [] pos) X.env = (do callWith pos (← eval fe X.env) [] (backTo pos (starEach (a :: es) X.env)) (backToKw pos (keywordEach [] X.env))) := by rfl)
    (he : starEach (a :: es) X.env = (false, eval a X.env) :: starEach es X.env := by rfl) (hpl : (backTo pos (starEach es X.env)).any (·.1) = false := by rfl) : JE k X E (.Call fe (a :: es) [] pos) (eCallO c n den mo ms) := by
  refine PE.imp (StX.pe_callO hf cc F hr hx ha ht he hpl) fun s H Q h => ?_
  obtain ⟨e, G, L, μ, sg, w, gd⟩ := h
  refine ⟨e, G, L, μ, sg, w, Good.mono (Good.bind gd) fun d m1 G1 H1 L1 st1 w1 q1 x r => ?_⟩
  obtain ⟨xs, rfl, q1⟩ := objM_good q1
  obtain ⟨a, dx, vs, rfl, hs⟩ := slt_of r w1 rfl
  refine ⟨a, rfl, e, G1, L1, m1, sg.mono st1.g st1.l, w1, Good.mono (Good.bind q1) fun ds m2 G2 H2 L2 st2 w2 q2 ws rw' => ?_⟩
  obtain ⟨hl, q2⟩ := good_ite q2
  have r2 := Rp.mono st2.g st2.l _ _ r
  obtain ⟨a', dx', vs', e2, hs2⟩ := slt_of r2 w2 rfl
  cases e2
  exact ⟨.inl ⟨_, _, hs2⟩, _ :: ds, G2, L2, m2, .cons r2 rw', hl, w2, q2⟩
/-! ### C.m(e, ..), m a classmethod -/
def eCM (c n : Nat) (den : List D → M D) (as : DEnv → M (List D)) : DEnv → M D := eCallB (fun ds => callN n den (.cls c :: ds)) as
theorem j_cmeth {x m : Str} {p apos pos : Pos} {a : Expr} {es : List Expr} {ms : DEnv → M (List D)} {lvl c n : Nat} {pr g : Addr} {mc : Value} {den : List D → M D} {pl : Sem Bool} (r : ClX.CRead X.K (k.cl c) mc) (cm : ClX.CMet X.K (k.cl c) mc m pr g) (F : FnDn k X lvl g n den) (hr : Room lvl X.A) (hx : Passes (L2.CX X.prog X.w) X E) (hg : Gl X x) (hm : X.mg x = some (.ref (k.cl c)))
    (ha : JA k X E (a :: es) ms) (hdb : (x == ("__debug__" : Str)) = false := by decide) (hst : starEach (a :: es) X.env = (false, eval a X.env) :: starEach es X.env := by rfl) (hpl : (backTo pos (starEach es X.env)).any (·.1) = false := by rfl)
    (ht : eval (.Call (.Attribute (.Name x p) m apos) (a :: es) [] pos) X.env = (do
      let ov ← eval (.Name x p) X.env
      standAt apos.atName
      let (f, first) ← holding [ov] (getMethod ov m pl)
      callWith pos f first (backTo pos (starEach (a :: es) X.env)) (backToKw pos (keywordEach [] X.env))) := by rfl) :
    JE k X E (.Call (.Attribute (.Name x p) m apos) (a :: es) [] pos) (eCM c n den ms) := by
  refine PE.imp (ClX.pe_cmeth (pe_glob (v := .ref (k.cl c)) hg hm rfl hdb) r cm F hr hx ha hst hpl ht) fun s H Q h => ?_
  obtain ⟨e, G, L, μ, sg, w, gd⟩ := h
  refine ⟨rfl, e, G, L, μ, sg, w, Good.mono (Good.bind gd) fun ds m1 G1 H1 L1 st1 w1 q1 vs r => ?_⟩
  obtain ⟨hl, q2⟩ := good_ite q1
  exact ⟨.cls c :: ds, G1, L1, m1, .cons (.cls c) r, hl, w1, q2⟩
/-! ### a class at hand called -/
def clsIs (c : Nat) : D → M Unit
  | .cls c' => if c' = c then pure () else M.bad
  | _ => M.bad
def eMkV (c n : Nat) (den : List D → M D) (f : DEnv → M D) (as : DEnv → M (List D)) : DEnv → M D := fun e => do
  let x ← f e
  clsIs c x
  let ds ← as e
  makeD c n den ds
theorem clsIs_good {β : Type} {d : D} {c : Nat} {f : Unit → M β} {G H : Hp} {L : Lam} {μ : Store} {Q : β → Store → Hp → Hp → Lam → Prop} (g : Good k X.K E G H L ((clsIs c d >>= f) μ) Q) : d = .cls c ∧ Good k X.K E G H L (f () μ) Q := by
  cases d with
  | cls c' =>
    unfold clsIs at g
    by_cases h : c' = c
    · subst h
      simp only [if_true] at g
      exact ⟨rfl, g⟩
    · simp only [h, if_false] at g
      exact False.elim g
  | _ => exact False.elim g
theorem j_mkV {fe a : Expr} {es : List Expr} {mo : DEnv → M D} {ms : DEnv → M (List D)} {pos : Pos} {c n lvl : Nat} {f : Addr} {den : List D → M D} (hf : JE k X E fe mo) (Mc : Mk X.K (k.cl c) f) (F : FnDn k X lvl f n den) (hr : Room (lvl + 1) X.A) (hx : Passes (L2.CX X.prog X.w) X E) (ha : JA k X E (a :: es) ms)
    (ht : eval (.Call fe (a :: es) [] pos) X.env = (do callWith pos (← eval fe X.env) [] (backTo pos (starEach (a :: es) X.env)) (backToKw pos (keywordEach [] X.env))) := by rfl)
    (he : starEach (a :: es) X.env = (false, eval a X.env) :: starEach es X.env := by rfl) (hpl : (backTo pos (starEach es X.env)).any (·.1) = false := by rfl) : JE k X E (.Call fe (a :: es) [] pos) (eMkV c n den mo ms) := by
  refine ⟨fun pins s σ H Q I h => ?_⟩
  obtain ⟨e, G, L, μ, sg, w, gd⟩ := h
  have h' : dE k X.K E mo σ H fun x H1 => x = .ref (k.cl c) ∧ dA k X.K E ms σ H1 fun vs H2 => StX.tMakeR (k.cl c) (spD k X.K n den) E (fun _ H Q => Q vs H) σ H2 Q := by
    refine ⟨e, G, L, μ, sg, w, Good.mono (Good.bind gd) fun d m1 G1 H1 L1 st1 w1 q1 x r => ?_⟩
    obtain ⟨rfl, q3⟩ := clsIs_good q1
    cases r
    exact ⟨rfl, e, G1, L1, m1, sg.mono st1.g st1.l, w1, Good.mono (Good.bind q3) fun ds m2 G2 H2 L2 st2 w2 q2 vs rv => make_good rv w2 q2⟩
  refine Call_ (thn (hf.run pins s σ H _ I h') fun u s1 ⟨y, H1, I1, ry, ey, q⟩ => ?_) ht
  subst ey
  obtain rfl : u = Value.ref (k.cl c) := ry
  refine PySem.W.callWith_K (h₀ := X.base) I1.ok.mod.kin Mc.kp (thn (ha.run pos pins s1 σ H1 _ I1 q) fun us s2 ⟨vs, H2, I2, r, q2⟩ => ⟨I2.kIn, ?_⟩) he hpl
  exact StX.run_makeR Mc F hr hx I2 r q2
end
end DL

namespace DL
open PySem L2 PyProof.Rows

/-! ### zip of a list and a tuple: the kinds told by a Bool (true: a list) -/
def KI : Bool → Heap → Addr → Addr → Nat → Prop
  | true, h, a, l, i => h.IsListIter a l i
  | false, h, a, l, i => h.IsTupleIter a l i
def KQ : Bool → Heap → Addr → Array Value → Prop
  | true, h, a, xs => h.IsList a xs
  | false, h, a, xs => h.IsTuple a xs
def kiN : Bool → String
  | true => "list_iterator"
  | false => "tuple_iterator"
theorem KI.ex {b : Bool} {h : Heap} {a l : Addr} {i : Nat} (x : KI b h a l i) : ∃ o, h.get? a = some o ∧ o.cls = .type (kiN b) ∧ o.data = .fields #[.ref l, .int i 0] := by cases b <;> exact x
theorem KI.of {b : Bool} {h : Heap} {a l : Addr} {i : Nat} (x : ∃ o, h.get? a = some o ∧ o.cls = .type (kiN b) ∧ o.data = .fields #[.ref l, .int i 0]) : KI b h a l i := by cases b <;> exact x
theorem KI.at {b : Bool} {h h' : Heap} {a l : Addr} {i : Nat} (x : KI b h a l i) (e : ∀ o, h.get? a = some o → h'.get? a = some o) : KI b h' a l i := let ⟨o, ho, r⟩ := x.ex; .of ⟨o, e _ ho, r⟩
theorem KI.but {b : Bool} {h h' : Heap} {a c l : Addr} {i : Nat} (x : KI b h a l i) (hs : Heap.ExtBut c h h') (n : a ≠ c) : KI b h' a l i := x.at fun o e => hs a o n e
theorem KI.lt {b : Bool} {h : Heap} {a l : Addr} {i : Nat} (x : KI b h a l i) : a < h.objs.size := let ⟨_, e, _⟩ := x.ex; Heap.lt_size e
theorem KQ.but {b : Bool} {h h' : Heap} {a c : Addr} {xs : Array Value} (x : KQ b h a xs) (hs : Heap.ExtBut c h h') (n : a ≠ c) : KQ b h' a xs := by
  cases b
  · exact Heap.IsTuple.extBut x hs n
  · exact Heap.IsList.extBut x hs n
theorem KQ.push {b : Bool} {h : Heap} {a : Addr} {xs : Array Value} (x : KQ b h a xs) (o : Obj) : KQ b (h.push o) a xs := by
  cases b
  · exact Heap.IsTuple.push x o
  · exact Heap.IsList.push x o
section
variable {prog : Program} {w : World} {A : Around} {E : Value → Shared → Prop} {s : Shared}
theorem nextK_item {b : Bool} {it l : Addr} {i : Nat} {items : Array Value} {x : Value} {Q : Value → Shared → Prop} (hit : KI b s.heap it l i) (hl : KQ b s.heap l items) (hx : items[i]? = some x)
    (hQ : ∀ h', KI b h' it l (i + 1) → Heap.SameBut it s.heap h' → Q x { s with heap := h' }) : wpAny (model prog w) A (Builtin.SmallTypes.nextOf (.ref it)) Q E s := by
  cases b
  · exact RZ.nextOf_tuple_item hit hl hx hQ
  · exact wpAny_nextOf_list_item hit hl hx hQ
theorem nextK_end {b : Bool} {it l : Addr} {i : Nat} {items : Array Value} {Q : Value → Shared → Prop} (hh : A.handled = none) (hit : KI b s.heap it l i) (hl : KQ b s.heap l items) (hx : items[i]? = none)
    (hE : ∀ h' e, Heap.ExtBut it s.heap h' → (∃ o, h'.get? e = some o ∧ o.cls = .type "StopIteration") → E (.ref e) { s with heap := h' }) : wpAny (model prog w) A (Builtin.SmallTypes.nextOf (.ref it)) Q E s := by
  cases b
  · exact RZ.nextOf_tuple_end hh hit hl hx hE
  · exact wpAny_nextOf_list_end hh hit hl hx hE
theorem iterK {b : Bool} {l : Addr} {items : Array Value} {Q : Value → Shared → Prop} (hl : KQ b s.heap l items) (hQ : Q (.ref s.heap.objs.size) { s with heap := s.heap.push { cls := .type (kiN b), data := .fields #[.ref l, .int 0 0] } }) :
    wpAny (model prog w) A (pyIter (.ref l)) Q E s := by
  cases b
  · exact wpAny_pyIter_tuple hl hQ
  · exact wpAny_pyIter_list hl hQ
variable {b1 b2 : Bool}
theorem zipK_item {z TI TO i1 i2 l1 l2 : Addr} {k1 k2 : Nat} {xs ys : Array Value} {x y a b : Value} {Q : Value → Shared → Prop} (D : ZipApart z TI TO i1 i2 l1 l2)
    (hz : IsZip s.heap z TI TO .none) (hTI : IsPair s.heap TI (.ref i1) (.ref i2)) (hTO : IsPair s.heap TO a b)
    (h1 : KI b1 s.heap i1 l1 k1) (h2 : KI b2 s.heap i2 l2 k2) (hl1 : KQ b1 s.heap l1 xs) (hl2 : KQ b2 s.heap l2 ys) (hx : xs[k1]? = some x) (hy : ys[k2]? = some y)
    (hQ : ∀ h', IsZip h' z TI TO (rawInt s.heap.objs.size) → IsPair h' TO x y → KI b1 h' i1 l1 (k1 + 1) → KI b2 h' i2 l2 (k2 + 1) → IsPair h' s.heap.objs.size x y → h'.objs.size = s.heap.objs.size + 1 →
      (∀ c o, c ≠ z → c ≠ TO → c ≠ i1 → c ≠ i2 → s.heap.get? c = some o → h'.get? c = some o) → Q (.ref s.heap.objs.size) { s with heap := h' }) :
    wpAny (model prog w) A (Builtin.«zip.__next__» ⟨[.ref z], []⟩) (fun fin s' => ∃ v, fin = .done (.ret v) ∧ Q v s') E s := by
  show wpAny _ _ (field (.ref z) 2 >>= _) _ _ _
  refine wpAny_bind (wpAny_field hz rfl (x := .bool false) rfl ?_)
  show wpAny _ _ (field (.ref z) 3 >>= _) _ _ _
  refine wpAny_bind (wpAny_field hz rfl (x := .ref TI) rfl (wpAny_bind (wpAny_seqItems hTI rfl ?_)))
  show wpAny _ _ (Builtin.SmallTypes.ownedTupleIsFree (.ref z) >>= _) _ _ _
  refine wpAny_bind ?_
  unfold Builtin.SmallTypes.ownedTupleIsFree
  refine wpAny_bind (wpAny_field hz rfl (x := .none) rfl (wpAny_pure ?_))
  simp only [if_true]
  refine wpAny_bind (wpAny_rule (wpAny_bind (wpAny_field hz rfl (x := .ref TO) rfl (wpAny_bind (wpAny_setField_rec hz (by simp) fun g1 z1 e1 => ?_)))))
  replace z1 : IsZip g1 z TI TO .ellipsis := z1
  refine wpAny_bind ?_
  simp only [List.zipIdx_cons, List.zipIdx_nil, List.forIn_cons, List.forIn_nil]
  refine wpAny_bind (wpAny_bind (wpAny_onRaise ?_))
  show wpAny _ _ (Builtin.SmallTypes.nextOf (.ref i1) >>= _) _ _ _
  refine wpAny_bind (nextK_item (h1.but e1.extBut D.i1z) (hl1.but e1.extBut D.l1z) hx fun g2 n2 e2 => wpAny_pure ?_)
  have t2 : IsPair g2 TO a b := e2.extBut _ _ D.TOi1 (e1.extBut _ _ D.TOz hTO)
  refine wpAny_bind (wpAny_seqItems t2 rfl (wpAny_bind (wpAny_updateSeq_pair t2 fun g3 t3 e3 => ?_)))
  replace t3 : IsPair g3 TO x b := t3
  refine wpAny_bind (wpAny_letGo (wpAny_pure (wpAny_bind (wpAny_bind (wpAny_onRaise ?_)))))
  show wpAny _ _ (Builtin.SmallTypes.nextOf (.ref i2) >>= _) _ _ _
  refine wpAny_bind (nextK_item (((h2.but e1.extBut D.i2z).but e2.extBut D.i12.symm).but e3.extBut D.TOi2.symm) (((hl2.but e1.extBut D.l2z).but e2.extBut D.l2i1).but e3.extBut D.l2TO) hy fun g4 n4 e4 => wpAny_pure ?_)
  have t4 : IsPair g4 TO x b := e4.extBut _ _ D.TOi2 t3
  refine wpAny_bind (wpAny_seqItems t4 rfl (wpAny_bind (wpAny_updateSeq_pair t4 fun g5 t5 e5 => ?_)))
  replace t5 : IsPair g5 TO x y := t5
  refine wpAny_bind (wpAny_letGo (wpAny_pure (wpAny_pure (wpAny_bind (wpAny_seqItems t5 rfl (wpAny_bind (wpAny_newTuple ?_)))))))
  have sz : g5.objs.size = s.heap.objs.size := by rw [e5.1, e4.1, e3.1, e2.1, e1.1]
  have z5 : IsZip g5 z TI TO .ellipsis := e5.extBut _ _ D.TOz.symm (e4.extBut _ _ D.i2z.symm (e3.extBut _ _ D.TOz.symm (e2.extBut _ _ D.i1z.symm z1)))
  have k5 : ∀ c o, c ≠ z → c ≠ TO → c ≠ i1 → c ≠ i2 → s.heap.get? c = some o → g5.get? c = some o := fun c o c1 c2 c3 c4 e => e5.extBut _ _ c2 (e4.extBut _ _ c4 (e3.extBut _ _ c2 (e2.extBut _ _ c3 (e1.extBut _ _ c1 e))))
  have m1 : KI b1 g5 i1 l1 (k1 + 1) := ((n2.but e3.extBut D.TOi1.symm).but e4.extBut D.i12).but e5.extBut D.TOi1.symm
  have m2 : KI b2 g5 i2 l2 (k2 + 1) := n4.but e5.extBut D.TOi2.symm
  have zl : z < g5.objs.size := Heap.lt_size z5
  show wpAny _ _ (Builtin.SmallTypes.ownedTupleHandOut (.ref z) (.ref g5.objs.size) >>= _) _ _ _
  refine wpAny_bind ?_
  unfold Builtin.SmallTypes.ownedTupleHandOut
  have z6 : IsZip (g5.push { cls := .type "tuple", data := .seq #[x, y] }) z TI TO .ellipsis := Heap.get?_push_of_some _ z5
  refine wpAny_bind (wpAny_setField_rec z6 (by simp) fun g7 z7 e7 => ?_)
  replace z7 : IsZip g7 z TI TO (rawInt g5.objs.size) := z7
  refine wpAny_setField_rec z7 (by simp) fun g8 z8 e8 => ?_
  replace z8 : IsZip g8 z TI TO (rawInt g5.objs.size) := z8
  have up : ∀ c o, c ≠ z → g5.get? c = some o → g8.get? c = some o := fun c o c1 e => e8.extBut _ _ c1 (e7.extBut _ _ c1 (Heap.get?_push_of_some _ e))
  have t8 : IsPair g8 g5.objs.size x y := e8.extBut _ _ (Nat.ne_of_gt zl) (e7.extBut _ _ (Nat.ne_of_gt zl) (Heap.get?_push_size _ rfl))
  have s8 : g8.objs.size = g5.objs.size + 1 := by rw [e8.1, e7.1, Heap.size_push]
  rw [sz] at z8 t8 s8
  refine wpAny_pure ⟨_, rfl, ?_⟩
  show Q (.ref g5.objs.size) _
  rw [sz]
  exact hQ g8 z8 (up _ _ D.TOz t5) (m1.at fun o e => up _ o D.i1z e) (m2.at fun o e => up _ o D.i2z e) t8 s8 fun c o c1 c2 c3 c4 e => up c o c1 (k5 c o c1 c2 c3 c4 e)
theorem zipK_end {z TI TO i1 i2 l1 l2 : Addr} {k1 k2 : Nat} {xs ys : Array Value} {a b : Value} {Q : Fin → Shared → Prop} (hh : A.handled = none) (D : ZipApart z TI TO i1 i2 l1 l2)
    (hz : IsZip s.heap z TI TO .none) (hTI : IsPair s.heap TI (.ref i1) (.ref i2)) (hTO : IsPair s.heap TO a b)
    (h1 : KI b1 s.heap i1 l1 k1) (h2 : KI b2 s.heap i2 l2 k2) (hl1 : KQ b1 s.heap l1 xs) (hl2 : KQ b2 s.heap l2 ys) (hend : xs[k1]? = none ∨ ys[k2]? = none)
    (hE : ∀ h' e, (∀ c o, c ≠ z → c ≠ TO → c ≠ i1 → c ≠ i2 → s.heap.get? c = some o → h'.get? c = some o) → (∃ o, h'.get? e = some o ∧ o.cls = .type "StopIteration") → E (.ref e) { s with heap := h' }) :
    wpAny (model prog w) A (Builtin.«zip.__next__» ⟨[.ref z], []⟩) Q E s := by
  show wpAny _ _ (field (.ref z) 2 >>= _) _ _ _
  refine wpAny_bind (wpAny_field hz rfl (x := .bool false) rfl ?_)
  show wpAny _ _ (field (.ref z) 3 >>= _) _ _ _
  refine wpAny_bind (wpAny_field hz rfl (x := .ref TI) rfl (wpAny_bind (wpAny_seqItems hTI rfl ?_)))
  show wpAny _ _ (Builtin.SmallTypes.ownedTupleIsFree (.ref z) >>= _) _ _ _
  refine wpAny_bind ?_
  unfold Builtin.SmallTypes.ownedTupleIsFree
  refine wpAny_bind (wpAny_field hz rfl (x := .none) rfl (wpAny_pure ?_))
  simp only [if_true]
  refine wpAny_bind (wpAny_rule (wpAny_bind (wpAny_field hz rfl (x := .ref TO) rfl (wpAny_bind (wpAny_setField_rec hz (by simp) fun g1 z1 e1 => ?_)))))
  replace z1 : IsZip g1 z TI TO .ellipsis := z1
  refine wpAny_bind ?_
  simp only [List.zipIdx_cons, List.zipIdx_nil, List.forIn_cons, List.forIn_nil]
  refine wpAny_bind (wpAny_bind (wpAny_onRaise ?_))
  show wpAny _ _ (Builtin.SmallTypes.nextOf (.ref i1) >>= _) _ _ _
  have ne : ∀ {h : Heap} {e : Addr} {o : Obj}, IsZip h z TI TO .ellipsis → h.get? e = some o → o.cls = .type "StopIteration" → e ≠ z := fun {h e o} hz' ho hc q => by
    subst q
    rw [hz'] at ho
    cases ho
    simp at hc
  cases hx : xs[k1]? with
  | none =>
    refine wpAny_bind (nextK_end hh (h1.but e1.extBut D.i1z) (hl1.but e1.extBut D.l1z) hx fun g2 e e2 he => ?_)
    obtain ⟨oe, hoe, hce⟩ := he
    have z2 : IsZip g2 z TI TO .ellipsis := e2 _ _ D.i1z.symm z1
    exact wpAny_setField_rec z2 (by simp) fun g3 _ e3 => hE g3 e (fun c o c1 _ c3 _ x => e3.extBut _ _ c1 (e2 _ _ c3 (e1.extBut _ _ c1 x))) ⟨oe, e3.extBut _ _ (ne z2 hoe hce) hoe, hce⟩
  | some x =>
    have hy : ys[k2]? = none := by
      rcases hend with h | h
      · rw [hx] at h; cases h
      · exact h
    refine wpAny_bind (nextK_item (h1.but e1.extBut D.i1z) (hl1.but e1.extBut D.l1z) hx fun g2 n2 e2 => wpAny_pure ?_)
    have t2 : IsPair g2 TO a b := e2.extBut _ _ D.TOi1 (e1.extBut _ _ D.TOz hTO)
    refine wpAny_bind (wpAny_seqItems t2 rfl (wpAny_bind (wpAny_updateSeq_pair t2 fun g3 t3 e3 => ?_)))
    refine wpAny_bind (wpAny_letGo (wpAny_pure (wpAny_bind (wpAny_bind (wpAny_onRaise ?_)))))
    show wpAny _ _ (Builtin.SmallTypes.nextOf (.ref i2) >>= _) _ _ _
    refine wpAny_bind (nextK_end hh (((h2.but e1.extBut D.i2z).but e2.extBut D.i12.symm).but e3.extBut D.TOi2.symm) (((hl2.but e1.extBut D.l2z).but e2.extBut D.l2i1).but e3.extBut D.l2TO) hy fun g4 e e4 he => ?_)
    obtain ⟨oe, hoe, hce⟩ := he
    have z4 : IsZip g4 z TI TO .ellipsis := e4 _ _ D.i2z.symm (e3.extBut _ _ D.TOz.symm (e2.extBut _ _ D.i1z.symm z1))
    exact wpAny_setField_rec z4 (by simp) fun g5 _ e5 => hE g5 e (fun c o c1 c2 c3 c4 x => e5.extBut _ _ c1 (e4 _ _ c4 (e3.extBut _ _ c2 (e2.extBut _ _ c3 (e1.extBut _ _ c1 x))))) ⟨oe, e5.extBut _ _ (ne z4 hoe hce) hoe, hce⟩
theorem pyNextK_item {z TI TO i1 i2 l1 l2 : Addr} {k1 k2 : Nat} {xs ys : Array Value} {x y a b : Value} {Q : Option Value → Shared → Prop} (D : ZipApart z TI TO i1 i2 l1 l2)
    (hz : IsZip s.heap z TI TO .none) (hTI : IsPair s.heap TI (.ref i1) (.ref i2)) (hTO : IsPair s.heap TO a b)
    (h1 : KI b1 s.heap i1 l1 k1) (h2 : KI b2 s.heap i2 l2 k2) (hl1 : KQ b1 s.heap l1 xs) (hl2 : KQ b2 s.heap l2 ys) (hx : xs[k1]? = some x) (hy : ys[k2]? = some y)
    (hQ : ∀ h', IsZip h' z TI TO (rawInt s.heap.objs.size) → IsPair h' TO x y → KI b1 h' i1 l1 (k1 + 1) → KI b2 h' i2 l2 (k2 + 1) → IsPair h' s.heap.objs.size x y → h'.objs.size = s.heap.objs.size + 1 →
      (∀ c o, c ≠ z → c ≠ TO → c ≠ i1 → c ≠ i2 → s.heap.get? c = some o → h'.get? c = some o) → Q (some (.ref s.heap.objs.size)) { s with heap := h' }) : wpAny (model prog w) A (pyNext (.ref z)) Q E s := by
  have hT : s.TypeIs (.ref z) "zip" := ⟨_, hz, rfl⟩
  unfold pyNext
  exact wpAny_bind (wpAny_attempt (wpAny_callSpecial?_slot (name := Str.ofString "__next__") hT F.slot_zip_next (wpAny_call_entry F.slot_zip_next hT F.entry_zip_next
    (zipK_item D hz hTI hTO h1 h2 hl1 hl2 hx hy fun h' a1 a2 a3 a4 a5 a6 a7 => wpAny_pure (hQ h' a1 a2 a3 a4 a5 a6 a7)) (F.args_zip_next_1 _))))
theorem pyNextK_end {z TI TO i1 i2 l1 l2 : Addr} {k1 k2 : Nat} {xs ys : Array Value} {a b : Value} {Q : Option Value → Shared → Prop} (hh : A.handled = none) (D : ZipApart z TI TO i1 i2 l1 l2)
    (hz : IsZip s.heap z TI TO .none) (hTI : IsPair s.heap TI (.ref i1) (.ref i2)) (hTO : IsPair s.heap TO a b)
    (h1 : KI b1 s.heap i1 l1 k1) (h2 : KI b2 s.heap i2 l2 k2) (hl1 : KQ b1 s.heap l1 xs) (hl2 : KQ b2 s.heap l2 ys) (hend : xs[k1]? = none ∨ ys[k2]? = none)
    (hQ : ∀ h', (∀ c o, c ≠ z → c ≠ TO → c ≠ i1 → c ≠ i2 → s.heap.get? c = some o → h'.get? c = some o) → Q none { s with heap := h' }) : wpAny (model prog w) A (pyNext (.ref z)) Q E s := by
  have hT : s.TypeIs (.ref z) "zip" := ⟨_, hz, rfl⟩
  unfold pyNext
  refine wpAny_bind (wpAny_attempt (wpAny_callSpecial?_slot (name := Str.ofString "__next__") hT F.slot_zip_next (wpAny_call_entry F.slot_zip_next hT F.entry_zip_next
    (zipK_end hh D hz hTI hTO h1 h2 hl1 hl2 hend fun h' e hk he => ?_) (F.args_zip_next_1 _))))
  obtain ⟨o, ho, hc⟩ := he
  exact wpAny_bind (wpAny_isInstance (T := "StopIteration") (b := true) ⟨o, ho, hc⟩ isSubtype_stop (wpAny_pure (hQ _ hk)))
end
abbrev zkH1 (b1 : Bool) (h : Heap) (l1 : Addr) : Heap := h.push { cls := .type (kiN b1), data := .fields #[.ref l1, .int 0 0] }
abbrev zkH2 (b1 b2 : Bool) (h : Heap) (l1 l2 : Addr) : Heap := (zkH1 b1 h l1).push { cls := .type (kiN b2), data := .fields #[.ref l2, .int 0 0] }
abbrev zkH3 (b1 b2 : Bool) (h : Heap) (l1 l2 : Addr) : Heap := (zkH2 b1 b2 h l1 l2).push { cls := .type "tuple", data := .seq #[.ref h.objs.size, .ref (zkH1 b1 h l1).objs.size] }
abbrev zkH4 (b1 b2 : Bool) (h : Heap) (l1 l2 : Addr) : Heap := (zkH3 b1 b2 h l1 l2).push { cls := .type "tuple", data := .seq #[.none, .none] }
abbrev zkH5 (b1 b2 : Bool) (h : Heap) (l1 l2 : Addr) : Heap := (zkH4 b1 b2 h l1 l2).push { cls := .type "zip", data := .fields #[.none, .bool false, .bool false, .ref (zkH2 b1 b2 h l1 l2).objs.size, .ref (zkH3 b1 b2 h l1 l2).objs.size] }
theorem meets_zipK (b1 b2 : Bool) (l1 l2 : Addr) (xs ys : Array Value) :
    Meets (Builtin.«zip.__new__» ⟨[.type "zip", .ref l1, .ref l2], []⟩) (fun _ R s => KQ b1 s.heap l1 xs ∧ KQ b2 s.heap l2 ys ∧ R (.ok (.ret (.ref (zkH4 b1 b2 s.heap l1 l2).objs.size))) { s with heap := zkH5 b1 b2 s.heap l1 l2 }) :=
  .of_wp fun prog w A R s h => by
    obtain ⟨hp, g, d, tk, os⟩ := s
    obtain ⟨hl1, hl2, h⟩ := h
    have hsub := sub_zip
    have hL1 : KQ b1 (Shared.heap ⟨hp, g, d, tk, os⟩) l1 xs := hl1
    have hL2 : KQ b2 (Shared.heap ⟨hp.push { cls := .type (kiN b1), data := .fields #[.ref l1, .int 0 0] }, g, d, tk, os⟩) l2 ys := KQ.push hl2 _
    wp_walk using iterK hL1, iterK hL2
    exact ⟨_, rfl, h⟩
theorem call_zipK {prog : Program} {w : World} {A : Around} {E : Value → Shared → Prop} {s : Shared} {b1 b2 : Bool} {l1 l2 : Addr} {xs ys : Array Value} {Q : Value → Shared → Prop} (hl1 : KQ b1 s.heap l1 xs) (hl2 : KQ b2 s.heap l2 ys)
    (h : ∀ h', IsZip h' (s.heap.objs.size + 4) (s.heap.objs.size + 2) (s.heap.objs.size + 3) .none → IsPair h' (s.heap.objs.size + 2) (.ref s.heap.objs.size) (.ref (s.heap.objs.size + 1)) →
      IsPair h' (s.heap.objs.size + 3) .none .none → KI b1 h' s.heap.objs.size l1 0 → KI b2 h' (s.heap.objs.size + 1) l2 0 → h'.objs.size = s.heap.objs.size + 5 →
      (∀ c o, s.heap.get? c = some o → h'.get? c = some o) → Q (.ref (s.heap.objs.size + 4)) { s with heap := h' }) : wpAny (model prog w) A (call (.type "zip") [.ref l1, .ref l2]) Q E s := by
  refine callType_new F.called_zip (by decide) (F.typeCall_zip_2 _ _) (F.newCall_zip_2 _ _) (fun obj => F.args_object_init_3 obj _ _) F.entry_zip_new (meets_zipK b1 b2 l1 l2 xs ys) ⟨hl1, hl2, ?_⟩
  have y1 : (zkH1 b1 s.heap l1).objs.size = s.heap.objs.size + 1 := Heap.size_push ..
  have y2 : (zkH2 b1 b2 s.heap l1 l2).objs.size = s.heap.objs.size + 2 := by rw [Heap.size_push, y1]
  have y3 : (zkH3 b1 b2 s.heap l1 l2).objs.size = s.heap.objs.size + 3 := by rw [Heap.size_push, y2]
  have y4 : (zkH4 b1 b2 s.heap l1 l2).objs.size = s.heap.objs.size + 4 := by rw [Heap.size_push, y3]
  have y5 : (zkH5 b1 b2 s.heap l1 l2).objs.size = s.heap.objs.size + 5 := by rw [Heap.size_push, y4]
  have p1 : ∀ {h : Heap} {o o' : Obj} {a : Addr}, h.get? a = some o → (h.push o').get? a = some o := fun e => Heap.get?_push_of_some _ e
  have g5 : (zkH5 b1 b2 s.heap l1 l2).get? (zkH4 b1 b2 s.heap l1 l2).objs.size = some _ := Heap.get?_push_size _ rfl
  have g4 : (zkH5 b1 b2 s.heap l1 l2).get? (zkH3 b1 b2 s.heap l1 l2).objs.size = some _ := p1 (Heap.get?_push_size _ rfl)
  have g3 : (zkH5 b1 b2 s.heap l1 l2).get? (zkH2 b1 b2 s.heap l1 l2).objs.size = some _ := p1 (p1 (Heap.get?_push_size _ rfl))
  have g2 : (zkH5 b1 b2 s.heap l1 l2).get? (zkH1 b1 s.heap l1).objs.size = some _ := p1 (p1 (p1 (Heap.get?_push_size _ rfl)))
  have g1 : (zkH5 b1 b2 s.heap l1 l2).get? s.heap.objs.size = some _ := p1 (p1 (p1 (p1 (Heap.get?_push_size _ rfl))))
  show _ ∧ _
  rw [y2, y3, y4] at g5
  rw [y1, y2] at g3
  rw [y3] at g4
  rw [y1] at g2
  rw [y4]
  exact ⟨⟨_, g5, rfl⟩, h _ g5 g3 g4 (.of ⟨_, g1, rfl, rfl⟩) (.of ⟨_, g2, rfl, rfl⟩) y5 fun c o x => p1 (p1 (p1 (p1 (p1 x))))⟩
end DL

namespace DL
open PySem L2 PyProof.Rows
def SqK (b : Bool) (K : PySem.W.Frag) (H : Hp) (a : Addr) (xs : List V) : Prop := if b = true then SqL K H a xs else SqT K H a xs
section
variable {X : Cx} {pins : List (Addr × Obj)} {σ : L2.St} {H : Hp} {s : Shared} {a : Addr} {xs ys : List V} {b : Bool}
theorem sqK_val (I : L2.Inv X pins σ H s) (h : SqK b X.K H a xs) : ∃ its : List Value, Vals xs its ∧ KQ b s.heap a its.toArray ∧ a < s.heap.objs.size := by
  cases b
  · obtain ⟨its, r, p, _⟩ := I.tuple h
    obtain ⟨o, ho, _⟩ := id p
    exact ⟨its, r, p, Heap.lt_size ho⟩
  · obtain ⟨its, r, p, _⟩ := I.list h
    exact ⟨its, r, p.isList, p.lt⟩
theorem sqK_inj (I : L2.Inv X pins σ H s) (h : SqK b X.K H a xs) (h' : SqK b X.K H a ys) : xs = ys := by
  cases b
  · exact I.tuple_inj h h'
  · exact I.list_inj h h'
end
def ItzK (b1 b2 : Bool) (K : PySem.W.Frag) (a b : Addr) : It :=
  ⟨fun i H => ∃ (xs ys : List V) (x y : V), SqK b1 K H a xs ∧ SqK b2 K H b ys ∧ xs[i]? = some x ∧ ys[i]? = some y,
    fun i H v H' => ∃ T x y, v = .ref T ∧ H T = none ∧ H' = upd H T (.tup [x, y]) ∧ (∀ xs, SqK b1 K H a xs → xs[i]? = some x) ∧ ∀ ys, SqK b2 K H b ys → ys[i]? = some y,
    fun i H => ∃ xs ys : List V, SqK b1 K H a xs ∧ SqK b2 K H b ys ∧ (xs.length ≤ i ∨ ys.length ≤ i)⟩
theorem turn_zipK {P : Program} {w : World} {K : PySem.W.Frag} {elts : List Expr} {kk : Nat} {tpos : Pos} {b1 b2 : Bool} {a b z TI TO i1 i2 : Addr} (D : ZipApart z TI TO i1 i2 a b) :
    Turn P w K (.Tuple elts kk tpos) (ItzK b1 b2 K a b) [z, TI, TO, i1, i2] z (fun i h => IsZip h z TI TO .none ∧ IsPair h TI (.ref i1) (.ref i2) ∧ (∃ x y, IsPair h TO x y) ∧ KI b1 h i1 a i ∧ KI b2 h i2 b i) where
  mem := by simp
  obj := fun i h st c hc => by
    obtain ⟨hz, hTI, ⟨x, y, hTO⟩, h1, h2⟩ := st
    obtain ⟨o1, e1, _, d1⟩ := h1.ex
    obtain ⟨o2, e2, _, d2⟩ := h2.ex
    have e' : c = z ∨ c = TI ∨ c = TO ∨ c = i1 ∨ c = i2 := by simpa using hc
    rcases e' with rfl | rfl | rfl | rfl | rfl
    · exact ⟨_, hz, fun v q => nomatch q⟩
    · exact ⟨_, hTI, fun v q => nomatch q⟩
    · exact ⟨_, hTO, fun v q => nomatch q⟩
    · exact ⟨o1, e1, fun v q => by rw [d1] at q; cases q⟩
    · exact ⟨o2, e2, fun v q => by rw [d2] at q; cases q⟩
  keep := fun i h h' st k => by
    obtain ⟨hz, hTI, ⟨x, y, hTO⟩, h1, h2⟩ := st
    exact ⟨k z (by simp) _ hz, k TI (by simp) _ hTI, ⟨x, y, k TO (by simp) _ hTO⟩, h1.at fun o q => k i1 (by simp) o q, h2.at fun o q => k i2 (by simp) o q⟩
  item := by
    intro X hP hw hK hc i pins s σ H E I hf st hg
    subst hP hw hK
    obtain ⟨hz, hTI, ⟨x0, y0, hTO⟩, h1, h2⟩ := st
    obtain ⟨xs, ys, x, y, hqx, hqy, hx, hy⟩ := hg
    obtain ⟨its, rv, p, _⟩ := sqK_val I hqx
    obtain ⟨its2, rv2, p2, _⟩ := sqK_val I hqy
    obtain ⟨u, hu, ru⟩ := rv.get hx
    obtain ⟨u2, hu2, ru2⟩ := rv2.get hy
    have hzl : z < s.heap.objs.size := Heap.lt_size hz
    have q1 := h1.lt
    have q2 := h2.lt
    refine pyNextK_item D hz hTI hTO h1 h2 p p2 (x := u) (y := u2) (by simpa using hu) (by simpa using hu2) fun h' z' TO' h1' h2' hT hsz hk => ?_
    refine ⟨_, rfl, wpAny_letOwnedTupleGo_zip (s := { s with heap := h' }) z' fun h'' z'' sb => ?_⟩
    have hT2 : h''.get? s.heap.objs.size = some { cls := .type "tuple", data := .seq #[u, u2] } := (sb.2 _ (Nat.ne_of_gt hzl)).trans hT
    have new : ObjOk X.prog X.w (upd H s.heap.objs.size (.tup [x, y])) h'' s.heap.objs.size (.tup [x, y]) := ⟨by show 2 ≤ sizeLine; decide, [u, u2], .cons ru (.cons ru2 .nil), ⟨_, hT2, rfl, _, rfl⟩⟩
    have I1 : L2.Inv X pins σ (upd H s.heap.objs.size (.tup [x, y])) { s with heap := h'' } :=
      I.turnedNew (t' := s.toks) (ch := [z, TI, TO, i1, i2]) (fun c o hb q => (sb.2 c (fun q' => hb (by simp [q']))).trans (hk c o (fun q' => hb (by simp [q'])) (fun q' => hb (by simp [q'])) (fun q' => hb (by simp [q'])) (fun q' => hb (by simp [q'])) q)) hf (Nat.le_refl _) new
    refine ⟨.ref s.heap.objs.size, _, I1, rfl, ⟨_, x, y, rfl, I.hok.fresh (Nat.le_refl _), rfl, fun l hl => by rw [sqK_inj I hl hqx]; exact hx, fun l hl => by rw [sqK_inj I hl hqy]; exact hy⟩, ⟨z'', ?_, ⟨u, u2, ?_⟩, ?_, ?_⟩, fun c hcm => ?_⟩
    · exact (sb.2 _ D.TIz).trans (hk _ _ D.TIz D.TITO D.TIi1 D.TIi2 hTI)
    · exact (sb.2 _ D.TOz).trans TO'
    · exact h1'.at fun o q => (sb.2 _ D.i1z).trans q
    · exact h2'.at fun o q => (sb.2 _ D.i2z).trans q
    · have hlt : c < s.heap.objs.size := by
        have e' : c = z ∨ c = TI ∨ c = TO ∨ c = i1 ∨ c = i2 := by simpa using hcm
        rcases e' with rfl | rfl | rfl | rfl | rfl
        · exact hzl
        · exact Heap.lt_size hTI
        · exact Heap.lt_size hTO
        · exact q1
        · exact q2
      rw [upd_ne (Nat.ne_of_lt hlt)]
      exact (hf c hcm).1
  done := by
    intro X hP hw hK hc i pins s σ H E I hf st hg
    subst hP hw hK
    obtain ⟨hz, hTI, ⟨x0, y0, hTO⟩, h1, h2⟩ := st
    obtain ⟨xs, ys, hqx, hqy, hend⟩ := hg
    obtain ⟨its, rv, p, _⟩ := sqK_val I hqx
    obtain ⟨its2, rv2, p2, _⟩ := sqK_val I hqy
    have l1 := rv.length
    have l2 := rv2.length
    have he : its.toArray[i]? = none ∨ its2.toArray[i]? = none := by
      rcases hend with q | q
      · exact .inl (by simp; omega)
      · exact .inr (by simp; omega)
    exact pyNextK_end (I.ok.hd hc) D hz hTI hTO h1 h2 p p2 he fun h' hk => ⟨rfl, I.turnedL (t' := s.toks) (ch := [z, TI, TO, i1, i2]) (fun c o hb q =>
      hk c o (fun q' => hb (by simp [q'])) (fun q' => hb (by simp [q'])) (fun q' => hb (by simp [q'])) (fun q' => hb (by simp [q'])) q) hf⟩
  self := fun A i s Q E st h => wpAny_pyIter_zip st.1 h
def iZipT (K : PySem.W.Frag) (ta : TA) : TI := fun σ H R => ta σ H fun vs H1 => ∃ b1 b2 a b xs ys, vs = [.ref a, .ref b] ∧ SqK b1 K H1 a xs ∧ SqK b2 K H1 b ys ∧ R (ItzK b1 b2 K a b) H1
theorem pi_zipK {X : Cx} {e e2 : Expr} {ta : TA} {p pos tpos : Pos} {elts : List Expr} {kk : Nat} (hg : Gl X "zip") (hm : X.mg "zip" = none) (ha : PA X [e, e2] ta)
    (hs : starEach [e, e2] X.env = (false, eval e X.env) :: starEach [e2] X.env := by rfl) (hpl : (backTo pos (starEach [e2] X.env)).any (·.1) = false := by rfl) :
    PI X (.Tuple elts kk tpos) (.Call (.Name "zip" p) [e, e2] [] pos) (iZipT X.K ta) := by
  refine ⟨fun pins s σ H R I h => ?_⟩
  refine Call_ (ld_blt I hg hm PyProof.Rows.boot_zip (PyProof.Rows.callWith_type1 (thn (ha.run pos pins s σ H _ I h) fun us s1 ⟨vs, H1, I1, r1, q1⟩ => ?_) hs hpl))
  obtain ⟨b1, b2, a, b, xs, ys, ex, hqx, hqy, q⟩ := q1
  subst ex
  cases r1 with
  | cons r rr =>
    cases rr with
    | cons r' rr =>
      cases rr
      cases r
      cases r'
      have fresh5 : ∀ c, c ∈ [s1.heap.objs.size + 4, s1.heap.objs.size + 2, s1.heap.objs.size + 3, s1.heap.objs.size, s1.heap.objs.size + 1] → FpOk X pins H1 c := fun c hcm => by
        have hle : s1.heap.objs.size ≤ c := by
          simp only [List.mem_cons, List.not_mem_nil, or_false] at hcm
          omega
        exact I1.fpOk hle (I1.hok.fresh hle)
      obtain ⟨its, rv, p1, lt1⟩ := sqK_val I1 hqx
      obtain ⟨its2, rv2, p2, lt2⟩ := sqK_val I1 hqy
      refine call_zipK p1 p2 fun h' hz hTI hTO h1 h2 hsz hk => wpAny_pyIter_zip hz ?_
      have I2 : L2.Inv X pins σ H1 { s1 with heap := h' } := I1.kept (t' := s1.toks) hk
      exact ⟨s1.heap.objs.size + 4, [s1.heap.objs.size + 4, s1.heap.objs.size + 2, s1.heap.objs.size + 3, s1.heap.objs.size, s1.heap.objs.size + 1], _, _, H1, rfl, I2, turn_zipK (PySem.W.ktu_apart s1.heap.objs.size a b lt1 lt2), ⟨hz, hTI, ⟨_, _, hTO⟩, h1, h2⟩, fresh5, q⟩
def iZip (a : DEnv → M (List D)) : DEnv → M Src := fun e => do
  let xs ← a e
  match xs with
    | [x, y] => (do let s ← srcD x; let t ← srcD y; pure ⟨zipT s.items t.items, s.gd ++ t.gd⟩)
    | _ => M.bad
section
variable {k : Kx} {X : Cx} {E : XK} {pos : Pos}
theorem stand_K {G : Hp} {L : Lam} {s : Src} {a : Addr} {b : Bool} (h : Stand k X.K G L s a b) : ∀ (G2 H2 : Hp) (L2 : Lam) (μ : Store), Same G G2 → L <+: L2 → Wd k X.K G2 H2 L2 μ → s.okB μ = true → ∃ vs, SqK b X.K H2 a vs ∧ RpA k X.K G2 L2 vs s.items := by
  cases b <;> exact h
theorem itzK_ok {G : Hp} {L : Lam} {s t : Src} {a b : Addr} {b1 b2 : Bool} (h1 : Stand k X.K G L s a b1) (h2 : Stand k X.K G L t b b2) : ItOk k X.K G L (ItzK b1 b2 X.K a b) ⟨zipT s.items t.items, s.gd ++ t.gd⟩ := by
  intro G2 H2 L2 μ ge le w ok i
  obtain ⟨o1, o2⟩ := okB_app ok
  obtain ⟨vs, hs, ra⟩ := stand_K h1 G2 H2 L2 μ ge le w o1
  obtain ⟨us, ht, rb⟩ := stand_K h2 G2 H2 L2 μ ge le w o2
  refine ⟨fun d hd => ?_, fun hl => ?_⟩
  · obtain ⟨dx, dy, e1, e2, rfl⟩ := zipT_get hd
    obtain ⟨v, hv, rv⟩ := ra.get e1
    obtain ⟨u, hu, ru⟩ := rb.get e2
    refine ⟨⟨vs, us, v, u, hs, ht, hv, hu⟩, fun x H3 y => ?_⟩
    obtain ⟨T, x', y', rfl, hT, rfl, q1, q2⟩ := y
    have z1 := q1 vs hs
    have z2 := q2 us ht
    rw [hv] at z1
    rw [hu] at z2
    cases z1
    cases z2
    exact two_new w hT rv ru
  · refine ⟨vs, us, hs, ht, ?_⟩
    rw [zipT_len] at hl
    rw [ra.len, rb.len]
    omega
theorem ji_zipK {a b : Expr} {ms : DEnv → M (List D)} {p tpos : Pos} {elts : List Expr} {kk : Nat} (hg : Gl X "zip") (hm : X.mg "zip" = none) (ha : JA k X E [a, b] ms)
    (hs : starEach [a, b] X.env = (false, eval a X.env) :: starEach [b] X.env := by rfl) (hpl : (backTo pos (starEach [b] X.env)).any (·.1) = false := by rfl) :
    JI k X E (.Tuple elts kk tpos) (.Call (.Name "zip" p) [a, b] [] pos) (iZip ms) := by
  refine PI.imp (pi_zipK hg hm ha hs hpl) fun s H R h => ?_
  obtain ⟨e, G, L, μ, sg, w, gd⟩ := h
  refine ⟨e, G, L, μ, sg, w, Good.mono (Good.bind gd) fun ds m1 G1 H1 L1 st1 w1 q1 vs r => ?_⟩
  match ds, r, q1 with
  | [], _, q1 => exact False.elim q1
  | [_], _, q1 => exact False.elim q1
  | [x, y], r, q1 =>
    obtain ⟨v, u, rfl, r1, r2⟩ := two_of (H := H1) r
    obtain ⟨a, s, rfl, ⟨va, hva⟩, sa, q1⟩ := src_atK (f := fun s => do let t ← srcD y; (pure ⟨zipT s.items t.items, s.gd ++ t.gd⟩ : M Src)) r1 w1 q1
    obtain ⟨b, t, rfl, ⟨vb, hvb⟩, sb, q1⟩ := src_atK (f := fun t => (pure ⟨zipT s.items t.items, s.gd ++ t.gd⟩ : M Src)) r2 w1 q1
    exact ⟨notTup x, notTup y, a, b, va, vb, rfl, hva, hvb, Good.ret q1 w1 _ (itzK_ok sa sb)⟩
  | _ :: _ :: _ :: _, _, q1 => exact False.elim q1
end
end DL

namespace DL
open PySem L2 PyProof.Rows

/-! ### what the printed texts use -/
/-- the module's name x stands for d -/
def GlD (k : Kx) (K : PySem.W.Frag) (mg : Str → Option Value) (x : Str) (d : D) : Prop := ∃ u v, mg x = some u ∧ RelV v u ∧ ∀ G L, Rp k K G L v d
theorem j_globD {k : Kx} {X : Cx} {E : XK} {x : Str} {d : D} {pos : Pos} (g : GlD k X.K X.mg x d) (hg : Gl X x) (hd : (x == ("__debug__" : Str)) = false := by decide) : JE k X E (.Name x pos) (eC d) := by
  obtain ⟨u, v, h1, h2, h3⟩ := g
  exact j_glob hg h1 h2 h3 hd
section
variable {k : Kx} {P : Program} {w : World} {K : PySem.W.Frag} {mg : Str → Option Value} {base : Heap}
theorem gl_int {x : Str} {i : Int} {t : Tok} (h : mg x = some (.int i t)) : GlD k K mg x (.int i) := ⟨_, .int i, h, ⟨t, rfl⟩, fun _ _ => .int i⟩
theorem gl_str {x y : Str} {t : Tok} (h : mg x = some (.str y t)) : GlD k K mg x (.str y) := ⟨_, .str y, h, ⟨t, rfl⟩, fun _ _ => .str y⟩
theorem rpa_ints {G : Hp} {L : Lam} : ∀ ns : List Int, RpA k K G L (ns.map V.int) (ns.map D.int)
  | [] => .nil
  | n :: r => .cons (.int n) (rpa_ints r)
def isIntV : Value → Option Int
  | .int i _ => some i
  | _ => none
theorem vals_ints : ∀ {us : List Value} {ns : List Int}, us.map isIntV = ns.map some → Vals (ns.map V.int) us
  | [], [], _ => .nil
  | [], _ :: _, h => by cases h
  | _ :: _, [], h => by cases h
  | u :: us, n :: ns, h => by
    simp only [List.map_cons, List.cons.injEq] at h
    refine .cons ?_ (vals_ints h.2)
    cases u with
    | int i t => exact ⟨t, by cases h.1; rfl⟩
    | _ => exact absurd h.1 (by simp [isIntV])
theorem gl_ints {x : Str} {a : Addr} {od : Option Addr} {its : Array Value} {n : Nat} {sl : Array (Option Value)} {ns : List Int} (h : mg x = some (.ref a)) (hk : K.lookup a = some ⟨.type "tuple", od, .seq its n, sl⟩) (hs : its.size ≤ sizeLine) (hv : its.toList.map isIntV = ns.map some) : GlD k K mg x (.tup (ns.map .int)) :=
  ⟨_, .ref a, h, rfl, fun G L => .tup (.inr ⟨_, its, n, hk, rfl, rfl, hs, vals_ints hv⟩) (rpa_ints ns)⟩
/-- a def of the text -/
structure FA (K : PySem.W.Frag) (x qual : Str) (st : Stmt) (ps : List Str) (f : Addr) : Prop where
  ex : ∃ fd, Fun K x qual st f fd ∧ Binds K fd ps []
theorem FA.kp {x qual : Str} {st : Stmt} {ps : List Str} {f : Addr} (F : FA K x qual st ps f) : PySem.W.keepIn K (.ref f) = true := let ⟨_, h, _⟩ := F.ex; h.kp
theorem fnr_ok {x qual : Str} {st : Stmt} {f : Addr} {N ps : List Str} {lvl : Nat} {m : DEnv → M Out} (F : FA K x qual st ps f) (S : FnScope N ps (defScope st))
    (hb : ∀ (cdv : Value) (A : Around) (outer : List Env) (s : Shared) (H : Hp) (E : XK), Room lvl (A.deeper (envOfC qual (defScope st) s.heap.objs.size f cdv)) → JB k (cxOf (L2.CX P w) P w K mg base N qual (defScope st) f cdv A outer s H E) E (defBody st) m) :
    FnR P w K mg base (L2.CX P w) (lvl + 1) f (spD k K ps.length (fnD N.length m)) := by
  obtain ⟨fd, h, b⟩ := F.ex
  refine FnR.imp ((fn_ok h S hb).raw b .nil) fun vs H Q E z => ?_
  rw [List.append_nil]
  exact z
theorem pass_def {N : List Str} {qual : Str} {sc : Scope} {f : Addr} {cdv : Value} {A : Around} {outer : List Env} {s : Shared} {H : Hp} {E : XK} : Passes (L2.CX P w) (cxOf (L2.CX P w) P w K mg base N qual sc f cdv A outer s H E) E :=
  passes_call (takes_of rfl rfl rfl rfl) (fun _ _ _ _ h => h)
theorem kd_all {p : Kd → Prop} (h1 : p .non) (h2 : p .bl) (h3 : p .int) (h4 : p .str) (h5 : p .lst) (h6 : p .tup) (h7 : p .dct) : ∀ kd, (∀ c, kd ≠ .obj c) → p kd
  | .non, _ => h1
  | .bl, _ => h2
  | .int, _ => h3
  | .str, _ => h4
  | .lst, _ => h5
  | .tup, _ => h6
  | .dct, _ => h7
  | .obj c, n => absurd rfl (n c)
theorem in_nil {p : Nat → Prop} : ∀ c ∈ ([] : List Nat), p c := fun _ h => nomatch h
theorem in_cons {p : Nat → Prop} {c : Nat} {r : List Nat} (h : p c) (hr : ∀ c ∈ r, p c) : ∀ x ∈ c :: r, p x := fun x hx => by
  rcases List.mem_cons.mp hx with q | q
  · rw [q]; exact h
  · exact hr x q
theorem hr_un65 {lvl : Nat} {A : Around} (r : Room lvl A) : A.units + 65 < cLine := by have := r.un; omega
def PrA (K : PySem.W.Frag) (C : Addr) (f : Str) (g : Addr) : Prop := ∃ p rest, PySem.W.findIn K (.ref C) f = some (some (.ref p)) ∧ PySem.W.specialIn K (.ref p) "__get__" = some (some (.builtin "property.__get__")) ∧
      PySem.W.takesIn K (.ref p) = some true ∧ PySem.W.recIn K p "property" = some (.ref g :: rest)
theorem prop_at {X : Cx} {f : Str} {c lvl : Nat} {g : Addr} {den : List D → M D} (h1 : SlX.SCls X.K (k.cl c)) (h2 : PrA X.K (k.cl c) f g) (h3 : FnDn k X lvl g 1 den) (h4 : Room (lvl + 1) X.A) : At1 k X f c (.prop den) :=
  let ⟨p, rest, a1, a2, a3, a4⟩ := h2
  ⟨h1, p, g, lvl, rest, a1, a2, a3, a4, h3, h4⟩
theorem kit_rt {C : Addr} {T : String} {b : Bool} (h : PySem.W.mroIn K C (.type T) = some b) (hm : PySem.W.kitMeta T = true) : PySem.W.kitOne K (.ref C) (.type T) = some b := by
  unfold PySem.W.kitOne
  rw [if_neg (by simp)]
  unfold PySem.W.kitCls
  simp only [hm, if_true]
  exact h
theorem kit_same {C : Addr} : PySem.W.kitOne K (.ref C) (.ref C) = some true := by
  unfold PySem.W.kitOne
  rw [if_pos (beq_self_eq_true _)]
theorem kit_to {C : Addr} {T : String} {b : Bool} (h : PySem.W.subIn K (.type T) (.ref C) = some b) (hc : PySem.W.isClsIn K C = true) (ht : PySem.W.typeIn K (.ref C) = some (.type "type")) : PySem.W.kitOne K (.type T) (.ref C) = some b := by
  unfold PySem.W.kitOne
  rw [if_neg (by simp)]
  unfold PySem.W.kitCls
  have hc' : (PySem.W.clsIn K C).isSome = true := hc
  simp only [hc', ht, beq_self_eq_true, Bool.and_self, if_true]
  exact h
theorem kit_no2 {C : Addr} (h1 : PySem.W.mroIn K C (.type "list") = some false) (h2 : PySem.W.mroIn K C (.type "tuple") = some false) : PySem.W.kitAny K (.ref C) [.type "list", .type "tuple"] = some false :=
  kitAny_cons (kit_rt h1 (by decide +kernel)) (fun _ => kitAny_cons (kit_rt h2 (by decide +kernel)) (fun _ => kitAny_nil) fun z => by cases z) fun z => by cases z
/-! ### the head -/
def spLaw (tb : List (Addr × Str)) (K : PySem.W.Frag) : Sp := fun vs H Q _ => ∃ (a : Addr) (ns : List Int), vs = [.ref a] ∧ SqL K H a (ns.map V.int) ∧ ns.length ≤ 63 ∧ LamX.Tabs tb H ∧ ∀ H', Q (.bl true) H'
/-- what is tracked, but for the tables -/
def offT (H : Hp) : Hp := fun a => match H a with
  | some (.tbl _) => none
  | o => o
theorem offT_nt {H : Hp} {a : Addr} {o : HO} (h : offT H a = some o) : H a = some o ∧ NT o := by
  unfold offT at h
  split at h
  · cases h
  · rename_i q
    exact ⟨h, fun ps e => q ps (by rw [h, e])⟩
theorem offT_of {H : Hp} {a : Addr} {o : HO} (h : H a = some o) (n : NT o) : offT H a = some o := by
  unfold offT
  split
  · rename_i ps q
    rw [h] at q
    exact absurd (Option.some.inj q) (n ps)
  · exact h
theorem offT_seq {H : Hp} {a : Addr} {xs : List V} (h : SqL K H a xs) : SqL K (offT H) a xs := by
  rcases h with (h | ⟨o, h⟩) | h
  · exact .inl (.inl (offT_of h fun ps e => by cases e))
  · exact .inl (.inr ⟨o, offT_of h fun ps e => by cases e⟩)
  · exact .inr h
theorem law_imp {den : List D → M D} (h : ∀ ns : List Int, ns.length ≤ 63 → ∃ m', den [.lst (ns.map .int)] [] = .ok (.bl true) m') (vs : List V) (H : Hp) (Q : VK) (E : XK) (z : spLaw k.tb K vs H Q E) : spD k K 1 den vs H Q E := by
  obtain ⟨a, ns, rfl, hs, hl, ht, q⟩ := z
  refine ⟨[.lst (ns.map .int)], offT H, [], [], .cons (.lst (offT_seq hs) (rpa_ints ns)) .nil, rfl, ⟨fun a o e => (offT_nt e).1, rfl, fun p hp => (by simp at hp), ht, fun a o e => (offT_nt e).2, fun n c e => by simp at e, fun i j a b a' b' li => by obtain ⟨c, hc⟩ := li; simp at hc⟩, ?_⟩
  obtain ⟨m', h'⟩ := h ns hl
  rw [h']
  intro G' H' L' st w v r
  cases r
  exact q H'
theorem cx_no {w : World} {H : Hp} {s : Shared} {e : Value} {s' : Shared} (h : L2.CX P w [] H s (fun _ _ _ => False) e s') : False := by
  obtain ⟨_, _, _, _, _, _, _, _, _, _, _, _, z⟩ := h
  exact z
theorem frag_mem {a : Addr} {o : Obj} : ∀ {l : PySem.W.Frag}, l.lookup a = some o → (a, o) ∈ l := fun {l} => by
  induction l with
  | nil => intro h; cases h
  | cons p l ih =>
    obtain ⟨b, u⟩ := p
    intro h
    by_cases e : a = b
    · subst e
      simp [List.lookup] at h
      subst h
      exact List.mem_cons_self
    · have e' : (a == b) = false := by simpa using e
      simp only [List.lookup, e'] at h
      exact List.mem_cons_of_mem _ (ih h)
/-- a table of code objects that holds none -/
def tab0 : Obj → Bool
  | ⟨.none, none, .fields vs, sl⟩ => vs.isEmpty && sl.isEmpty
  | _ => false
/-- where a def of the top stands, its code object and its table -/
structure MkT (mg : Str → Option Value) (h : Heap) (x : Str) (f c P : Addr) : Prop where
  at_ : mg x = some (.ref f)
  fn : ∃ o fd, h.get? f = some o ∧ o.data = .func fd ∧ fd.code = .ref c
  hd : PySem.W.CodeHd h c P
  tb : h.get? P = some { cls := .none, data := .fields #[] }
theorem mkT_of {q : Program} {loose : List Str} {mean : ExcName → Option Value} {mg mb : Str → Option Value} {h : Heap} (T : Top q loose mean mg mb h) {x : Str} (hx : ((recsOf q).any fun r => r.name == x) = true) : ∃ f c P, MkT mg h x f c P := by
  obtain ⟨r, hr, hn⟩ := List.any_eq_true.mp hx
  obtain rfl : r.name = x := beq_iff_eq.mp hn
  obtain ⟨f, o, fd, c, P, e1, e2, e3, e4, e5, e6⟩ := T.tab r hr
  exact ⟨f, c, P, e1, ⟨o, fd, e2, e3, e4⟩, .of e5 e6, e6.2⟩
/-- the end: ms are the defs that make lambdas -/
theorem law_walk {l : PySem.W.OpenLaw} {q : Program} {loose : List Str} {XP : (Str → Option Value) → Heap → Prop} {YP : World → Heap → Prop} {d : DefRec} {K : Params → PySem.W.Frag} {lvl : Nat} {x : Str} (hn : l.most = some 63) (hdf : d.params.defaults = []) (hr : Room lvl callerA)
    (hY : ∀ (w : World) (h : Heap), YP w h → (K w.params).In h) (ms : List Str) (hms : ms.all (fun x => (recsOf q).any fun r => r.name == x) = true) (hnt : ∀ w : World, (K w.params).all (fun p => !tab0 p.2) = true)
    (F : ∀ (w : World) (mg : Str → Option Value) (fa : Addr) (h : Heap), (K w.params).In h → h.Ns mainGlobals mg → mg d.name = some (.ref fa) → ∀ cs : List (Addr × Addr × Addr), cs.length = ms.length → (∀ (i : Nat) (x : Str) (p : Addr × Addr × Addr), ms[i]? = some x → cs[i]? = some p → MkT mg h x p.1 p.2.1 p.2.2) →
      ∃ (fd : FuncData) (tb : List (Addr × Str)), (∀ p ∈ tb, ∃ r ∈ cs, r.2.2 = p.1) ∧ (∀ (s : Shared) (u : Value), BindsTo s fd ⟨[u], []⟩ [(x, u)]) ∧ ∀ base : Heap, (K w.params).In base → base.Ns mainGlobals mg → (∀ r ∈ cs, LamX.TabB base mg r.2.1 r.2.2) → FnOk l.prog w (K w.params) mg base (L2.CX l.prog w) lvl fa fd [x] (spLaw tb (K w.params))) :
    PySem.W.WalkO q loose XP YP l.row.toRowW d [] (fun f vs => PySem.call f vs) := by
  refine Att.attach_callB hn hdf fun w s0 s1 mg mb fa o pm cd doc a vs ns G Y _ _ _ hmg hobj hints hlen _ hgen => ?_
  have inK := hY w _ Y
  have pick : ∀ l : List Str, l.all (fun x => (recsOf q).any fun r => r.name == x) = true → ∃ cs : List (Addr × Addr × Addr), cs.length = l.length ∧ ∀ (i : Nat) (x : Str) (p : Addr × Addr × Addr), l[i]? = some x → cs[i]? = some p → MkT mg s1.heap x p.1 p.2.1 p.2.2 := by
    intro l
    induction l with
    | nil => exact fun _ => ⟨[], rfl, fun i x p e => by simp at e⟩
    | cons y l ih =>
      intro hl
      simp only [List.all_cons, Bool.and_eq_true] at hl
      obtain ⟨cs, h1, h2⟩ := ih hl.2
      obtain ⟨f, c, P, m⟩ := mkT_of G.T hl.1
      refine ⟨(f, c, P) :: cs, by simp [h1], fun i x p e1 e2 => ?_⟩
      cases i with
      | zero =>
        simp at e1 e2
        subst e1 e2
        exact m
      | succ i => exact h2 i x p (by simpa using e1) (by simpa using e2)
  obtain ⟨cs, hcl, hcs⟩ := pick ms hms
  obtain ⟨fd, tb, htb, hb, hF⟩ := F w mg fa _ inK G.T.g hmg cs hcl hcs
  have each : ∀ r ∈ cs, ∃ x, MkT mg s1.heap x r.1 r.2.1 r.2.2 := fun r hr => by
    obtain ⟨i, hi⟩ := List.mem_iff_getElem?.mp hr
    have hlt := (List.getElem?_eq_some_iff.mp hi).1
    exact ⟨_, hcs i _ r (List.getElem?_eq_getElem (by omega)) hi⟩
  have noK : ∀ P : Addr, s1.heap.get? P = some { cls := .none, data := .fields #[] } → (K w.params).lookup P = none := fun P e => by
    cases hk : (K w.params).lookup P with
    | none => rfl
    | some o =>
      have e2 := inK P o hk
      rw [e] at e2
      cases e2
      have hm := List.all_eq_true.mp (hnt w) (P, _) (frag_mem hk)
      exact absurd (show (!tab0 { cls := .none, data := .fields #[] }) = true from hm) (by decide)
  refine LamX.law_callTs (cs := cs.map fun r => (r.2.1, r.2.2)) inK G.T.g G.T.b G.T.builtins G.T.nolimit hgen (fun p hp => ?_) (fun p hp => ?_) (fun p hp => ?_) G.T.bmain hobj hints (Nat.le_trans hlen (by decide)) hr (fun base k1 k2 k3 => hF base k1 k2 fun r hr => k3 _ (List.mem_map.mpr ⟨r, hr, rfl⟩)) hb (fun H hH hS => ?_) fun H e s' z => cx_no z
  · obtain ⟨r, hr, rfl⟩ := List.mem_map.mp hp
    exact (each r hr).elim fun _ m => m.tb
  · obtain ⟨r, hr, rfl⟩ := List.mem_map.mp hp
    exact (each r hr).elim fun _ m => noK _ m.tb
  · obtain ⟨r, hr, rfl⟩ := List.mem_map.mp hp
    exact (each r hr).elim fun _ m => m.hd
  · refine ⟨a, ns, rfl, hS, hlen, fun p hp => ?_, fun _ => rfl⟩
    obtain ⟨r, hr, e⟩ := htb p hp
    exact LamX.TabS.nil (by rw [← e]; exact hH _ (List.mem_map.mpr ⟨r, hr, rfl⟩))
end
end DL

namespace DL
open PySem L2

/-! ### reading the denotations -/
def Res.thn {α β : Type} (r : Res α) (f : α → Store → Res β) : Res β := match r with
  | .ok a m => f a m
  | .exn c fs m => .exn c fs m
  | .bad => .bad
section
variable {α β : Type}
@[simp] theorem thn_ok (a : α) (m : Store) (f : α → Store → Res β) : (Res.ok a m).thn f = f a m := (rfl)
@[simp] theorem thn_bad (f : α → Store → Res β) : (Res.bad : Res α).thn f = .bad := (rfl)
@[simp] theorem bind_ap (x : M α) (f : α → M β) (m : Store) : (x >>= f) m = (x m).thn fun a m1 => f a m1 := by
  show M.bind x f m = _
  unfold M.bind Res.thn
  cases x m <;> rfl
@[simp] theorem pure_ap (a : α) (m : Store) : (pure a : M α) m = .ok a m := (rfl)
@[simp] theorem bad_ap (m : Store) : (M.bad : M α) m = .bad := (rfl)
@[simp] theorem ite_ap {c : Prop} [Decidable c] (x y : M α) (m : Store) : (if c then x else y) m = if c then x m else y m := by split <;> rfl
variable (e : DEnv) (m : Store)
@[simp] theorem eVar_ap (i : Nat) : eVar i e m = getv i e m := (rfl)
@[simp] theorem getv_some {i : Nat} {d : D} {e : DEnv} (h : e[i]? = some (some d)) : getv i e m = .ok d m := by
  unfold getv
  rw [h]
  rfl
@[simp] theorem eC_ap (d : D) : eC d e m = .ok d m := (rfl)
@[simp] theorem eOp_ap (g : D → D → M D) (a b : DEnv → M D) : eOp g a b e m = (a e m).thn fun x m1 => (b e m1).thn fun y m2 => g x y m2 := by simp [eOp]
@[simp] theorem eUn_ap (g : D → M D) (a : DEnv → M D) : eUn g a e m = (a e m).thn fun x m1 => g x m1 := by simp [eUn]
@[simp] theorem asB_bl (b : Bool) : asB (.bl b) m = .ok b m := (rfl)
@[simp] theorem eIf_ap (t : DEnv → M Bool) (a b : DEnv → M D) : eIf t a b e m = (t e m).thn fun c m1 => if c then a e m1 else b e m1 := by simp [eIf]
@[simp] theorem eAnd_ap (a b : DEnv → M D) : eAnd a b e m = (a e m).thn fun x m1 => (asB x m1).thn fun c m2 => if c then b e m2 else .ok (.bl false) m2 := by simp [eAnd]
@[simp] theorem eOr_ap (a b : DEnv → M D) : eOr a b e m = (a e m).thn fun x m1 => (asB x m1).thn fun c m2 => if c then .ok (.bl true) m2 else b e m2 := by simp [eOr]
@[simp] theorem eNot_ap (a : DEnv → M D) : eNot a e m = (a e m).thn fun x m1 => (asB x m1).thn fun c m2 => .ok (.bl (!c)) m2 := by simp [eNot]
@[simp] theorem eChain_ap (g g' : D → D → M D) (a b c : DEnv → M D) : eChain g g' a b c e m = (a e m).thn fun x m1 => (b e m1).thn fun y m2 => (g x y m2).thn fun r m3 => (asB r m3).thn fun c1 m4 => if c1 then (c e m4).thn fun z m5 => g' y z m5 else .ok (.bl false) m4 := by simp [eChain]
@[simp] theorem tB_ap (a : DEnv → M D) : tB' a e m = (a e m).thn fun x m1 => asB x m1 := by simp [tB']
@[simp] theorem tAnd_ap (t u : DEnv → M Bool) : tAndD t u e m = (t e m).thn fun c m1 => if c then u e m1 else .ok false m1 := by simp [tAndD]
@[simp] theorem tOr_ap (t u : DEnv → M Bool) : tOrD t u e m = (t e m).thn fun c m1 => if c then .ok true m1 else u e m1 := by simp [tOrD]
@[simp] theorem tNot_ap (t : DEnv → M Bool) : tNotD t e m = (t e m).thn fun c m1 => .ok (!c) m1 := by simp [tNotD]
@[simp] theorem aNil_ap : aNil e m = .ok [] m := (rfl)
@[simp] theorem aCons_ap (a : DEnv → M D) (r : DEnv → M (List D)) : aCons a r e m = (a e m).thn fun x m1 => (r e m1).thn fun xs m2 => .ok (x :: xs) m2 := by simp [aCons]
@[simp] theorem eCallB_ap (g : List D → M D) (as : DEnv → M (List D)) : eCallB g as e m = (as e m).thn fun xs m1 => g xs m1 := by simp [eCallB]
@[simp] theorem eTup_ap (as : DEnv → M (List D)) : eTup as e m = (as e m).thn fun xs m1 => mkT xs m1 := by simp [eTup]
@[simp] theorem eLst_ap (as : DEnv → M (List D)) : eLst as e m = (as e m).thn fun xs m1 => mkL xs m1 := by simp [eLst]
@[simp] theorem eLstM_ap (as : DEnv → M (List D)) : eLstM as e m = (as e m).thn fun xs m1 => newM xs m1 := by simp [eLstM]
@[simp] theorem mkT_ap (ds : List D) : mkT ds m = if ds.length ≤ 100000 then .ok (.tup ds) m else .bad := by simp [mkT]
@[simp] theorem mkL_ap (ds : List D) : mkL ds m = if ds.length ≤ 100000 then .ok (.lst ds) m else .bad := by simp [mkL]
@[simp] theorem seq_lst (ds : List D) : seqD (.lst ds) m = .ok ds m := (rfl)
@[simp] theorem seq_tup (ds : List D) : seqD (.tup ds) m = .ok ds m := (rfl)
theorem seq_loc {n : Nat} {ds : List D} {m : Store} (h : m[n]? = some (some (.lst ds))) : seqD (.loc n) m = .ok ds m := by simp [seqD, h]
@[simp] theorem src_lst (ds : List D) : srcD (.lst ds) m = .ok ⟨ds, []⟩ m := (rfl)
@[simp] theorem src_tup (ds : List D) : srcD (.tup ds) m = .ok ⟨ds, []⟩ m := (rfl)
@[simp] theorem chk_nil (ds : List D) : chk ⟨ds, []⟩ m = .ok () m := (rfl)
@[simp] theorem tYes_ap : tYesD e m = .ok true m := (rfl)
-- statements
@[simp] theorem sNil_ap : sNil e m = .ok (.nx e) m := (rfl)
@[simp] theorem andThen_nx (s : DEnv → M Out) : andThen (.nx e) s m = s e m := (rfl)
@[simp] theorem andThen_rt (d : D) (s : DEnv → M Out) : andThen (.rt d) s m = .ok (.rt d) m := (rfl)
@[simp] theorem sSeq_ap (s t : DEnv → M Out) : sSeq s t e m = (s e m).thn fun o m1 => andThen o t m1 := by simp [sSeq]
@[simp] theorem sSet_ap (i : Nat) (a : DEnv → M D) : sSet i a e m = (a e m).thn fun x m1 => .ok (.nx (e.set i (some x))) m1 := by simp [sSet]
@[simp] theorem sAsg_ap (a : DEnv → M D) (g : D → DEnv → M DEnv) : sAsg a g e m = (a e m).thn fun x m1 => (g x e m1).thn fun e2 m2 => .ok (.nx e2) m2 := by simp [sAsg]
@[simp] theorem sIf_ap (t : DEnv → M Bool) (s u : DEnv → M Out) : sIf t s u e m = (t e m).thn fun c m1 => if c then s e m1 else u e m1 := by simp [sIf]
@[simp] theorem sRet_ap (a : DEnv → M D) : sRet a e m = (a e m).thn fun x m1 => .ok (.rt x) m1 := by simp [sRet]
@[simp] theorem sExpr_ap (a : DEnv → M D) : sExpr a e m = (a e m).thn fun x m1 => .ok (.nx e) m1 := by simp [sExpr]
@[simp] theorem sBad_ap : sBad e m = .bad := (rfl)
@[simp] theorem sFor_ap (it : DEnv → M Src) (g : D → DEnv → M DEnv) (b : DEnv → M Out) : sFor it g b e m = (it e m).thn fun src m1 => forL src g b src.items e m1 := by simp [sFor]
@[simp] theorem gNm_ap (i : Nat) (d : D) : gNm i d e m = .ok (e.set i (some d)) m := (rfl)
@[simp] theorem gTp_ap (n : Nat) (g : List D → DEnv → M DEnv) (ds : List D) (h : ds.length = n) : gTp n g (.tup ds) e m = g ds e m := by simp [gTp, h]
@[simp] theorem gsNil_ap (ds : List D) : gsNil ds e m = .ok e m := (rfl)
@[simp] theorem gsCons_ap (g : D → DEnv → M DEnv) (gs : List D → DEnv → M DEnv) (d : D) (ds : List D) : gsCons g gs (d :: ds) e m = (g d e m).thn fun e1 m1 => gs ds e1 m1 := by simp [gsCons]
def par2 (i j : Nat) (e : DEnv) : List D → Store → Res Out
  | [x, y], m1 => .ok (.nx ((e.set i (some x)).set j (some y))) m1
  | _, _ => .bad
@[simp] theorem par2_two (i j : Nat) (x y : D) : par2 i j e [x, y] m = .ok (.nx ((e.set i (some x)).set j (some y))) m := (rfl)
@[simp] theorem sParA_ap (i j : Nat) (as : DEnv → M (List D)) : sParA i j as e m = (as e m).thn fun ds m1 => par2 i j e ds m1 := by
  simp only [sParA, bind_ap]
  congr
  funext ds m1
  match ds with
  | [] => rfl
  | [_] => rfl
  | [_, _] => rfl
  | _ :: _ :: _ :: _ => rfl
@[simp] theorem iSeq_ap (a : DEnv → M D) : iSeqD a e m = (a e m).thn fun x m1 => srcD x m1 := by simp [iSeqD]
theorem iRg1_ap (as : DEnv → M (List D)) {n : Int} {m1 : Store} (h : as e m = .ok [.int n] m1) (h1 : -(2 ^ 62) ≤ n) (h2 : n < 2 ^ 62) : iRg1 as e m = .ok ⟨rngI 0 n.toNat, []⟩ m1 := by
  have hc : -(2 ^ 62) ≤ n ∧ n < 2 ^ 62 := ⟨h1, h2⟩
  simp only [iRg1, bind_ap, h, thn_ok, ite_ap, hc, and_self, if_true, pure_ap]
theorem iZip_ap (as : DEnv → M (List D)) {x y : D} {m1 : Store} {xs ys : List D} (h : as e m = .ok [x, y] m1) (h1 : srcD x m1 = .ok ⟨xs, []⟩ m1) (h2 : srcD y m1 = .ok ⟨ys, []⟩ m1) : iZip as e m = .ok ⟨zipT xs ys, []⟩ m1 := by
  simp [iZip, h, h1, h2]
-- calls
@[simp] theorem callN_ap {n : Nat} (den : List D → M D) {ds : List D} (h : ds.length = n) : callN n den ds m = den ds m := by simp [callN, h]
end
/-! ### loops -/
theorem forL_inv {src : List D} {g : D → DEnv → M DEnv} {b : DEnv → M Out} (I : Nat → DEnv → Store → Prop) : ∀ (ds : List D) (i : Nat) (e : DEnv) (m : Store),
    I i e m → (∀ j d e m, ds[j]? = some d → I (i + j) e m → ∃ e1 m1 e2 m2, g d e m = .ok e1 m1 ∧ (b e1 m1 = .ok (.nx e2) m2 ∨ b e1 m1 = .ok (.ct e2) m2) ∧ I (i + j + 1) e2 m2) →
    ∃ e' m', forL ⟨src, []⟩ g b ds e m = .ok (.nx e') m' ∧ I (i + ds.length) e' m'
  | [], i, e, m, h, _ => ⟨e, m, by simp [forL], h⟩
  | d :: ds, i, e, m, h, st => by
    obtain ⟨e1, m1, e2, m2, h1, h2, h3⟩ := st 0 d e m rfl h
    obtain ⟨e', m', h4, h5⟩ := forL_inv (src := src) I ds (i + 1) e2 m2 (by simpa using h3) (fun j d e m hj hi => by
      have := st (j + 1) d e m (by simpa using hj) (by rw [show i + (j + 1) = i + 1 + j by omega]; exact hi)
      obtain ⟨a1, a2, a3, a4, a5, a6, a7⟩ := this
      exact ⟨a1, a2, a3, a4, a5, a6, by rw [show i + 1 + j + 1 = i + (j + 1) + 1 by omega]; exact a7⟩)
    refine ⟨e', m', ?_, by rw [List.length_cons, show i + (ds.length + 1) = i + 1 + ds.length by omega]; exact h5⟩
    rcases h2 with h2 | h2 <;> simp [forL, h1, h2, h4]
/-- a comprehension whose items are had one by one, the store kept -/
theorem compL_map {src : List D} {g : D → DEnv → M DEnv} {elt : DEnv → M D} {e : DEnv} {m : Store} {f : D → D} : ∀ (ds : List D), (∀ d ∈ ds, ∃ e1, g d e m = .ok e1 m ∧ elt e1 m = .ok (f d) m) → compL ⟨src, []⟩ g tYesD elt e ds m = .ok (ds.map f) m
  | [], _ => by simp [compL]
  | d :: ds, h => by
    obtain ⟨e1, h1, h2⟩ := h d (by simp)
    have := compL_map (src := src) (g := g) (elt := elt) (e := e) (m := m) (f := f) ds fun x hx => h x (by simp [hx])
    simp [compL, noX, h1, h2, this]
theorem eComp_map {it : DEnv → M Src} {g : D → DEnv → M DEnv} {elt : DEnv → M D} {vs : List Nat} {e : DEnv} {m : Store} {ds : List D} {f : D → D} (hi : it e m = .ok ⟨ds, []⟩ m) (hl : ds.length ≤ 100000)
    (h : ∀ d ∈ ds, ∃ e1, g d (wipeD e vs) m = .ok e1 m ∧ elt e1 m = .ok (f d) m) : eComp it g tYesD elt vs e m = .ok (.lst (ds.map f)) m := by
  simp [eComp, compM, hi, sizeOk, hl, compL_map ds h]
/-! ### scopes -/
theorem trim_app (m junk : Store) : trimOk m (m ++ junk) = true := by
  unfold trimOk
  simp [cellKept, List.all_eq_true]
  intro a b h
  rw [List.mem_iff_getElem?] at h
  obtain ⟨i, hi⟩ := h
  rw [List.getElem?_zip_eq_some] at hi
  left
  have := hi.1.symm.trans hi.2
  simpa using this
theorem trim_same (m : Store) : trimOk m m = true := by
  have := trim_app m []
  simpa using this
theorem fn_pure {n : Nat} {b : DEnv → M Out} {ds : List D} {m : Store} {d : D} (h : b (startD n ds) m = .ok (.rt d) m) : fnD n b ds m = .ok d m := by
  simp [fnD, scopeM, runB, h]
theorem fn_pureN {n : Nat} {b : DEnv → M Out} {ds : List D} {m : Store} {e : DEnv} (h : b (startD n ds) m = .ok (.nx e) m) : fnD n b ds m = .ok .non m := by
  simp [fnD, scopeM, runB, h]
theorem fn_any {n : Nat} {b : DEnv → M Out} {ds : List D} {m m' : Store} {d : D} (h : b (startD n ds) m = .ok (.rt d) m') (hl : m'.length = m.length) : fnD n b ds m = .ok d m' := by
  have ht : m'.take m.length = m' := by rw [← hl, List.take_length]
  simp [fnD, scopeM, runB, h, ht]
theorem fn_anyN {n : Nat} {b : DEnv → M Out} {ds : List D} {m m' : Store} {e : DEnv} (h : b (startD n ds) m = .ok (.nx e) m') (hl : m'.length = m.length) : fnD n b ds m = .ok .non m' := by
  have ht : m'.take m.length = m' := by rw [← hl, List.take_length]
  simp [fnD, scopeM, runB, h, ht]
/-- a def that hands back what it made -/
theorem fn_new {n : Nat} {b : DEnv → M Out} {ds : List D} {m : Store} {c : Cell} {d : D} (h : b (startD n ds) m = .ok (.rt d) (m ++ [some c])) (hd : d.und m.length = false) : fnD n b ds m = .ok d (m ++ [some c]) := by
  simp [fnD, scopeM, runB, h, hd]
/-- what was made within is forgotten -/
theorem fn_junk {n : Nat} {b : DEnv → M Out} {ds : List D} {m junk : Store} {d : D} (h : b (startD n ds) m = .ok (.rt d) (m ++ junk)) (hd : d.und m.length = true) : fnD n b ds m = .ok d m := by
  simp [fnD, scopeM, runB, h, hd, trim_app]
theorem fn_trim {n : Nat} {b : DEnv → M Out} {ds : List D} {m m0 junk : Store} {d : D} (h : b (startD n ds) m = .ok (.rt d) (m0 ++ junk)) (hl : m0.length = m.length) (hk : trimOk m m0 = true) (hd : d.und m.length = true) : fnD n b ds m = .ok d m0 := by
  have ht : trimOk m (m0 ++ junk) = true := by
    unfold trimOk at hk ⊢
    have e1 : (m0 ++ junk).take m.length = m0 := by rw [← hl]; simp
    have e2 : m0.take m.length = m0 := by rw [← hl]; simp
    rw [e1]
    rw [e2] at hk
    simp only [Bool.and_eq_true, decide_eq_true_eq] at hk ⊢
    exact ⟨by rw [List.length_append]; omega, hk.2⟩
  have e1 : (m0 ++ junk).take m.length = m0 := by rw [← hl]; simp
  simp [fnD, scopeM, runB, h, hd, ht, e1]
theorem set_last (m : Store) (x y : Option Cell) : (m ++ [x]).set m.length y = m ++ [y] := by simp
theorem get_last (m : Store) (x : Option Cell) : (m ++ [x])[m.length]? = some x := by simp
theorem allSome_map : ∀ vs : List D, allSome (vs.map some) = some vs
  | [] => rfl
  | v :: vs => by simp [allSome, allSome_map vs]
theorem trim_none (m : Store) : trimOk m (m ++ [none]) = true := trim_app m [none]
theorem make_ok {c n : Nat} {den : List D → M D} {ds vs : List D} {m : Store} (hl : ds.length + 1 = n) (h : den (.loc m.length :: ds) (m ++ [some (.ins c [])]) = .ok .non (m ++ [some (.ins c (vs.map some))])) (hu : D.undL m.length vs = true) :
    makeD c n den ds m = .ok (.obj c vs) m := by
  simp [makeD, scopeM, newI, callN, hl, h, isNon, frzI, get_last, allSome_map, set_last, trim_none, D.und, hu]
@[simp] theorem isi_int (cs : List Nat) (t : Ty) (i : Int) (m : Store) : isiD cs t (.int i) m = .ok (.bl (isK t .int)) m := (rfl)
@[simp] theorem isi_bl (cs : List Nat) (t : Ty) (i : Bool) (m : Store) : isiD cs t (.bl i) m = .ok (.bl (isK t .bl)) m := (rfl)
@[simp] theorem isi_lst (cs : List Nat) (t : Ty) (i : List D) (m : Store) : isiD cs t (.lst i) m = .ok (.bl (isK t .lst)) m := (rfl)
@[simp] theorem isi_tup (cs : List Nat) (t : Ty) (i : List D) (m : Store) : isiD cs t (.tup i) m = .ok (.bl (isK t .tup)) m := (rfl)
@[simp] theorem isi_obj (cs : List Nat) (t : Ty) (c : Nat) (i : List D) (m : Store) (h : c ∈ cs) : isiD cs t (.obj c i) m = .ok (.bl (isK t (.obj c))) m := by simp [isiD, kindOf, h]
@[simp] theorem eIsi_ap (cs : List Nat) (t : Ty) (a : DEnv → M D) (e : DEnv) (m : Store) : eIsi cs t a e m = (a e m).thn fun x m1 => isiD cs t x m1 := by simp [eIsi]
@[simp] theorem add_int (i j : Int) (m : Store) : addD (.int i) (.int j) m = .ok (.int (i + j)) m := (rfl)
@[simp] theorem sub_int (i j : Int) (m : Store) : subD (.int i) (.int j) m = .ok (.int (i - j)) m := (rfl)
@[simp] theorem neg_int (i : Int) (m : Store) : negD (.int i) m = .ok (.int (-i)) m := (rfl)
theorem mod_int {i j : Int} (m : Store) (h : 0 < j) : modD (.int i) (.int j) m = .ok (.int (i % j)) m := by simp [modD, gI, h]
theorem fdv_int {i j : Int} (m : Store) (h : 0 < j) (h2 : j < 2 ^ 100) : fdvD (.int i) (.int j) m = .ok (.int (i / j)) m := by
  have hc : CDv i j := ⟨h, h2⟩
  show (if CDv i j then (pure (.int (i / j)) : M D) else M.bad) m = _
  rw [if_pos hc]
  rfl
theorem mul_int {i j : Int} (m : Store) (h : CM i j) : mulD (.int i) (.int j) m = .ok (.int (i * j)) m := by
  show (if CM i j then (pure (.int (i * j)) : M D) else M.bad) m = _
  rw [if_pos h]
  rfl
theorem pow_int {i j : Int} (m : Store) (h : CPw i j) : powD (.int i) (.int j) m = .ok (.int (i ^ j.toNat)) m := by
  show (if CPw i j then (pure (.int (i ^ j.toNat)) : M D) else M.bad) m = _
  rw [if_pos h]
  rfl
@[simp] theorem lt_int (i j : Int) (m : Store) : ltD (.int i) (.int j) m = .ok (.bl (decide (i < j))) m := (rfl)
@[simp] theorem le_int (i j : Int) (m : Store) : leD (.int i) (.int j) m = .ok (.bl (decide (i ≤ j))) m := (rfl)
@[simp] theorem gt_int (i j : Int) (m : Store) : gtD (.int i) (.int j) m = .ok (.bl (decide (j < i))) m := (rfl)
@[simp] theorem ge_int (i j : Int) (m : Store) : geD (.int i) (.int j) m = .ok (.bl (decide (j ≤ i))) m := (rfl)
@[simp] theorem int_int (i : Int) (m : Store) : intD [.int i] m = .ok (.int i) m := (rfl)
@[simp] theorem int_bl (b : Bool) (m : Store) : intD [.bl b] m = .ok (.int (if b then 1 else 0)) m := (rfl)
@[simp] theorem max_int (i j : Int) (m : Store) : maxD [.int i, .int j] m = .ok (.int (if j > i then j else i)) m := (rfl)
@[simp] theorem min_int (i j : Int) (m : Store) : minD [.int i, .int j] m = .ok (.int (if j < i then j else i)) m := (rfl)
@[simp] theorem len_lst (ds : List D) (m : Store) : lenD [.lst ds] m = .ok (.int ds.length) m := (rfl)
@[simp] theorem len_tup (ds : List D) (m : Store) : lenD [.tup ds] m = .ok (.int ds.length) m := (rfl)
@[simp] theorem tuple_tup (ds : List D) (m : Store) : tupleD [.tup ds] m = .ok (.tup ds) m := (rfl)
@[simp] theorem tuple_lst (ds : List D) (m : Store) : tupleD [.lst ds] m = mkT ds m := (rfl)
@[simp] theorem list_tup (ds : List D) (m : Store) : listD [.tup ds] m = mkL ds m := (rfl)
@[simp] theorem list_lst (ds : List D) (m : Store) : listD [.lst ds] m = mkL ds m := (rfl)
theorem ix_seq {x d : D} {ds : List D} {i : Int} {m : Store} (h : seqD x m = .ok ds m) (h1 : 0 ≤ i) (h2 : ds[i.toNat]? = some d) : ixD x (.int i) m = .ok d m := by
  have hl := (List.getElem?_eq_some_iff.mp h2).1
  have h3 : i < ds.length := by omega
  have h4 := (List.getElem?_eq_some_iff.mp h2).2
  simp [ixD, h, atI, ixN, h1, h3, h4]
/-! whole numbers -/
def ils (ns : List Int) : List D := ns.map .int
theorem ils_eq (ns : List Int) : ns.map D.int = ils ns := rfl
@[simp] theorem ils_length (ns : List Int) : (ils ns).length = ns.length := by simp [ils]
@[simp] theorem ils_get (ns : List Int) (i : Nat) : (ils ns)[i]? = (ns[i]?).map .int := by simp [ils]
@[simp] theorem ils_app (a b : List Int) : ils a ++ ils b = ils (a ++ b) := by simp [ils]
@[simp] theorem ils_app1 (a : List Int) (i : Int) : ils a ++ [.int i] = ils (a ++ [i]) := by simp [ils]
theorem ils_cons (i : Int) (a : List Int) : ils (i :: a) = .int i :: ils a := rfl
@[simp] theorem ils_nil : ils [] = [] := rfl
@[simp] theorem ils_inj {a b : List Int} : ils a = ils b ↔ a = b := by
  refine ⟨fun h => ?_, fun h => by rw [h]⟩
  induction a generalizing b with
  | nil => cases b with
    | nil => rfl
    | cons y b => simp [ils] at h
  | cons x a ih => cases b with
    | nil => simp [ils] at h
    | cons y b =>
      simp only [ils_cons, List.cons.injEq, D.int.injEq] at h
      rw [h.1, ih h.2]
theorem undL_ints (n : Nat) : ∀ ns : List Int, D.undL n (ils ns) = true
  | [] => rfl
  | i :: ns => by rw [ils_cons]; simp [D.undL, D.und]; exact undL_ints n ns
theorem intsD_ints : ∀ ns : List Int, intsD (ils ns) = some ns
  | [] => rfl
  | i :: ns => by rw [ils_cons]; simp [intsD]; exact intsD_ints ns
theorem sum_ints (ns : List Int) (m : Store) : sumD [.lst (ils ns)] m = .ok (.int ns.sum) m := by simp [sumD, intsD_ints]
theorem toPDs_ints : ∀ ns : List Int, toPDs (ils ns) = some (ns.map .int)
  | [] => rfl
  | i :: ns => by rw [ils_cons]; simp [toPDs, toPD]; rw [toPDs_ints ns]
theorem canLay_ints : ∀ ns : List Int, PyData.canLayAll0 (ns.map .int) = true
  | [] => rfl
  | i :: ns => by simp [PyData.canLayAll0, PyData.canLay0]; exact canLay_ints ns
theorem depth_ints : ∀ ns : List Int, PyData.depthAll (ns.map .int) = 0
  | [] => rfl
  | i :: ns => by simp [PyData.depthAll, PyData.depth]; exact depth_ints ns
@[simp] theorem eq_int (i j : Int) (m : Store) : eqD (.int i) (.int j) m = .ok (.bl (i == j)) m := by simp [eqD, onPD, topPD, toPD, SeqAt.shaped, PyData.canLay0, PyData.depth, PyData.eqv]
@[simp] theorem ne_int (i j : Int) (m : Store) : neD (.int i) (.int j) m = .ok (.bl (!(i == j))) m := by simp [neD, onPD, topPD, toPD, SeqAt.shaped, PyData.canLay0, PyData.depth, PyData.eqv]
@[simp] theorem eq_bl (i j : Bool) (m : Store) : eqD (.bl i) (.bl j) m = .ok (.bl (i == j)) m := by simp [eqD, onPD, topPD, toPD, SeqAt.shaped, PyData.canLay0, PyData.depth, PyData.eqv]
theorem eq_tup (ns ms : List Int) (m : Store) : eqD (.tup (ils ns)) (.tup (ils ms)) m = .ok (.bl (decide (ns = ms))) m := by
  simp [eqD, onPD, topPD, toPD, toPDs_ints, SeqAt.shaped, PyData.canLay0, PyData.depth, PyData.eqv, canLay_ints, depth_ints, PySem.W.ked_eqvAll]
end DL

namespace DL
open PySem L2
/-! ### comprehensions over what is had by a map -/
theorem compL_on {α : Type} {src : List D} {g : D → DEnv → M DEnv} {elt : DEnv → M D} {e : DEnv} {m : Store} {h f : α → D} : ∀ (xs : List α), (∀ x ∈ xs, ∃ e1, g (h x) e m = .ok e1 m ∧ elt e1 m = .ok (f x) m) → compL ⟨src, []⟩ g tYesD elt e (xs.map h) m = .ok (xs.map f) m
  | [], _ => by simp [compL]
  | d :: ds, q => by
    obtain ⟨e1, h1, h2⟩ := q d (by simp)
    have := compL_on (src := src) (g := g) (elt := elt) (e := e) (m := m) (h := h) (f := f) ds fun x hx => q x (by simp [hx])
    simp [compL, noX, h1, h2, this]
theorem eComp_on {α : Type} {it : DEnv → M Src} {g : D → DEnv → M DEnv} {elt : DEnv → M D} {vs : List Nat} {e : DEnv} {m : Store} {xs : List α} {h f : α → D} (hi : it e m = .ok ⟨xs.map h, []⟩ m) (hl : xs.length ≤ 100000)
    (q : ∀ x ∈ xs, ∃ e1, g (h x) (wipeD e vs) m = .ok e1 m ∧ elt e1 m = .ok (f x) m) : eComp it g tYesD elt vs e m = .ok (.lst (xs.map f)) m := by
  simp [eComp, compM, hi, sizeOk, hl, compL_on xs q]
theorem zipT_ils (a b : List Int) : zipT (ils a) (ils b) = (a.zip b).map fun q => D.tup [.int q.1, .int q.2] := by
  simp [zipT, ils, List.zip_map]
theorem rngI_eq (n : Nat) : rngI 0 n = (List.range n).map fun (i : Nat) => D.int (i : Int) := by simp [rngI]
abbrev pr2 (q : Int × Int) : D := D.tup [.int q.1, .int q.2]
def Sq (b : Bool) (ns : List Int) : D := if b then .tup (ils ns) else .lst (ils ns)
@[simp] theorem src_Sq (b : Bool) (ns : List Int) (m : Store) : srcD (Sq b ns) m = .ok ⟨ils ns, []⟩ m := by cases b <;> rfl
@[simp] theorem seq_Sq (b : Bool) (ns : List Int) (m : Store) : seqD (Sq b ns) m = .ok (ils ns) m := by cases b <;> rfl
@[simp] theorem len_Sq (b : Bool) (ns : List Int) (m : Store) : lenD [Sq b ns] m = .ok (.int ns.length) m := by cases b <;> simp [Sq]
@[simp] theorem isi_Sq (cs : List Nat) (b : Bool) (ns : List Int) (m : Store) : isiD cs .seq (Sq b ns) m = .ok (.bl true) m := by cases b <;> rfl
theorem tuple_Sq (b : Bool) (ns : List Int) (m : Store) (h : ns.length ≤ 100000) : tupleD [Sq b ns] m = .ok (.tup (ils ns)) m := by cases b <;> simp [Sq, h]
theorem tru_bls : ∀ bs : List Bool, truFs (bs.map D.bl) = some bs
  | [] => rfl
  | b :: bs => by simp [truFs, truF]; rw [tru_bls bs]
theorem all_bls (bs : List Bool) (m : Store) : allD [.lst (bs.map D.bl)] m = .ok (.bl (bs.all id)) m := by simp [allD, tru_bls]
theorem tru_ils : ∀ ns : List Int, truFs (ils ns) = some (ns.map (· != 0))
  | [] => rfl
  | b :: bs => by rw [ils_cons]; simp [truFs, truF]; rw [tru_ils bs]
theorem any_tup (ns : List Int) (m : Store) : anyD [.tup (ils ns)] m = .ok (.bl ((ns.map (· != 0)).any id)) m := by simp [anyD, tru_ils]
theorem cm_r {i j : Int} (h1 : -1000000000000 ≤ j) (h2 : j ≤ 1000000000000) : CM i j := .inr ⟨by omega, by omega⟩
theorem cm_l {i j : Int} (h1 : -1000000000000 ≤ i) (h2 : i ≤ 1000000000000) : CM i j := .inl ⟨by omega, by omega⟩
theorem iRg1_nat {as : DEnv → M (List D)} {e : DEnv} {m m1 : Store} {s : Nat} (hs : s ≤ 1000000000) (h : as e m = .ok [.int s] m1) : iRg1 as e m = .ok ⟨rngI 0 s, []⟩ m1 := by
  have := iRg1_ap e m as (n := s) (m1 := m1) h (by omega) (by omega)
  simpa using this
end DL

/-! DX0: errors of the text: a class over Exception whose __init__ hands a text to super().__init__ and keeps one field. -/
namespace DL
open PySem L2 PyProof.Rows
open PySem.W (ksFn ksEnv ks_superIn excInitIn excOver)

/-- the scope of such an __init__(slf, v) -/
def iniB (sc : Scope) (slf v : Str) : Bool :=
  decide (sc.kind = .function) && (!sc.isCoroutine && (!sc.isGenerator && (sc.names.all (fun y => !decide (y.2 = .cell)) && (decide (sc.names.lookup ("super" : Str) = some .globalImplicit) && (decide (sc.names.lookup ("__class__" : Str) = some .free) &&
    (decide (sc.names.lookup slf = some .local) && (decide (sc.names.lookup v = some .local) && (decide (slf ≠ v) && (!(slf == ("__debug__" : Str)) && !(v == ("__debug__" : Str)))))))))))
structure IniS (sc : Scope) (slf v : Str) : Prop where
  kind : sc.kind = .function
  co : sc.isCoroutine = false
  gen : sc.isGenerator = false
  noc : ∀ y ∈ sc.names, y.2 ≠ .cell
  sup : sc.names.lookup ("super" : Str) = some .globalImplicit
  cls : sc.names.lookup ("__class__" : Str) = some .free
  ks : sc.names.lookup slf = some .local
  kv : sc.names.lookup v = some .local
  ne : slf ≠ v
  ds : (slf == ("__debug__" : Str)) = false
  dv : (v == ("__debug__" : Str)) = false
theorem iniB_ok {sc : Scope} {slf v : Str} (h : iniB sc slf v = true) : IniS sc slf v := by
  unfold iniB at h
  simp only [Bool.and_eq_true, Bool.not_eq_true', decide_eq_true_eq, List.all_eq_true, decide_eq_false_iff_not] at h
  obtain ⟨h1, h2, h3, h4, h5, h6, h7, h8, h9, h10, h11⟩ := h
  exact ⟨h1, h2, h3, h4, h5, h6, h7, h8, h9, h10, h11⟩
/-- its body, as it is read in env -/
def IniEv (env : Env) (b : List Stmt) (slf v f : Str) : Prop := ∃ (txt : Str) (j : Nat) (p0 p1 p2 p3 p4 p5 p6 p7 p8 p9 : Pos) (pl : Sem Bool),
  b = [.Expr (.Call (.Attribute (.Call (.Name "super" p0) [] [] p1) "__init__" p2) [.Constant (.str txt) j p3] [] p4) p5, .Assign [.Attribute (.Name slf p6) f p7] (.Name v p8) p9] ∧
  eval (.Call (.Attribute (.Call (.Name "super" p0) [] [] p1) "__init__" p2) [.Constant (.str txt) j p3] [] p4) env = (do
    let ov ← attributeBase (.Call (.Name "super" p0) [] [] p1) "__init__" env (eval (.Call (.Name "super" p0) [] [] p1) env)
    standAt p2.atName
    let (f, first) ← holding [ov] (getMethod ov "__init__" pl)
    callWith p4 f first (backTo p4 (starEach [.Constant (.str txt) j p3] env)) []) ∧
  swapsWith (.Call (.Attribute (.Call (.Name "super" p0) [] [] p1) "__init__" p2) [.Constant (.str txt) j p3] [] p4) none p5.line env = pure false ∧
  swapsWith (.Name v p8) (some (.Attribute (.Name slf p6) f p7)) p9.line env = pure false ∧ interactive env = false ∧
  starEach [.Constant (.str txt) j p3] env = [(false, eval (.Constant (.str txt) j p3) env)]

section
variable {prog : Program} {w : World} {A : Around} {E : Value → Shared → Prop} {R : Result → Shared → Prop} {K : PySem.W.Frag} {mg : Str → Option Value}
/-- the first field of an error that has no dict yet -/
theorem err_set {s : Shared} {x C t1 : Addr} {f : Str} {u : Value} {Q : Unit → Shared → Prop} (X : K.In s.heap) (hx : s.heap.get? x = some (HandSPX.excO C t1)) (ov : excOver K C ESX.exTail = true) (hd : PySem.W.hasDictIn K C = true)
    (sa : PySem.W.findIn K (.ref C) "__setattr__" = some (some (.builtin "object.__setattr__"))) (nf : PySem.W.findIn K (.ref C) f = some none)
    (hq : ∀ h' tk dx, (∀ b o, b ≠ x → s.heap.get? b = some o → h'.get? b = some o) → s.heap.objs.size ≤ dx → dx ≠ x → h'.get? x = some { HandSPX.excO C t1 with dict := some dx } → h'.Ns1 dx (fun y => if y = f then some u else none) → Q () { s with heap := h', toks := tk }) :
    wpAny (model prog w) A (setAttr (.ref x) f u) Q E s := by
  have I : PySem.W.InstAt s.heap x (HandSPX.excO C t1) C none := ⟨hx, rfl, rfl, trivial⟩
  obtain ⟨cd, hc, hh⟩ := PySem.W.any_some hd
  refine PySem.W.set_plain X I sa ?_
  refine PySem.W.osa_openX F.store_Exception X I ov (r := none) (by unfold PySem.W.takerIn; rw [nf]; rfl) fun b => ?_
  have hcls : PySem.W.Looks (model prog w) s.heap (classData C) cd := PySem.W.looks_clsIn X hc
  have hxs : x ≠ s.heap.objs.size := Nat.ne_of_lt (Heap.lt_size hx)
  obtain ⟨hp, g, d, t, os⟩ := s
  show wpAny _ _ (Builtin.ObjectAttr.storeInOwnDict (.ref x) (.ref C) _ f u b) _ _ _
  have own : cd.hasDict = true := hh
  clear hh
  cases cd with
  | mk nm bs mro ns qn hdct sn sb ab col del =>
    subst own
    unfold Builtin.ObjectAttr.storeInOwnDict Builtin.ObjectAttr.ownDictForStores
    repeat (first
      | with_reducible refine HandSPX.store_in_new ?hn ?hs
      | with_reducible refine wpAny_loadPart_at hx ?_
      | with_reducible refine hcls.at ?_
      | wp_step)
    case hn =>
      refine ⟨_, #[], _, (Heap.get?_update_ne _ _ _ _ hxs.symm).trans (Heap.get?_push_at rfl rfl), rfl, fun e he => absurd he (by simp), fun _ => rfl⟩
    case hs =>
      intro h1 tk n1 same
      have laid : ∀ {b : Addr} {o : Obj}, b ≠ x → hp.get? b = some o → h1.get? b = some o := fun {b o} nb eb =>
        (same.2 b (Nat.ne_of_lt (Heap.lt_size eb))).trans ((Heap.get?_update_ne _ _ _ _ nb).trans (Heap.get?_push_of_some _ eb))
      refine hq h1 tk hp.objs.size (fun b o nb eb => laid nb eb) (Nat.le_refl _) hxs.symm ?_ n1
      exact (same.2 x hxs).trans (Heap.get?_update_self _ (Heap.get?_push_of_some { cls := .type "dict", data := .dict #[] } hx) rfl)
/-- what the text says of an error class at C, whose __init__ (the def st, at fI) keeps its argument as f -/
structure ErrC (prog : Program) (K : PySem.W.Frag) (st : Stmt) (qual slf v f : Str) (C fI : Addr) : Prop where
  q : excInitIn K C ESX.exTail "Exception.__new__" = true
  ov : excOver K C ESX.exTail = true
  iC : PySem.W.findIn K (.ref C) "__init__" = some (some (.ref fI))
  tI : PySem.W.typeIn K (.ref fI) = some (.type "function")
  df : ∃ oc od kV doc pm an cda ct cc osl, K.lookup fI = some ⟨oc, od, .func (ksFn "__init__" qual (defArgs st) (defBody st) (defScope st) .none kV doc pm an (.ref cda) ct cc), osl⟩ ∧ PySem.W.codeIn K (.ref cda) qual = true ∧
    (∃ ccl cdd vs ccs file tf, K.lookup cda = some ⟨ccl, cdd, .fields vs, ccs⟩ ∧ vs[2]? = some (.str file tf) ∧ ((prog.main.file : Str) == file) = true) ∧ ∃ cl cld csl, K.lookup cc = some ⟨cl, cld, .cell (some (.ref C)), csl⟩
  ps : (defArgs st).posonlyargs ++ (defArgs st).args ≠ [] ∧ ∀ a, ((defArgs st).posonlyargs ++ (defArgs st).args).head? = some a → a.arg = slf
  bd : ∀ (s : Shared) (kV doc pm : Value) (an : Option Addr) (cd ct : Value) (cc : Addr) (a b : Value), BindsTo s (ksFn "__init__" qual (defArgs st) (defBody st) (defScope st) .none kV doc pm an cd ct cc) ⟨[a, b], []⟩ [(slf, a), (v, b)]
  sc : IniS (defScope st) slf v
  ev : ∀ (L : Addr) (cd : Value) (cc : Addr), IniEv (ksEnv qual (defScope st) L fI cd cc) (defBody st) slf v f
  su : ks_superIn K C C "__init__" = some (some (.builtin "Exception.__init__"))
  zs : PySem.W.nsIn K mainGlobals "super" = some none
  tp : (prog.main.scope.names.lookup ("super" : Str)).isSome = false
  op : PySem.W.nsIn K cStatics "thirdparty.any" = some none
  sB : PySem.W.subIn K (.ref C) (.type "Exception") = some true
  sS : PySem.W.mroIn K C (.ref C) = some true
  sa : PySem.W.findIn K (.ref C) "__setattr__" = some (some (.builtin "object.__setattr__"))
  nf : PySem.W.findIn K (.ref C) f = some none
  kp : PySem.W.keepIn K (.ref C) = true
  ty : PySem.W.typeIn K (.ref C) = some (.type "type")
  xf : XfC K C
theorem err_init {s : Shared} {st : Stmt} {qual slf v f : Str} {C fI e t0 : Addr} {u : Value} (T : ErrC prog K st qual slf v f C fI) (Mo : L2.Mod K mg s.heap) (he : s.heap.get? e = some (HandSPX.excO C t0)) (hKe : K.lookup e = none) (hroom : A.depth < recursionLimit)
    (hq : ∀ h' tk dx t1, (∀ b o, b ≠ e → s.heap.get? b = some o → h'.get? b = some o) → s.heap.objs.size ≤ dx → dx ≠ e → h'.get? e = some { HandSPX.excO C t1 with dict := some dx } → h'.Ns1 dx (fun y => if y = f then some u else none) → R (.ok (.ret .none)) { s with heap := h', toks := tk }) :
    codeAny (model prog w) A (.call (.ref fI) ⟨[.ref e, u], []⟩) R s := by
  obtain ⟨oc, od, kV, doc, pm, an, cda, ct, cc, osl, lf, ci, ⟨ccl, cdd, vs, ccs, file, tf, lc, vf, hf⟩, cl, cld, csl, lcc⟩ := T.df
  obtain ⟨txt, j, p0, p1, p2, p3, p4, p5, p6, p7, p8, p9, pl, hb, hev, hsw, hsw2, hint, hstar⟩ := T.ev s.heap.objs.size (.ref cda) cc
  obtain ⟨nm, N, qn, bs, bm, hdct, sn, sub, ab, col, dd, k0, k1, k2, k3, k5, hC, hT⟩ := PySem.W.excInit_of Mo.kin T.q
  have S := T.sc
  refine ks_codeAny_call_defAt (body := defBody st) (binds := [(slf, .ref e), (v, u)]) hroom (Mo.kin _ _ lf) rfl Mo.nolimit (PySem.W.codeRec_of Mo.kin ci) rfl (T.bd s kV doc pm an (.ref cda) ct cc (.ref e) u) S.noc (fun y hy => ?_) (fun h0 ns0 kp0 => ?_) S.co S.gen S.kind
  · simp only [List.mem_cons, List.not_mem_nil, or_false] at hy
    rcases hy with rfl | rfl
    · exact S.ks
    · exact S.kv
  · have up : ∀ {h : Heap}, (∀ b o, h0.get? b = some o → h.get? b = some o) → ∀ b o, s.heap.get? b = some o → h.get? b = some o := fun k b o q => k b o (kp0 b o q)
    have kin0 : K.In h0 := Mo.kin.keeps kp0
    have hlt : e < s.heap.objs.size := Heap.lt_size he
    have eL : e ≠ s.heap.objs.size := Nat.ne_of_lt hlt
    obtain ⟨ar, har⟩ : ∃ ar, ((defArgs st).posonlyargs ++ (defArgs st).args).head? = some ar := by
      cases hl : (defArgs st).posonlyargs ++ (defArgs st).args with
      | nil => exact absurd hl T.ps.1
      | cons a r => exact ⟨a, rfl⟩
    have hself := T.ps.2 ar har
    have nsL : ∀ {h : Heap}, (∀ b o, h0.get? b = some o → h.get? b = some o) → h.Ns s.heap.objs.size (fun x => [(slf, Value.ref e), (v, u)].reverse.lookup x) := fun k => ns0.keeps k
    have mself : (fun x => [(slf, Value.ref e), (v, u)].reverse.lookup x) slf = some (.ref e) := by
      have ne : (slf == v) = false := by simpa using S.ne
      simp [List.lookup, ne]
    have mval : (fun x => [(slf, Value.ref e), (v, u)].reverse.lookup x) v = some u := by
      simp [List.lookup]
    show _root_.PySem.wpAt _ (A.deeper (ksEnv qual (defScope st) s.heap.objs.size fI (.ref cda) cc)) (.func (defBody st) (ksEnv qual (defScope st) s.heap.objs.size fI (.ref cda) cc)) (execs (defBody st) (ksEnv qual (defScope st) s.heap.objs.size fI (.ref cda) cc)) _ _ _
    rw [hb]
    obtain ⟨mb, nsb, hbb⟩ := Mo.blt
    refine ks_wpAt_execs_cons (ks_wpAt_Expr_any (ks_wpAt_MethodCall (pl := pl) ?_ hev) hint hsw)
    refine ks_wpAt_super_base (env := ksEnv qual (defScope st) s.heap.objs.size fI (.ref cda) cc) S.sup S.cls (by decide) rfl (kin0 _ _ lf) rfl har rfl (kin0 _ _ lc) rfl vf hf T.tp ?_
    refine PySem.W.ks_loadName_global S.kind S.sup (Calls.loadGlobal_builtin (Mo.glob.keeps kp0) (PySem.W.mg_none_of Mo.kin Mo.glob T.zs) (nsb.keeps kp0) ((hbb _ (by decide)).trans (by decide +kernel)) ⟨rfl, ?_⟩)
    refine wpAny_loadName_free S.kind S.cls rfl ⟨_, kin0 _ _ lcc, rfl⟩ ?_
    rw [hself]
    refine wpAny_loadName_local S.kind S.ks (nsL fun _ _ q => q) mself ?_
    refine ks_wpAny_isType_cls (kp0 _ _ hC) rfl ⟨rfl, ?_⟩
    refine ks_wpAny_call_super (kp0 _ _ hC) rfl (kp0 _ _ he) rfl (fun c z => by cases z) (PySem.W.looks_mroIn kin0 T.sS) (fun h1 so1 kp1 => ?_)
    have kin1 : K.In h1 := kin0.keeps kp1
    have eC : e ≠ C := fun z => by
      rw [z, hC] at he
      cases he
    have I1 : PySem.W.InstAt h1 e (HandSPX.excO C t0) C none := ⟨kp1 _ _ (kp0 _ _ he), rfl, rfl, trivial⟩
    cases hcl : PySem.W.clsIn K C with
    | none =>
      have z := T.su
      unfold ks_superIn at z
      rw [hcl] at z
      cases z
    | some cd =>
      have z := T.su
      unfold ks_superIn at z
      rw [hcl] at z
      refine ESX.getMethod_super so1 (PySem.W.looks_opaque kin1 T.op) (l₀ := cd.mro) ((PySem.W.looks_clsIn kin1 hcl).andThen .now) rfl kin1 z eC (by decide) (I1.type.andThen (PySem.W.looks_subIn kin1 T.sB)) ?_
      refine ESX.callWith_bound (x := e) ?_ hstar rfl
      rw [hstar]
      refine Calls.spliced_cons (Calls.Constant_str (k := j) (pos := p3) (Calls.spliced_nil ⟨Heap.get?_push_size _ rfl, ?_⟩))
      refine ESX.call_bw (e := e) (t0 := t0) (Heap.get?_push_of_some _ (kp1 _ _ (kp0 _ _ hC))) (Heap.get?_push_of_some _ (kp1 _ _ (kp0 _ _ he))) (Heap.get?_push_size _ rfl) (show 1 ≤ sizeLine by decide) (fun h2 t1 kp2 he2 => ?_)
      have kall : ∀ b o, b ≠ e → h0.get? b = some o → h2.get? b = some o := fun b o nb q => kp2 b o nb (Heap.get?_push_of_some _ (kp1 b o q))
      have kin2 : K.In h2 := fun b o q => kall b o (fun z => by
        rw [z, hKe] at q
        cases q) (kin0 b o q)
      have ns2 : h2.Ns s.heap.objs.size (fun x => [(slf, Value.ref e), (v, u)].reverse.lookup x) := by
        obtain ⟨oL, es, ep, hL, r⟩ := ns0
        exact ⟨oL, es, ep, kall _ _ (Ne.symm eL) hL, r⟩
      refine ks_wpAt_execs_cons (wpAt_of_wpAny (plainObj_wpAny_Assign_Attribute (wpAny_Name (wpAny_loadName_local S.kind S.kv ns2 mval (wpAny_Name (wpAny_loadName_local S.kind S.ks ns2 mself ?_) S.ds)) S.dv) hsw2))
      refine err_set kin2 he2 T.ov T.xf.hdC T.sa T.nf fun h3 tk dx kp3 dn de hx3 n3 => ?_
      refine wpAt_of_wpAny (wpAny_execs_nil ?_)
      have big : s.heap.objs.size ≤ h2.objs.size := by
        obtain ⟨oL, es, ep, hL, r⟩ := ns2
        exact Nat.le_of_lt (Heap.lt_size hL)
      exact hq h3 tk dx t1 (fun b o nb q => kp3 b o nb (kall b o nb (kp0 b o q))) (Nat.le_trans big dn) de hx3 n3
end
end DL

/-! DX1: raise C(e). -/
namespace DL
open PySem L2 PyProof.Rows
section
variable {k : Kx} {X : Cx} {E : XK}
theorem pmk_err {st : Stmt} {qual slf v f x : Str} {C fI : Addr} {a : Expr} {ta : TE} {p pos : Pos} {lvl : Nat} (T : ErrC X.prog X.K st qual slf v f C fI) (hr : Room (lvl + 1) X.A) (hg : Gl X x) (hm : X.mg x = some (.ref C)) (ha : PE X a ta)
    (hs : starEach [a] X.env = (false, eval a X.env) :: starEach [] X.env := by rfl) (hdb : (x == ("__debug__" : Str)) = false := by decide) :
    PMk X (.Call (.Name x p) [a] [] pos) (fun σ H Q => ta σ H fun y H1 => ∀ d, H1 d = none → Q (.ref C) (some d) (upd H1 d (.xd [(f, y)]))) := by
  intro pins s σ H Q I h
  refine wpAny_Call_Name_kw (ld_glob I hg hm ?_ hdb)
  refine PySem.W.callWith_K (h₀ := X.base) I.ok.mod.kin T.kp ?_ hs (by rfl)
  rw [hs]
  show wpAny _ _ (spliced ((false, eval a X.env) :: backTo pos (starEach [] X.env))) _ _ s
  refine Calls.spliced_cons (thn (ha.run pins s σ H _ I h) fun u s1 ⟨y, H1, I1, ry, q1⟩ => Calls.spliced_nil ⟨I1.kIn, ?_⟩)
  show wpAny _ _ (call (.ref C) [u]) _ _ _
  obtain ⟨nm, N, qn, bs, bm, hdct, sn, sub, ab, col, dd, k0, k1, k2, k3, k5, hC, hT⟩ := PySem.W.excInit_of I1.kIn T.q
  have Mo : L2.Mod X.K X.mg s1.heap := ⟨I1.kIn, I1.mod.glob.keeps I1.bk, let ⟨mb, b1, b2⟩ := I1.mod.blt; ⟨mb, b1.keeps I1.bk, b2⟩, I1.nolimit⟩
  obtain ⟨hp, g, dr, tk, os⟩ := s1
  have kk : ∀ b o, hp.get? b = some o → ((hp.push (PySem.W.kdv_tup [u])).push (HandSPX.excO C hp.objs.size)).get? b = some o := fun b o z => Heap.get?_push_of_some _ (Heap.get?_push_of_some _ z)
  have atE : ((hp.push (PySem.W.kdv_tup [u])).push (HandSPX.excO C hp.objs.size)).get? (hp.objs.size + 1) = some (HandSPX.excO C hp.objs.size) := by heap_get
  have Mo2 : L2.Mod X.K X.mg ((hp.push (PySem.W.kdv_tup [u])).push (HandSPX.excO C hp.objs.size)) := ⟨Mo.kin.keeps kk, Mo.glob.keeps kk, let ⟨mb, b1, b2⟩ := Mo.blt; ⟨mb, b1.keeps kk, b2⟩, Mo.nolimit.keeps kk⟩
  have noE : X.K.lookup (hp.objs.size + 1) = none := by
    cases z : X.K.lookup (hp.objs.size + 1) with
    | none => rfl
    | some o => exact absurd (Heap.lt_size (Mo.kin _ _ z)) (by show ¬ hp.objs.size + 1 < hp.objs.size; omega)
  refine wpAny_call (HandSPX.call_own F.excBase_Exception hT hC (PySem.W.looks_findIn I1.kIn T.iC) (fun slf => PySem.W.bind_fn I1.kIn slf T.tI) (show 1 ≤ sizeLine by decide) ?_)
  refine err_init T Mo2 atE noE (hr.make C [u] []).depth fun h2 tk2 dx t1 kp2 dn de he2 n2 => ?_
  refine ⟨rfl, ?_⟩
  obtain ⟨G, g1, g2⟩ := restrict h2 fun b => decide (b ≠ hp.objs.size + 1)
  have gk : ∀ {b : Addr}, b ≠ hp.objs.size + 1 → G.get? b = h2.get? b := fun {b} nb => g1 b (decide_eq_true nb)
  have low : ∀ {b : Addr} {o : Obj}, hp.get? b = some o → b ≠ hp.objs.size + 1 := fun {b o} z => Nat.ne_of_lt (Nat.lt_succ_of_lt (Heap.lt_size z))
  have dn2 : hp.objs.size ≤ dx := Nat.le_trans (by rw [Heap.size_push, Heap.size_push]; omega) dn
  have new : ObjOk X.prog X.w (upd H1 dx (.xd [(f, y)])) G dx (.xd [(f, y)]) := ⟨_, n2.at fun o z => (gk de).trans z, relO_put (fs := []) ry fun _ => True.intro⟩
  have J : Inv X pins σ (upd H1 dx (.xd [(f, y)])) ⟨G, g, dr, tk2, os⟩ := I1.laid (t' := tk2) (h' := G) (fun b o z => (gk (low z)).trans (kp2 b o (low z) (kk b o z))) dn2 new
  have hE : H1 (hp.objs.size + 1) = none := I1.hok.fresh (Nat.le_succ _)
  refine ⟨hp.objs.size + 1, _, _, ⟨G, g, dr, tk2, os⟩, upd H1 dx (.xd [(f, y)]), .ref C, some dx, rfl, J, fun b o z => ?_, g2 _ (by simp), he2, ⟨rfl, rfl⟩, rfl, rfl, ?_, rfl, I1.bare, raises_own T.xf.exC T.ty, q1 dx (I1.hok.fresh dn2)⟩
  · by_cases hb : b = hp.objs.size + 1
    · subst hb
      rw [g2 _ (by simp)] at z
      cases z
    · exact (gk hb).symm.trans z
  · rw [upd_ne (Ne.symm de)]
    exact hE
/-- raise C(a) -/
def sRaise (c : Nat) (a : DEnv → M D) : DEnv → M Out := fun e => do let x ← a e; M.exn c [x]
theorem js_raise {st : Stmt} {qual slf v f x : Str} {fI : Addr} {a : Expr} {ma : DEnv → M D} {p pos pos' : Pos} {lvl c : Nat} (T : ErrC X.prog X.K st qual slf v f (k.cl c) fI) (hf : k.xf c = [f]) (hc : X.calm = true) (tk : Takes X (fun cls d _ H => E cls d H)) (hr : Room (lvl + 1) X.A) (hg : Gl X x) (hm : X.mg x = some (.ref (k.cl c))) (ha : JE k X E a ma)
    (hs : starEach [a] X.env = (false, eval a X.env) :: starEach [] X.env := by rfl) (hdb : (x == ("__debug__" : Str)) = false := by decide) : JS k X E (.Raise (some (.Call (.Name x p) [a] [] pos)) none pos') (sRaise c ma) := by
  refine PS.imp (ps_raise hc tk (pmk_err T hr hg hm ha hs hdb)) fun Ds s H h => ?_
  obtain ⟨e, G, L, μ, sg, w, gd⟩ := h
  refine ⟨e, G, L, μ, sg, w, Good.mono (Good.bind gd) fun d1 m1 G1 H1 L1 st1 w1 q1 y r1 d hd => ?_⟩
  refine q1 _ _ _ d (w1.newS (o := .xd [(f, y)]) hd) (w1.new hd) ⟨[y], by rw [hf]; rfl, by rw [hf]; exact upd_same, ?_⟩
  exact RpA.mono (w1.newS (o := .xd [(f, y)]) hd).g (pre_refl L1) _ _ (.cons r1 .nil)
end
end DL

/-! DX2: try with several clauses `except C as n`, all of one name. -/
namespace DL
open PySem L2 PyProof.Rows

/-- what one clause does: the class that it names, its suite's reading -/
structure Clause where
  c : Value
  ts : Addr → Value → Option Addr → TS
/-- where a suite's name is dropped behind it -/
def dropAt (i : Nat) (Ds : Ends) : Ends := { nx := fun s H => Ds.nx (s.set i none) H, rt := Ds.rt, bk := fun s H => Ds.bk (s.set i none) H, ct := fun s H => Ds.ct (s.set i none) H }
/-- the first clause whose class fits takes the error -/
def wAsN (K : PySem.W.Frag) (len i : Nat) (out : WX) (Ds : Ends) : List Clause → WX
  | [], cls, d, s, H => out cls d s H
  | q :: r, cls, d, s, H => ∃ b, PySem.W.exmOne K cls q.c = some b ∧ if b = true then s.length = len → ∀ a, H a = none → q.ts a cls d (dropAt i Ds) (s.set i (some (.ref a))) H else wAsN K len i out Ds r cls d s H
inductive HdN (X : Cx) (n : Str) : List ExceptHandler → List Clause → Prop
  | nil : HdN X n [] []
  | cons {x : Str} {q : Clause} {b : Stmt} {su : List Stmt} {np hp : Pos} {hs : List ExceptHandler} {l : List Clause} (nm : Names X x q.c)
      (suite : ∀ (a : Addr) (oe : Obj) (cls : Value) (d : Option Addr) (pn : List (Addr × Obj)), Zc cls d oe → (∃ vs, oe.data = .fields vs) → PSs (X.suite a ((a, oe) :: pn)) (b :: su) (q.ts a cls d)) (rest : HdN X n hs l) :
      HdN X n (.ExceptHandler (some (.Name x np)) (some n) (b :: su) hp :: hs) (q :: l)

section
variable {X : Cx} {pins : List (Addr × Obj)}
/-- an error of the class cls, its dict d, has landed in X's frame: the state without it was sI, the ground is B -/
structure Landed (X : Cx) (pins : List (Addr × Obj)) (a : Addr) (cls : Value) (d : Option Addr) (B : Heap) (sI : Shared) (σ : L2.St) (H : Hp) (s : Shared) : Prop where
  inv : Inv X pins σ H sI
  nb : ∀ b o, sI.heap.get? b = some o → b ∉ frs X.stack → B.get? b = some o
  up : sI.heap.UpToSlots s.heap
  fl : HandSPX.FlyingZ B (X.env :: X.outer) a (Zc cls d) s.heap
  na : H a = none
  os : s.os = sI.os
  ag : AllBare s.gens
variable {a : Addr} {cls : Value} {d : Option Addr} {B : Heap} {sI s : Shared} {σ : L2.St} {H : Hp}
theorem Landed.here (c : Landed X pins a cls d B sI σ H s) : Inv X pins σ H s := by
  have j := c.inv.landed c.nb c.fl.1 c.up c.os c.ag
  exact j
theorem Landed.obj (c : Landed X pins a cls d B sI σ H s) (hf : X.env.frame = some X.env.locals) :
    ∃ oe vs, s.heap.get? a = some oe ∧ Zc cls d oe ∧ oe.data = .fields vs ∧ a ≠ X.env.locals ∧ a ∉ X.fs := by
  obtain ⟨oe, vs, h1, h2, h3⟩ := c.fl.there
  have off : a ∉ frs (X.env :: X.outer) := fun hm => by
    obtain ⟨_, o', e', no⟩ := c.fl.2.2.1.mem hm
    rw [h1] at e'
    cases e'
    exact no _ h3
  refine ⟨oe, vs, h1, h2, h3, fun z => ?_, fun hm => ?_⟩
  · exact off (List.mem_filterMap.mpr ⟨X.env, List.mem_cons_self, by rw [hf, z]⟩)
  · obtain ⟨en, he, q⟩ := List.mem_filterMap.mp hm
    exact off (List.mem_filterMap.mpr ⟨en, List.mem_cons_of_mem _ he, q⟩)
theorem Landed.again (c : Landed X pins a cls d B sI σ H s) {h' : Heap} (fl : HandSPX.FlyingZ B (X.env :: X.outer) a (Zc cls d) h') (up : s.heap.UpToSlots h') : Landed X pins a cls d B sI σ H { s with heap := h' } :=
  ⟨c.inv, c.nb, c.up.trans up, fl, c.na, c.os, c.ag⟩
/-- the clauses, one after the other -/
theorem clauses_run {n : Str} {i : Nat} {out : WX} {Ds : Ends} (hs : X.stack = X.env :: X.outer) (hf : X.env.frame = some X.env.locals) (hN : X.N.Nodup) (hi : X.N[i]? = some n) (hln : X.env.kindOf n = some .local) (tk : Takes X out) :
    ∀ {hds : List ExceptHandler} {l : List Clause}, HdN X n hds l → ∀ {s : Shared}, Landed X pins a cls d B sI σ H s → wAsN X.K X.N.length i out Ds l cls d σ H →
      wpAny (model X.prog X.w) X.A (handleBy (.ref a) X.env hds) (SP X pins Ds) X.xe s := by
  intro hds l hd
  induction hd with
  | nil =>
    intro s c wo
    refine wpAny_handleBy_nil ?_
    obtain ⟨_, _, _, oe, vs, T, oT, ts, he, hz, hdt, h1, _⟩ := id c.fl
    have go : wpAny (model X.prog X.w) X.A (setFlight (.ref a) X.env.frame) (fun _ s4 => wpAny (model X.prog X.w) X.A (throw (.ref a) : Sem Flow) (SP X pins Ds) X.xe s4) X.xe s := by
      rw [hf]
      refine HandSPX.setFlight_upZ c.fl fun h4 held up4 => wpAny_throw (tk _ _ ?_)
      refine ⟨a, B, sI, pins, σ, H, cls, d, rfl, c.inv, c.nb, c.up.trans up4, .inr (.inr ?_), c.na, c.os, c.ag, wo⟩
      rw [hs]
      exact held
    unfold PySem.passOn
    refine wpAny_bind (wpAny_field he hdt h1 ?_)
    have nz : ¬ ((Value.ref T == Value.none) = true) := by simp
    rw [if_neg nz]
    first | exact wpAny_bind go | exact wpAny_bind (wpAny_pure (wpAny_bind go))
  | @cons x q b su np hp hds l nm suite rest ih =>
    intro s c wq
    obtain ⟨yes, fits, wq⟩ := wq
    obtain ⟨oe, vs, he, hz, hdt, nL, nF⟩ := c.obj hf
    have inS := c.here.suite he hdt c.na nL nF
    have ty : PySem.W.Looks (model X.prog X.w) s.heap (typeOf (.ref a)) cls := fun A Q E s' kp hq => wpAny_typeOf_ref (kp _ _ he) (by rw [hz.1]; exact hq)
    have mt := PySem.W.exm_one (M := model X.prog X.w) c.here.kIn ty fits
    refine wpAny_handleBy_cons (codeAny_handlers_test ?_) (fun z => by cases z)
    have named : ∀ {Q : Value → Shared → Prop} {E : Value → Shared → Prop}, Q q.c s → wpAny (model X.prog X.w) (X.A.mark (some (.ref a))) (eval (.Name x np) X.env) Q E s := fun {Q E} hq => by
      obtain ⟨g1, g2, g3⟩ := nm
      rcases g3 with g3 | ⟨g3, g4, g5⟩
      · exact ld_glob (X := X.suite a ((a, oe) :: (X.pn ++ pins))) inS g1 g3 hq g2
      · exact ld_blt (X := X.suite a ((a, oe) :: (X.pn ++ pins))) inS g1 g3 g4 hq g5 g2
    refine named (mt.here ?_)
    cases yes with
    | false => exact ih c wq
    | true =>
      refine codeAny_handlers_suite_as (HandSPX.lands_againZ c.fl fun h4 fl4 up4 => ?_)
      have c4 := c.again fl4 up4
      obtain ⟨o4, v4, he4, hz4, hd4, mL, mF⟩ := c4.obj hf
      have in4 := c4.here.suite he4 hd4 c.na mL mF
      refine store_ok (X := X.suite a ((a, o4) :: (X.pn ++ pins))) (v := .ref a) in4 hN hi (.inl hln) rfl (fun s5 in5 => ?_) (.inr hln)
      have run := (suite a o4 cls d (X.pn ++ pins) hz4 ⟨v4, hd4⟩).run [] s5 _ H _ in5 (wq c.inv.len a c.na)
      have fin : ∀ {σ6 : L2.St} {H6 : Hp} {s6 : Shared} {Q : Shared → Prop}, Inv (X.suite a ((a, o4) :: (X.pn ++ pins))) [] σ6 H6 s6 → (∀ s7, Inv X pins (σ6.set i none) H6 s7 → Q s7) → wpAny (model X.prog X.w) X.A (do bindName X.env n .none; unbindBehindTheSuite X.env n hp) (fun _ s7 => Q s7) X.xe s6 :=
        fun {σ6 H6 s6 Q} j hq => gone_ok (j.unsuite c.inv.ok) hN hi hln hq
      refine wpAny_mono run (fun fl s6 z => ?_) (fun _ _ z => z.elim)
      cases fl with
      | ret u => obtain ⟨v6, σ6, H6, j, r6, q6⟩ := z; exact fin j fun s7 j7 => ⟨_, _, _, j7, r6, q6⟩
      | next => obtain ⟨σ6, H6, j, q6⟩ := z; exact fin j fun s7 j7 => ⟨_, _, j7, q6⟩
      | brk => obtain ⟨σ6, H6, j, q6⟩ := z; exact fin j fun s7 j7 => ⟨_, _, j7, q6⟩
      | cont => obtain ⟨σ6, H6, j, q6⟩ := z; exact fin j fun s7 j7 => ⟨_, _, j7, q6⟩
/-- THE RULE -/
theorem ps_try_asN {body : List Stmt} {h0 : ExceptHandler} {hds : List ExceptHandler} {l : List Clause} {n : Str} {i : Nat} {tb : WX → TS} {out : WX} {pos : Pos} (hs : X.stack = X.env :: X.outer) (hf : X.env.frame = some X.env.locals) (hN : X.N.Nodup) (hi : X.N[i]? = some n) (hln : X.env.kindOf n = some .local) (tk : Takes X out)
    (hb : ∀ (W : WX) (pn : List (Addr × Obj)) (xe : Value → Shared → Prop), Takes (X.tr pn xe) W → PassesOwn (model X.prog X.w) X.A X.env xe → PSs (X.tr pn xe) body (tb W)) (hh : HdN X n (h0 :: hds) l) :
    PS X (.Try body (h0 :: hds) [] [] pos) (fun Ds s H => tb (wAsN X.K X.N.length i out Ds l) Ds s H) := by
  refine ⟨fun pins s σ H Ds I h => wpAny_Try_except ?_⟩
  have fr : X.A.frames = some (X.env :: X.outer) := by rw [I.ok.frames, hs]
  have caught : ∀ u s', XE (X.tr (X.pn ++ pins) fun e s1 => wpAny (model X.prog X.w) X.A (noteFrame e X.env) (fun _ s2 => wpAny (model X.prog X.w) X.A (setFlight e none) (fun _ s3 => wpAny (model X.prog X.w) X.A (handleBy e X.env (h0 :: hds)) (SP X pins Ds) X.xe s3) X.xe s2) X.xe s1) (wAsN X.K X.N.length i out Ds l) u s' →
      wpAny (model X.prog X.w) X.A (noteFrame u X.env) (fun _ s2 => wpAny (model X.prog X.w) X.A (setFlight u none) (fun _ s3 => wpAny (model X.prog X.w) X.A (handleBy u X.env (h0 :: hds)) (SP X pins Ds) X.xe s3) X.xe s2) X.xe s' := fun u s' z => by
    obtain ⟨a, B, sI, pins', σ', H', cls, d, rfl, J', nb, up, sky, na, os, ag, w⟩ := z
    have J : Inv X pins σ' H' sI := J'.ofTry I.ok
    have sky' : Sky B (X.env :: X.outer) a (Zc cls d) X.env.locals s'.heap := by
      rw [← hs]
      exact sky
    refine Sky.land Zc.steady fr hf sky' fun h3 fl3 up3 => ?_
    exact clauses_run hs hf hN hi hln tk hh (s := { s' with heap := h3 }) ⟨J, nb, up.trans up3, fl3, na, os, ag⟩ w
  refine wpAny_mono ((hb _ _ _ caught PassesOwn.looking).run [] s σ H Ds (I.toTry _) h) (fun fl s1 z => ?_) (fun _ _ z => z)
  cases fl with
  | next => obtain ⟨σ', H', J', q⟩ := z; exact wpAny_execs_nil ⟨σ', H', J'.ofTry I.ok, q⟩
  | brk => obtain ⟨σ', H', J', q⟩ := z; exact ⟨σ', H', J'.ofTry I.ok, q⟩
  | cont => obtain ⟨σ', H', J', q⟩ := z; exact ⟨σ', H', J'.ofTry I.ok, q⟩
  | ret u => obtain ⟨v, σ', H', J', r, q⟩ := z; exact ⟨v, σ', H', J'.ofTry I.ok, r, q⟩
end
end DL

/-! DX3: defs that may show data (repr): called where nothing is being shown. -/
namespace DL
open PySem L2 PyProof.Rows
/-- what such a def promises -/
def FnG (P : Program) (w : World) (K : PySem.W.Frag) (mg : Str → Option Value) (base : Heap) (lvl : Nat) (f : Addr) (sp : Sp) : Prop :=
  ∀ (A : Around) (outer : List Env) (s : Shared) (H : Hp) (us : List Value) (vs : List V) (Q : VK) (E : XK), A.guards = some [] → Room lvl A → Env0 P w K mg base A outer s H → Vals vs us → sp vs H Q E →
    codeAny (model P w) A (.call (.ref f) ⟨us, []⟩) (CR (L2.CX P w) outer P w H s Q E) s
section
variable {P : Program} {w : World} {K : PySem.W.Frag} {mg : Str → Option Value} {base : Heap} {k : Kx}
theorem fng_ok {x qual : Str} {st : Stmt} {f : Addr} {fd : FuncData} {N ps : List Str} {lvl : Nat} {m : DEnv → M Out} {kV doc pm cdv ct oc : Value} {an od : Option Addr} {osl : Array (Option Value)} (S : FnScope N ps (defScope st)) (e : fd = PySem.W.fnOf x qual (defArgs st) (defBody st) (defScope st) .none kV doc pm an cdv ct)
    (lk : K.lookup f = some ⟨oc, od, .func fd, osl⟩) (hcd : PySem.W.codeIn K cdv qual = true) (hbi : Binds K fd ps [])
    (hb : ∀ (A : Around) (outer : List Env) (s : Shared) (H : Hp) (E : XK), A.guards = some [] → Room lvl (A.deeper (envOfC qual (defScope st) s.heap.objs.size f cdv)) → JB k (cxOf (L2.CX P w) P w K mg base N qual (defScope st) f cdv A outer s H E) E (defBody st) m) :
    FnG P w K mg base (lvl + 1) f (spD k K ps.length (fnD N.length m)) := by
  subst e
  intro A outer s H us vs Q E hg hr e0 r hsp
  obtain ⟨ds, G, L, μ, ra, hl, w0, gd⟩ := hsp
  have kin : K.In s.heap := e0.mod.kin.keeps fun b o e => (e0.bs b o e).1
  have hlv : vs.length = ps.length := by rw [ra.len, hl]
  have bind := hbi s us kin (by rw [List.append_nil, ← Paired.length r, hlv])
  rw [List.append_nil] at bind
  refine LamX.run_ofS lk hcd S hr e0 bind r hlv fun hr' => ⟨_, hb A outer s H E hg hr', ?_⟩
  have g1 := scope_good (X := cxOf (L2.CX P w) P w K mg base N qual (defScope st) f cdv A outer s H E) w0 gd
  refine ⟨startD N.length ds, G, L, μ, start_sg ra, w0, Good.mono (Good.bind g1) fun o m1 G1 H1 L1 st1 w1 q1 => ?_⟩
  cases o with
  | nx e => exact fun s1 _ => Good.ret q1 w1 _ .non
  | rt d => exact fun v rv => Good.ret q1 w1 v rv
  | bk e => exact False.elim q1
  | ct e => exact False.elim q1
variable {X : Cx} {E : XK}
theorem j_callG {x : Str} {p pos : Pos} {a : Expr} {es : List Expr} {ms : DEnv → M (List D)} {lvl : Nat} {f : Addr} {n : Nat} {den : List D → M D} (F : FnG X.prog X.w X.K X.mg X.base lvl f (spD k X.K n den)) (hgd : X.A.guards = some []) (hr : Room lvl X.A) (hx : Passes (L2.CX X.prog X.w) X E) (hg : Gl X x) (hm : X.mg x = some (.ref f))
    (hk : PySem.W.keepIn X.K (.ref f) = true) (ha : JA k X E (a :: es) ms) (hdb : (x == ("__debug__" : Str)) = false := by decide) (he : starEach (a :: es) X.env = (false, eval a X.env) :: starEach es X.env := by rfl) (hpl : (backTo pos (starEach es X.env)).any (·.1) = false := by rfl) :
    JE k X E (.Call (.Name x p) (a :: es) [] pos) (eCallB (callN n den) ms) := by
  refine ⟨fun pins s σ H Q I h => wpAny_Call_Name_kw (ld_glob I hg hm ?_ hdb)⟩
  obtain ⟨e, G, L, μ, sg, w, gd⟩ := h
  have h' : dA k X.K E ms σ H fun vs H1 => spD k X.K n den vs H1 Q E := ⟨e, G, L, μ, sg, w, Good.mono (Good.bind gd) fun ds m1 G1 H1 L1 st1 w1 q1 vs r => by
    obtain ⟨hl, q1⟩ := good_ite q1
    exact ⟨ds, G1, L1, m1, r, hl, w1, q1⟩⟩
  refine PySem.W.callWith_K (h₀ := X.base) I.ok.mod.kin hk (thn (ha.run pos pins s σ H _ I h') fun us s1 ⟨vs, H1, I1, r, q⟩ => ⟨I1.kIn, ?_⟩) he hpl
  refine wpAny_call (codeAny_mono (F X.A X.stack s1 H1 us vs Q E hgd hr I1.env0 r q) fun r s' hq => ?_)
  cases r with
  | error e => exact hx pins σ H1 s1 e s' I1 hq
  | ok fl =>
    cases fl with
    | ret u => exact I1.after hq
    | next => exact False.elim hq
    | brk => exact False.elim hq
    | cont => exact False.elim hq

/-! ### repr -/
/-- small data: what they show as is short -/
def rTop (d : D) (m : Store) : Option PyData := match topPD d m with
  | some x => if (x.showable && (decide (x.shown.length ≤ 100000) && SeqAt.shaped x)) = true then some x else none
  | none => none
def reprD : List D → M D
  | [d] => fun m => match rTop d m with
    | some x => .ok (.str x.shown) m
    | none => .bad
  | _ => M.bad
mutual
theorem noDict_of : ∀ x : PyData, x.canLay0 = true → x.hasDict = false
  | .none, _ => rfl
  | .bool _, _ => rfl
  | .int _, _ => rfl
  | .str _, _ => rfl
  | .list xs, h => by
    rw [PyData.hasDict]
    exact noDictAll xs h
  | .tuple xs, h => by
    rw [PyData.hasDict]
    exact noDictAll xs h
  | .dict _, h => nomatch h
theorem noDictAll : ∀ xs : List PyData, PyData.canLayAll0 xs = true → PyData.hasDictAll xs = false
  | [], _ => rfl
  | x :: xs, h => by
    have h' : x.canLay0 = true ∧ PyData.canLayAll0 xs = true := by simpa [PyData.canLayAll0] using h
    rw [PyData.hasDictAll, noDict_of x h'.1, noDictAll xs h'.2]
    rfl
end
def rRepr (K : PySem.W.Frag) : List V → Hp → VK → Prop := fun xs H Q => ∃ x d, xs = [x] ∧ Dp K H x d ∧ d.showable = true ∧ d.shown.length ≤ sizeLine ∧ SeqAt.shaped d = true ∧ Q (.str d.shown) H
theorem cr_repr (hgd : X.A.guards = some []) (hu : X.A.units + 66 < cLine) : CallR X (.builtin "repr") (rRepr X.K) := by
  intro pins s σ H xs us Q I r h
  obtain ⟨x, d, rfl, dp, sh, sz, sp, q⟩ := h
  cases r with
  | @cons _ u _ _ rx r0 =>
    cases r0
    have lay := SeqAt.canLay_of_shaped sp
    cases dp with
    | non => cases rx; exact PySem.P.repr_of_none ⟨.str _, H, I.tok _, ⟨_, rfl⟩, q⟩
    | bl b => cases rx; exact PySem.P.repr_of_bool ⟨.str _, H, I.tok _, ⟨_, rfl⟩, by cases b <;> exact q⟩
    | int i =>
      obtain ⟨t, rfl⟩ := rx
      exact PySem.P.repr_of_int (of_decide_eq_true sh) ⟨.str _, H, I.tok _, ⟨_, rfl⟩, q⟩
    | str z =>
      obtain ⟨t, rfl⟩ := rx
      exact PySem.P.repr_of_str ⟨.str _, H, I.tok _, ⟨_, rfl⟩, q⟩ sz
    | @lst a ws ds hs ha =>
      obtain ⟨as, rd⟩ := Dp.reads I (.list ds) _ u (.lst hs ha) rx
      cases rx
      refine repr_of_reads' rd sh (fun z => by rw [noDict_of _ lay] at z; cases z) hgd ?_ (fun _ _ e => e) (fun h' t tk kp => ?_) sz
      · have := SeqAt.depth_of_shaped sp
        omega
      · exact ⟨.str _, H, I.kept kp, ⟨_, rfl⟩, q⟩
    | @tup a ws ds hs ha =>
      obtain ⟨as, rd⟩ := Dp.reads I (.tuple ds) _ u (.tup hs ha) rx
      cases rx
      refine repr_of_reads' rd sh (fun z => by rw [noDict_of _ lay] at z; cases z) hgd ?_ (fun _ _ e => e) (fun h' t tk kp => ?_) sz
      · have := SeqAt.depth_of_shaped sp
        omega
      · exact ⟨.str _, H, I.kept kp, ⟨_, rfl⟩, q⟩
theorem repr_cl : ClD k X.K E (rRepr X.K) reprD := by
  intro xs ds G H L μ Q r w g
  match ds, r, g with
  | [d], r, g =>
    obtain ⟨x, rfl, rx⟩ := one_of (H := H) r
    have g' : Good k X.K E G H L (match rTop d μ with | some x => .ok (.str x.shown) μ | none => .bad) (QV k X.K Q) := g
    unfold rTop at g'
    cases ht : topPD d μ with
    | none => rw [ht] at g'; exact False.elim g'
    | some y =>
      rw [ht] at g'
      simp only at g'
      split at g'
      · rename_i z hz
        split at hz
        · rename_i hc
          cases hz
          simp only [Bool.and_eq_true, decide_eq_true_eq] at hc
          exact ⟨x, y, rfl, dp_top w rx ht, hc.1, size_of hc.2.1, hc.2.2, Good.okE g' w _ (.str _)⟩
        · cases hz
      · exact False.elim g'
  | [], r, g => exact False.elim g
  | _ :: _ :: _, r, g => exact False.elim g
theorem f_repr (hgd : X.A.guards = some []) (hu : X.A.units + 66 < cLine) : FunD k X E (.builtin "repr") reprD := ⟨_, cr_repr hgd hu, repr_cl⟩
end
end DL

/-! DX3b: repr of dicts. -/
namespace DL
open PySem L2 PyProof.Rows
section
variable {k : Kx} {X : Cx} {E : XK}
/-! ### repr of a dict -/
mutual
/-- no list within -/
def noL : PyData → Bool
  | .list _ => false
  | .dict _ => false
  | .tuple xs => noLs xs
  | _ => true
def noLs : List PyData → Bool
  | [] => true
  | x :: xs => noL x && noLs xs
end
mutual
theorem reads_noL {h : Heap} : ∀ {x : PyData} {u : Value} {as : List Addr}, Reads h u x as → noL x = true → as = []
  | _, _, _, .none, _ => rfl
  | _, _, _, .bool _, _ => rfl
  | _, _, _, .int _ _, _ => rfl
  | _, _, _, .str _ _, _ => rfl
  | _, _, _, .list _ _ _ _, e => by simp [noL] at e
  | _, _, _, .tuple _ _ _ r, e => reads_noLs r (by simpa [noL] using e)
  | _, _, _, .dict _ _ _ _ _, e => by simp [noL] at e
theorem reads_noLs {h : Heap} : ∀ {xs : List PyData} {us : List Value} {as : List Addr}, ReadsAll h us xs as → noLs xs = true → as = []
  | _, _, _, .nil, _ => rfl
  | _, _, _, .cons r1 r2, e => by
    rw [noLs, Bool.and_eq_true] at e
    rw [reads_noL r1 e.1, reads_noLs r2 e.2]
    rfl
end
def keyPD : Key → PyData
  | .inl i => .int i
  | .inr x => .str x
/-- a dict's data -/
def dctPD : D → Option PyData
  | .dct ks ds => match toPDs ds with
    | some xs => if noLs xs = true then some (.dict ((ks.map keyPD).zip xs)) else none
    | none => none
  | _ => none
def rRepr2 (K : PySem.W.Frag) : List V → Hp → VK → Prop := fun xs H Q => ∃ (a : Addr) (ks : List Key) (vs : List V) (ds : List PyData), xs = [.ref a] ∧ H a = some (.dK (ks.zip vs)) ∧ ks.length = vs.length ∧ DpAll K H vs ds ∧ noLs ds = true ∧ (PyData.dict ((ks.map keyPD).zip ds)).showable = true ∧
  (PyData.dict ((ks.map keyPD).zip ds)).shown.length ≤ sizeLine ∧ (PyData.dict ((ks.map keyPD).zip ds)).depth ≤ 64 ∧ Q (.str (PyData.dict ((ks.map keyPD).zip ds)).shown) H
theorem dpAll_len {K : PySem.W.Frag} {H : Hp} : ∀ {vs : List V} {ds : List PyData}, DpAll K H vs ds → vs.length = ds.length
  | _, _, .nil => rfl
  | _, _, .cons _ r => by simp [dpAll_len r]
theorem key_reads {h : Heap} {P : Program} {w : World} {x : Key} {u : Value} (e : (mixKind P w).is x u = true) : Reads h u (keyPD x) [] := by
  rw [mixKind_is] at e
  rcases keyIs_shape e with ⟨i, t, rfl, rfl⟩ | ⟨z, t, rfl, rfl⟩
  · exact .int i t
  · exact .str z t
theorem pairs_reads {h : Heap} {P : Program} {w : World} : ∀ {ks : List Key} {vs : List V} {es : List DictEntry} {us : List (Key × Value)}, ks.length = vs.length → KV (ks.zip vs) us → Pairs (mixKind P w) es us →
    ReadsAll h (es.map (·.key)) (ks.map keyPD) [] ∧ Vals vs (es.map (·.val))
  | [], [], _, _, _, r, p => by cases r; cases p; exact ⟨.nil, .nil⟩
  | x :: ks, v :: vs, _, _, hl, r, p => by
    cases r with
    | cons r1 r2 =>
      cases p with
      | cons p1 p2 p3 =>
        obtain ⟨h1, h2⟩ := pairs_reads (ks := ks) (vs := vs) (by simpa using hl) r2 p3
        have rv := r1.2
        rw [← p2] at rv
        refine ⟨?_, .cons rv h2⟩
        have e := r1.1
        simp only at e
        rw [← e] at p1
        exact ReadsAll.cons (key_reads p1) h1
theorem cr_repr2 (hgd : X.A.guards = some []) (hu : X.A.units + 66 < cLine) : CallR X (.builtin "repr") (rRepr2 X.K) := by
  intro pins s σ H xs us Q I r h
  obtain ⟨a, ks, vs, ds, rfl, ha, hl, dp, nl, sh, sz, dep, q⟩ := h
  cases r with
  | @cons _ u _ _ rx r0 =>
    cases r0
    cases (show u = Value.ref a from rx)
    obtain ⟨_, hsm, ws, rk, o, es, ep, ho, ex, hd, _, pr, _⟩ := dk_of I.hok ha
    obtain ⟨r1, r2⟩ := pairs_reads (h := s.heap) hl rk pr
    obtain ⟨bs, r3⟩ := Dp.readsAll I ds _ _ dp r2
    have e3 := reads_noLs r3 nl
    subst e3
    have hlk : (ks.map keyPD).length = ds.length := by rw [List.length_map, hl, dpAll_len dp]
    have rd : Reads s.heap (.ref a) (.dict ((ks.map keyPD).zip ds)) (a :: [] ++ []) :=
      Reads.dict ho ex.1 hd (by rw [List.map_fst_zip (by omega)]; exact r1) (by rw [List.map_snd_zip (by omega)]; exact r3)
    refine repr_of_reads' rd sh (fun _ z => ?_) hgd ?_ (fun _ _ e => e) (fun h' t tk kp => ?_) sz
    · simp only [List.append_nil, List.mem_singleton] at z
      rw [← z] at hsm
      simp at hsm
    · omega
    · exact ⟨.str _, H, I.kept kp, ⟨_, rfl⟩, q⟩
/-- repr of data, a dict perhaps -/
def rprD : List D → M D
  | [d] => match dctPD d with
    | some x => if (x.showable && (decide (x.shown.length ≤ 100000) && decide (x.depth ≤ 64))) = true then pure (.str x.shown) else M.bad
    | none => reprD [d]
  | _ => M.bad
def rRpr (K : PySem.W.Frag) : List V → Hp → VK → Prop := fun xs H Q => rRepr K xs H Q ∨ rRepr2 K xs H Q
theorem cr_rpr (hgd : X.A.guards = some []) (hu : X.A.units + 66 < cLine) : CallR X (.builtin "repr") (rRpr X.K) := CallR.or (cr_repr hgd hu) (cr_repr2 hgd hu)
theorem rpr_cl : ClD k X.K E (rRpr X.K) rprD := by
  intro xs ds G H L μ Q r w g
  match ds, r, g with
  | [d], r, g =>
    have g' : Good k X.K E G H L ((match dctPD d with | some x => if (x.showable && (decide (x.shown.length ≤ 100000) && decide (x.depth ≤ 64))) = true then (pure (.str x.shown) : M D) else M.bad | none => reprD [d]) μ) (QV k X.K Q) := g
    cases hd : dctPD d with
    | none =>
      rw [hd] at g'
      exact .inl (repr_cl xs [d] G H L μ Q r w g')
    | some x =>
      rw [hd] at g'
      obtain ⟨hc, q'⟩ := good_ite g'
      simp only [Bool.and_eq_true, decide_eq_true_eq] at hc
      cases d with
      | dct ks ds =>
        obtain ⟨v, rfl, rx⟩ := one_of (H := H) r
        cases rx with
        | @dct _ a vs _ hs hl ha =>
          unfold dctPD at hd
          dsimp only at hd
          cases e2 : toPDs ds with
          | none => rw [e2] at hd; cases hd
          | some ys =>
            rw [e2] at hd
            simp only at hd
            split at hd
            · rename_i hn
              cases hd
              exact .inr ⟨a, ks, vs, ys, rfl, w.ext _ _ hs, hl, dpA_of w.ext ds vs ys ha e2, hn, hc.1, size_of hc.2.1, hc.2.2, Good.ret q' w _ (.str _)⟩
            · cases hd
      | _ => cases hd
  | [], r, g => exact False.elim g
  | _ :: _ :: _, r, g => exact False.elim g
theorem f_rpr (hgd : X.A.guards = some []) (hu : X.A.units + 66 < cLine) : FunD k X E (.builtin "repr") rprD := ⟨_, cr_rpr hgd hu, rpr_cl⟩
end
end DL

/-! DX4: said(lambda: e): try: call() / except C as n: return [tag, repr(n.f)] / .. / return [done]. -/
namespace DL
open PySem L2 PyProof.Rows
/-- one clause of such a def: the class's number, the class's name, the field, the tag -/
structure Say where
  c : Nat
  x : Str
  f : Str
  tag : Str
def said0 (hs : List (Nat × Str)) (done : Str) (m : M D) : M D := fun μ => match m μ with
  | .ok _ μ' => mkL [.str done] μ'
  | .exn c fs μ' => match hs.lookup c, fs with
    | some tag, [v] => (rprD [v] >>= fun r => mkL [.str tag, r]) μ'
    | _, _ => .bad
  | .bad => .bad
def eSaid (hs : List (Nat × Str)) (done : Str) (m : DEnv → M D) : DEnv → M D := fun e => scopeM (said0 hs done (m e))
/-- the suite of a clause -/
def sayS (y : Say) (n : Str) (b : Stmt) : Prop := ∃ (j : Nat) (p0 p1 p2 p3 p4 p5 p6 : Pos), b = .Return (some (.List [.Constant (.str y.tag) j p0, .Call (.Name "repr" p1) [.Attribute (.Name n p2) y.f p3] [] p4] p5)) p6
inductive SayHd (n : Str) : List ExceptHandler → List Say → Prop
  | nil : SayHd n [] []
  | cons {y : Say} {b : Stmt} {np hp : Pos} {hds : List ExceptHandler} {l : List Say} (s : sayS y n b) (r : SayHd n hds l) : SayHd n (.ExceptHandler (some (.Name y.x np)) (some n) [b] hp :: hds) (y :: l)
/-- what the text says of the clauses -/
structure SayOk (k : Kx) (K : PySem.W.Frag) (mg : Str → Option Value) (cs : List Nat) (l : List Say) : Prop where
  at_ : ∀ y ∈ l, mg y.x = some (.ref (k.cl y.c))
  fld : ∀ y ∈ l, k.xf y.c = [y.f] ∧ XfC K (k.cl y.c) ∧ PySem.W.findIn K (.ref (k.cl y.c)) y.f = some none
  dbg : ∀ y ∈ l, (y.x == ("__debug__" : Str)) = false
  fit : ∀ c ∈ cs, ∀ y ∈ l, PySem.W.exmOne K (.ref (k.cl c)) (.ref (k.cl y.c)) = some (decide (c = y.c))
section
variable {k : Kx} {X : Cx} {E : XK}
/-- what is made of what the lambda does -/
def TTsaid (k : Kx) (K : PySem.W.Frag) (hs : List (Nat × Str)) (done : Str) : (XK → Hp → VK → Prop) → Hp → VK → Prop := fun tl H Q =>
  ∃ E1 : XK, tl E1 H (fun _ H1 => [V.str done].length ≤ sizeLine ∧ ∀ p, H1 p = none → Q (.ref p) (upd H1 p (.lst [.str done]))) ∧
    ∀ cls d H1, E1 cls d H1 → ∃ c tag dd f v, cls = .ref (k.cl c) ∧ hs.lookup c = some tag ∧ d = some dd ∧ k.xf c = [f] ∧ H1 dd = some (.xd [(f, v)]) ∧
      rRpr K [v] H1 (fun z H2 => [V.str tag, z].length ≤ sizeLine ∧ ∀ p, H2 p = none → Q (.ref p) (upd H2 p (.lst [.str tag, z])))
/-- the suite's reading -/
def sayT (k : Kx) (K : PySem.W.Frag) (i : Nat) (y : Say) : Clause := ⟨.ref (k.cl y.c), fun a cls d => tRet (tLst (tCons (tC (.str y.tag)) (tCons (tCB (rRpr K) (tCons (tXf a cls d (k.cl y.c) y.f (tVar i)) tNil)) tNil)))⟩
theorem sayW {K : PySem.W.Frag} {mg : Str → Option Value} {len i : Nat} {out : WX} {Ds : Ends} {c : Nat} {tag f : Str} {dd : Addr} {v : V} {σ : L2.St} {H : Hp} {cs : List Nat} (hi : i < len) (hc : c ∈ cs) (hx : k.xf c = [f]) (hd : H dd = some (.xd [(f, v)]))
    (hq : rRpr K [v] H (fun z H2 => [V.str tag, z].length ≤ sizeLine ∧ ∀ p, H2 p = none → Ds.rt (.ref p) (upd H2 p (.lst [.str tag, z])))) :
    ∀ {l : List Say}, SayOk k K mg cs l → (l.map fun y => (y.c, y.tag)).lookup c = some tag → wAsN K len i out Ds (l.map (sayT k K i)) (.ref (k.cl c)) (some dd) σ H := by
  intro l
  induction l with
  | nil => intro _ h; cases h
  | cons y l ih =>
    intro ok h
    refine ⟨_, ok.fit c hc y List.mem_cons_self, ?_⟩
    by_cases e : c = y.c
    · subst e
      simp [List.lookup] at h
      subst h
      obtain ⟨h1, _, _⟩ := ok.fld y List.mem_cons_self
      rw [h1] at hx
      obtain rfl : y.f = f := by simpa using hx
      simp only [decide_true, if_true]
      intro hlen a ha
      refine ⟨.ref a, List.getElem?_set_self (by rw [hlen]; exact hi), rfl, rfl, dd, _, v, rfl, hd, by simp [List.lookup], ?_⟩
      exact hq
    · have e' : (c == y.c) = false := by simpa using e
      simp only [List.map_cons, List.lookup, e'] at h
      simp only [e, decide_false, Bool.false_eq_true, if_false]
      exact ih ⟨fun z hz => ok.at_ z (List.mem_cons_of_mem _ hz), fun z hz => ok.fld z (List.mem_cons_of_mem _ hz), fun z hz => ok.dbg z (List.mem_cons_of_mem _ hz), fun c hc z hz => ok.fit c hc z (List.mem_cons_of_mem _ hz)⟩ h
theorem say_hds {X0 : Cx} {n : Str} {i : Nat} {cs : List Nat} (hi : X0.N[i]? = some n) (hv : Vis X0.env.scope n) (hdn : (n == ("__debug__" : Str)) = false) (hcn : (n == ("__classdict__" : Str)) = false) (hg : X0.A.guards = some []) (hu : X0.A.units + 66 < cLine) (hgr : X0.env.kindOf "repr" = some .globalImplicit) (hmr : X0.mg "repr" = none)
    (hat : ∀ (e : Expr) (f : Str), (∃ p, e = .Name n p) → attributeBase e f X0.env (eval e X0.env) = eval e X0.env)
    (hst : ∀ (es : List Expr), (∀ e ∈ es, (∃ x j p, e = .Constant (.str x) j p) ∨ (∃ p1 p2 p3 p4 f, e = .Call (.Name "repr" p1) [.Attribute (.Name n p2) f p3] [] p4) ∨ ∃ p2 p3 f, e = .Attribute (.Name n p2) f p3) → starEach es X0.env = es.map fun e => (false, eval e X0.env)) :
    ∀ {hds : List ExceptHandler} {l : List Say}, SayHd n hds l → SayOk k X0.K X0.mg cs l → (∀ y ∈ l, X0.env.kindOf y.x = some .globalImplicit) → HdN X0 n hds (l.map (sayT k X0.K i)) := by
  intro hds l h
  induction h with
  | nil => exact fun _ _ => .nil
  | @cons y b np hp hds l sb r ih =>
    intro ok gl
    obtain ⟨j, p0, p1, p2, p3, p4, p5, p6, rfl⟩ := sb
    refine .cons ⟨gl y List.mem_cons_self, ok.dbg y List.mem_cons_self, .inl (ok.at_ y List.mem_cons_self)⟩ (fun a oe cls d pn hz hf => ?_) (ih ⟨fun z hz => ok.at_ z (List.mem_cons_of_mem _ hz), fun z hz => ok.fld z (List.mem_cons_of_mem _ hz), fun z hz => ok.dbg z (List.mem_cons_of_mem _ hz), fun c hc z hz => ok.fit c hc z (List.mem_cons_of_mem _ hz)⟩ fun z hz => gl z (List.mem_cons_of_mem _ hz))
    obtain ⟨h1, h2, h3⟩ := ok.fld y List.mem_cons_self
    have st1 : starEach [.Attribute (.Name n p2) y.f p3] X0.env = [(false, eval (.Attribute (.Name n p2) y.f p3) X0.env)] := hst _ fun e he => by
      simp at he
      exact .inr (.inr ⟨p2, p3, y.f, he⟩)
    have st2 : starEach [.Call (.Name "repr" p1) [.Attribute (.Name n p2) y.f p3] [] p4] X0.env = [(false, eval (.Call (.Name "repr" p1) [.Attribute (.Name n p2) y.f p3] [] p4) X0.env)] := hst _ fun e he => by
      simp at he
      exact .inr (.inl ⟨p1, p2, p3, p4, y.f, he⟩)
    have st0 : starEach [] X0.env = [] := hst [] (fun e he => by simp at he)
    have st3 : starEach [.Constant (.str y.tag) j p0, .Call (.Name "repr" p1) [.Attribute (.Name n p2) y.f p3] [] p4] X0.env = (false, eval (.Constant (.str y.tag) j p0) X0.env) :: starEach [.Call (.Name "repr" p1) [.Attribute (.Name n p2) y.f p3] [] p4] X0.env := by
      rw [st2]
      exact hst _ fun e he => by
        simp at he
        rcases he with rfl | rfl
        · exact .inl ⟨_, _, _, rfl⟩
        · exact .inr (.inl ⟨p1, p2, p3, p4, y.f, rfl⟩)
    have field : PE (X0.suite a ((a, oe) :: pn)) (.Attribute (.Name n p2) y.f p3) (tXf a cls d (k.cl y.c) y.f (tVar i)) := pe_xf h2 h3 hz hf (pe_var (X := X0.suite a ((a, oe) :: pn)) hi hv hdn hcn) (hat _ _ ⟨p2, rfl⟩)
    have arg : PA (X0.suite a ((a, oe) :: pn)) [.Attribute (.Name n p2) y.f p3] (tCons (tXf a cls d (k.cl y.c) y.f (tVar i)) tNil) := pa_cons field pa_nil (by rw [show starEach [.Attribute (.Name n p2) y.f p3] (X0.suite a ((a, oe) :: pn)).env = _ from st1]; exact congrArg _ st0.symm)
    have shown : PE (X0.suite a ((a, oe) :: pn)) (.Call (.Name "repr" p1) [.Attribute (.Name n p2) y.f p3] [] p4) (tCB (rRpr X0.K) (tCons (tXf a cls d (k.cl y.c) y.f (tVar i)) tNil)) :=
      pe_callB (X := X0.suite a ((a, oe) :: pn)) (cr_rpr (X := X0.suite a ((a, oe) :: pn)) hg hu) hgr hmr (by decide +kernel) arg (by decide) (by decide) (by rw [show starEach [.Attribute (.Name n p2) y.f p3] (X0.suite a ((a, oe) :: pn)).env = _ from st1]; exact congrArg _ st0.symm) (by rw [show starEach [] (X0.suite a ((a, oe) :: pn)).env = _ from st0]; rfl)
    exact pss_one (ps_ret (pe_lst (pa_cons pe_str (pa_cons shown pa_nil (by rw [show starEach [.Call (.Name "repr" p1) [.Attribute (.Name n p2) y.f p3] [] p4] (X0.suite a ((a, oe) :: pn)).env = _ from st2]; exact congrArg _ st0.symm)) st3)))
theorem star_plain (env : Env) (n : Str) : ∀ es : List Expr, (∀ e ∈ es, (∃ x j p, e = .Constant (.str x) j p) ∨ (∃ p1 p2 p3 p4 f, e = .Call (.Name "repr" p1) [.Attribute (.Name n p2) f p3] [] p4) ∨ ∃ p2 p3 f, e = .Attribute (.Name n p2) f p3) → starEach es env = es.map fun e => (false, eval e env)
  | [], _ => rfl
  | e :: es, h => by
    have r := star_plain env n es fun x hx => h x (List.mem_cons_of_mem _ hx)
    rcases h e List.mem_cons_self with ⟨x, j, p, rfl⟩ | ⟨p1, p2, p3, p4, f, rfl⟩ | ⟨p2, p3, f, rfl⟩
    · rw [List.map_cons, ← r]; rfl
    · rw [List.map_cons, ← r]; rfl
    · rw [List.map_cons, ← r]; rfl
theorem nat_mem {α : Type} {c : Nat} {t : α} : ∀ {l : List (Nat × α)}, l.lookup c = some t → (c, t) ∈ l
  | [], h => by cases h
  | (b, u) :: l, h => by
    by_cases e : c = b
    · subst e
      simp [List.lookup] at h
      subst h
      exact List.mem_cons_self
    · have e' : (c == b) = false := by simpa using e
      simp only [List.lookup, e'] at h
      exact List.mem_cons_of_mem _ (nat_mem h)
/-- the scope of such a def: its parameter a, its name n -/
structure SaidS (Ng : List Str) (sg : Scope) (a n : Str) (i : Nat) (l : List Say) : Prop where
  nd : Ng.Nodup
  ia : Ng[0]? = some a
  in_ : Ng[i]? = some n
  va : Vis sg a
  ln : sg.names.lookup n = some .local
  dn : (n == ("__debug__" : Str)) = false
  cn : (n == ("__classdict__" : Str)) = false
  da : (a == ("__debug__" : Str)) = false
  ca : (a == ("__classdict__" : Str)) = false
  gr : sg.names.lookup ("repr" : Str) = some .globalImplicit
  gl : ∀ y ∈ l, sg.names.lookup y.x = some .globalImplicit
theorem said_gives {Ng : List Str} {x a n q done : Str} {sg : Scope} {g : Addr} {cdg : Value} {i j : Nat} {p1 p2 p3 p4 p5 p6 p7 : Pos} {h0 : ExceptHandler} {hds : List ExceptHandler} {l : List Say} (S : SaidS Ng sg a n i l) (hgd : X.A.guards = some []) (hu : X.A.units + 80 < cLine) (hmr : X.mg "repr" = none)
    (hh : SayHd n (h0 :: hds) l) (ok : SayOk k X.K X.mg (l.map (·.c)) l)
    (hsw : ∀ env : Env, env.scope = sg → swapsWith (.Call (.Name a p1) [] [] p2) none p3.line env = pure false) :
    LamX.GivesTo X Ng x sg g cdg [.Try [.Expr (.Call (.Name a p1) [] [] p2) p3] (h0 :: hds) [] [] p4, .Return (some (.List [.Constant (.str done) j p5] p6)) p7] a q (TTsaid k X.K (l.map fun y => (y.c, y.tag)) done) := by
  intro f c' s H Q tl act hc h
  obtain ⟨E1, h1, h2⟩ := h
  have hlen : i < Ng.length := (List.getElem?_eq_some_iff.mp S.in_).1
  refine ⟨_, pss_cons (ps_try_asN (X := (cxOf C8.CX0 X.prog X.w X.K X.mg X.base Ng x sg g cdg X.A X.stack s H C8.E0).nox) (n := n) (i := i) (l := l.map (sayT k X.K i)) (out := fun _ _ _ _ => False)
      (tb := fun W Ds σ H => ∃ Ech : XK, (∀ cls d σ' H', Ech cls d H' → W cls d σ' H') ∧ σ[0]? = some (some (.ref f)) ∧ H c' = some (LamX.CodeO c' q) ∧ tl Ech H fun _ H' => Ds.nx σ H')
      rfl rfl S.nd S.in_ S.ln LamX.takes0 (fun W pn xe tk _ => ?_) (say_hds (X0 := (cxOf C8.CX0 X.prog X.w X.K X.mg X.base Ng x sg g cdg X.A X.stack s H C8.E0).nox) S.in_ (.inl S.ln) S.dn S.cn hgd ?_ S.gr hmr (fun e f ⟨p, he⟩ => by subst he; rfl) (star_plain _ n) hh ok S.gl))
    (pss_one (ps_ret (pe_lst (pa_cons pe_str pa_nil)))), ?_⟩
  · refine ⟨fun pins s' σ H' Ds I h' => ?_⟩
    obtain ⟨Ech, hW, e1, e2, e3⟩ := h'
    exact (pss_one (ps_expr (pos := p3) (act W pn xe Ech p1 p2 tk hW) (hsw _ rfl))).run pins s' σ H' Ds I ⟨e1, e2, e3⟩
  · show X.A.units + 3 + 66 < cLine
    omega
  · refine ⟨E1, fun cls d σ' H' z => ?_, ?_, hc, h1⟩
    · obtain ⟨c, tag, dd, fl, v, rfl, hl, rfl, hx, hd, hq⟩ := h2 cls d H' z
      have hcm : c ∈ l.map (·.c) := by
        obtain ⟨y, hy, e⟩ := List.mem_map.mp (nat_mem hl)
        exact List.mem_map.mpr ⟨y, hy, congrArg Prod.fst e⟩
      exact sayW hlen hcm hx hd hq ok hl
    · show (L2.start Ng [V.ref f])[0]? = _
      have : 0 < Ng.length := Nat.lt_of_le_of_lt (Nat.zero_le _) hlen
      cases Ng with
      | nil => simp at this
      | cons y r => rfl
/-! ### a lambda is made -/
theorem lam_wd {K : PySem.W.Frag} {G H H1 : Hp} {L : Lam} {μ : Store} (w : Wd k K G H L μ) (e : LamX.ExtN H H1) (t : LamX.Tabs k.tb H1) : Wd k K G H1 L μ where
  ext := fun a o h => e a o (w.ext a o h) (w.gt a o h)
  len := w.len
  tk := fun p hp => by
    obtain ⟨⟨o1, a1, b1⟩, ⟨o2, a2, b2⟩⟩ := w.tk p hp
    exact ⟨⟨o1, e _ _ a1 b1, b1⟩, ⟨o2, e _ _ a2 b2, b2⟩⟩
  tab := t
  gt := w.gt
  cell := fun n c h => by
    obtain ⟨a, b, hl, ga, gb, r⟩ := w.cell n c h
    refine ⟨a, b, hl, ga, gb, ?_⟩
    cases c with
    | lst ds =>
      obtain ⟨rfl, vs, h1, q⟩ := r
      exact ⟨rfl, vs, e _ _ h1 (nc_lst vs).1, q⟩
    | dct ks ds =>
      obtain ⟨rfl, vs, h1, q⟩ := r
      exact ⟨rfl, vs, e _ _ h1 (fun _ z => (by cases z)), q⟩
    | ins c ss =>
      obtain ⟨vs, h1, q, ⟨o, ho, nc⟩, ne⟩ := r
      refine ⟨vs, ?_, q, ⟨o, e _ _ ho nc.1, nc⟩, ne⟩
      rcases h1 with ⟨x1, x2⟩ | ⟨x1, x2⟩
      · exact .inl ⟨e _ _ x1 (nc_ins _ _ _).1, x2⟩
      · exact .inr ⟨e _ _ x1 (nc_slO _ _ _ _).1, e _ _ x2 (nc_xd []).1⟩
  apart := w.apart
theorem lam_stp {G H H1 : Hp} {L : Lam} (e : LamX.ExtN H H1) : Stp G H L G H1 L where
  g := Same.refl G
  l := pre_refl L
  tr := fun a b o h n => b o (e a o h n) n
  keep := fun a o h n _ => ⟨e a o h n, id⟩
  nl := fun p hp => .inl hp
theorem said_tt {hs : List (Nat × Str)} {done : Str} {m : DEnv → M D} {σ : L2.St} {H : Hp} {Q : VK} (h : dE k X.K E (eSaid hs done m) σ H Q) : LamX.tLam k.tb (TTsaid k X.K hs done) (fun E' => dE k X.K E' m) σ H Q := by
  obtain ⟨e, G, L, μ, sg, w, gd⟩ := h
  have g0 := scope_good w gd
  refine ⟨w.tab, fun H1 ex tb => ?_⟩
  have w1 := lam_wd w ex tb
  have s1 : Stp G H L G H1 L := lam_stp ex
  have g1 : Good k X.K E G H1 L (said0 hs done (m e) μ) (QV k X.K Q) := Good.up g0 s1
  unfold said0 at g1
  cases hm : m e μ with
  | bad => rw [hm] at g1; exact False.elim g1
  | ok d μ' =>
    rw [hm] at g1
    refine ⟨fun _ _ _ => False, ⟨e, G, L, μ, sg, w1, ?_⟩, fun _ _ _ z => z.elim⟩
    rw [hm]
    intro G' H' L' st w' v r
    have g2 : Good k X.K E G' H' L' (mkL [.str done] μ') (QV k X.K Q) := Good.up g1 st
    have := good_mkL (vs := [.str done]) (.cons (.str done) .nil) w' g2
    exact this
  | exn c fs μ' =>
    rw [hm] at g1
    simp only at g1
    refine ⟨fun cls d H' => ∃ dd G' L', cls = .ref (k.cl c) ∧ d = some dd ∧ Stp G H1 L G' H' L' ∧ Wd k X.K G' H' L' μ' ∧ XR k X.K G' L' c fs dd, ⟨e, G, L, μ, sg, w1, ?_⟩, fun cls d H' z => ?_⟩
    · rw [hm]
      exact fun G' H' L' dd st w' xr => ⟨dd, G', L', rfl, rfl, st, w', xr⟩
    · obtain ⟨dd, G', L', rfl, rfl, st, w', gs, hl, hx, ra⟩ := z
      cases ht : hs.lookup c with
      | none => rw [ht] at g1; exact False.elim g1
      | some tag =>
        rw [ht] at g1
        match fs, g1, ra with
        | [], g1, _ => exact False.elim g1
        | _ :: _ :: _, g1, _ => exact False.elim g1
        | [v0], g1, ra =>
          cases ra with
          | @cons gv _ _ _ r0 rn =>
            cases rn
            obtain ⟨f, hf⟩ : ∃ f, k.xf c = [f] := by
              match k.xf c, hl with
              | [f], _ => exact ⟨f, rfl⟩
            rw [hf] at hx
            refine ⟨c, tag, dd, f, gv, rfl, ht, rfl, hf, w'.ext _ _ hx, ?_⟩
            have g2 : Good k X.K E G' H' L' ((rprD [v0] >>= fun r => mkL [.str tag, r]) μ') (QV k X.K Q) := Good.up g1 st
            refine rpr_cl (E := E) [gv] [v0] G' H' L' μ' _ (.cons r0 .nil) w' (Good.mono (Good.bind g2) fun d2 m2 G2 H2 L2 st2 w2 q2 z rz => ?_)
            exact good_mkL (vs := [.str tag, z]) (.cons (.str tag) (.cons rz .nil)) w2 q2
end
end DL

/-! DX5: the rule for said(lambda: e), by what the text says of said; the law's call where data may be shown. -/
namespace DL
open PySem L2 PyProof.Rows
/-- what the text says of the def said (the def st, at g) -/
structure SaidF (k : Kx) (K : PySem.W.Frag) (mg : Str → Option Value) (st : Stmt) (x : Str) (l : List Say) (done : Str) (g : Addr) : Prop where
  df : ∃ (Ng : List Str) (a n : Str) (i : Nat) (oc : Value) (od : Option Addr) (kV doc pm : Value) (an : Option Addr) (cdv ct : Value) (osl : Array (Option Value)),
    K.lookup g = some ⟨oc, od, .func (PySem.W.fnOf x x (defArgs st) (defBody st) (defScope st) .none kV doc pm an cdv ct), osl⟩ ∧ PySem.W.codeIn K cdv x = true ∧ Binds K (PySem.W.fnOf x x (defArgs st) (defBody st) (defScope st) .none kV doc pm an cdv ct) [a] [] ∧
    FnScope Ng [a] (defScope st) ∧ SaidS Ng (defScope st) a n i l ∧ ∃ (h0 : ExceptHandler) (hds : List ExceptHandler) (j : Nat) (p1 p2 p3 p4 p5 p6 p7 : Pos),
      defBody st = [.Try [.Expr (.Call (.Name a p1) [] [] p2) p3] (h0 :: hds) [] [] p4, .Return (some (.List [.Constant (.str done) j p5] p6)) p7] ∧ SayHd n (h0 :: hds) l ∧ ∀ env : Env, env.scope = defScope st → swapsWith (.Call (.Name a p1) [] [] p2) none p3.line env = pure false
  at_ : mg x = some (.ref g)
  kp : PySem.W.keepIn K (.ref g) = true
  mr : mg "repr" = none
  ok : SayOk k K mg (l.map (·.c)) l
section
variable {k : Kx} {X : Cx} {E : XK}
theorem j_said {st : Stmt} {x done : Str} {l : List Say} {hl : List (Nat × Str)} {g c P : Addr} {lvl : Nat} {params : Arguments} {body : Expr} {scope : Scope} {m : DEnv → M D} {p lpos pos : Pos} (F : SaidF k X.K X.mg st x l done g) (hg : Gl X x) (hgd : X.A.guards = some []) (TB : LamX.TabB X.base X.mg c P) (hcode : X.env.code = .ref c)
    (hmT : (P, X.env.qual ++ "<lambda>") ∈ k.tb) (hu : ∀ p ∈ k.tb, p.1 = P → p.2 = X.env.qual ++ "<lambda>") (hr : Room (lvl + 2) X.A) (L : LamX.LamS X.env.scope scope) (hdef : defaultsOf params X.env = ([], []))
    (hbind : ∀ (q : Str) (cl : List (Str × Addr)) (pm cv ctv : Value), bindArgs (PySem.W.kla_fn "<lambda>" q params body scope cl pm cv ctv) ⟨[], []⟩ = pure [])
    (hel : (l.map fun y => (y.c, y.tag)) = hl) (hbody : ∀ (A : Around) (outer : List Env) (s : Shared) (H : Hp) (E : XK) (f c' : Addr), Room lvl (A.deeper (LamX.lamEnv X scope s.heap.objs.size f c')) → JE k (LamX.lamCx X A outer s H E scope f c') E body m)
    (hdb : (x == ("__debug__" : Str)) = false := by decide) : JE k X E (.Call (.Name x p) [.Lambda params body scope lpos] [] pos) (eSaid hl done m) := by
  subst hel
  obtain ⟨Ng, a, n, i, oc, od, kV, doc, pm, an, cdv, ct, osl, lk, hcg, hb, Sg, S, h0, hds, j, p1, p2, p3, p4, p5, p6, p7, hbo, hh, hsw⟩ := F.df
  have room : X.A.units + 80 < cLine := by have := hr.un; omega
  have giv := said_gives (k := k) (X := X) (x := x) (g := g) (cdg := cdv) (q := X.env.qual ++ "<lambda>") (done := done) (j := j) (p4 := p4) (p5 := p5) (p6 := p6) (p7 := p7) S hgd room F.mr hh F.ok hsw
  rw [← hbo] at giv
  exact PE.imp (LamX.pe_lamcall (T := k.tb) hg F.at_ F.kp lk hcg hb Sg S.ia S.va giv TB hcode hmT hu hr L hdef hbind hbody hdb S.da S.ca) fun s H Q h => said_tt h
theorem pass_lam {A : Around} {outer : List Env} {s : Shared} {H : Hp} {scope : Scope} {f c' : Addr} : Passes (L2.CX X.prog X.w) (LamX.lamCx X A outer s H E scope f c') E :=
  passes_call (takes_of rfl rfl rfl rfl) (fun _ _ _ _ h => h)
end
end DL

/-! DX6: the law's call where data may be shown. -/
namespace DL
open PySem L2 PyProof.Rows
abbrev tabO : Obj := { cls := .none, data := .fields #[] }
abbrev scrO (vs : List Value) : Obj := { cls := .type "list", data := .seq vs.toArray }
/-- sys.modules is there -/
def SysD (h : Heap) : Prop := ∃ mm, h.Ns sysModules mm
/-- what is tracked at the law's entry: the tables, and the script unless it stands in the text -/
def entryH (K : PySem.W.Frag) (ts : List Addr) (a : Addr) (vs : List Value) (ns : List Int) : Hp := fun b =>
  if b ∈ ts then some (.tbl #[]) else if b = a ∧ K.lookup a = none then some (.frz (scrO vs) (.lst (ns.map V.int))) else none
section
variable {P : Program} {w : World} {K : PySem.W.Frag} {mg mb : Str → Option Value} {ts : List Addr} {a : Addr} {vs : List Value} {ns : List Int} {h : Heap}
theorem entry_tab {b : Addr} (hb : b ∈ ts) : entryH K ts a vs ns b = some (.tbl #[]) := if_pos hb
theorem entry_off {b : Addr} (hb : b ∉ ts) (hn : b = a → K.lookup a ≠ none) : entryH K ts a vs ns b = none := by
  unfold entryH
  rw [if_neg hb, if_neg]
  exact fun z => hn z.1 z.2
/-- what is tracked, by its object -/
theorem entry_cases {b : Addr} {u : HO} (hT : ∀ b ∈ ts, h.get? b = some tabO) (ha : h.get? a = some (scrO vs)) (e : entryH K ts a vs ns b = some u) :
    (b ∈ ts ∧ u = .tbl #[] ∧ h.get? b = some tabO) ∨ (b = a ∧ b ∉ ts ∧ K.lookup a = none ∧ u = .frz (scrO vs) (.lst (ns.map V.int)) ∧ h.get? b = some (scrO vs)) := by
  unfold entryH at e
  by_cases hb : b ∈ ts
  · rw [if_pos hb] at e
    cases e
    exact .inl ⟨hb, rfl, hT b hb⟩
  · rw [if_neg hb] at e
    by_cases hc : b = a ∧ K.lookup a = none
    · rw [if_pos hc] at e
      cases e
      exact .inr ⟨hc.1, hb, hc.2, rfl, by rw [hc.1]; exact ha⟩
    · rw [if_neg hc] at e
      cases e
/-- any other object is not tracked -/
theorem entry_other {b : Addr} {o : Obj} (hT : ∀ b ∈ ts, h.get? b = some tabO) (ha : h.get? a = some (scrO vs)) (e : h.get? b = some o) (n1 : o.data ≠ .fields #[]) (n2 : ∀ xs n, o.data ≠ .seq xs n) : entryH K ts a vs ns b = none := by
  cases q : entryH K ts a vs ns b with
  | none => rfl
  | some u =>
    rcases entry_cases hT ha q with ⟨_, _, z⟩ | ⟨_, _, _, _, z⟩
    · rw [e] at z
      cases z
      exact absurd rfl n1
    · rw [e] at z
      cases z
      exact absurd rfl (n2 _ _)
theorem law_callG {s : Shared} {lvl : Nat} {fa : Addr} {cs : List (Addr × Addr)} {sp : Sp} (kin : K.In s.heap) (gl : s.heap.Ns mainGlobals mg) (bl : s.heap.Ns builtinsNs mb) (bb : ∀ x : Str, x ≠ "__name__" → mb x = bootBuiltins x) (lim : s.heap.NoLimit) (hsy : SysD s.heap) (hgen : s.gens = #[])
    (hT : ∀ p ∈ cs, s.heap.get? p.2 = some tabO) (nT : ∀ p ∈ cs, K.lookup p.2 = none) (cd : ∀ p ∈ cs, PySem.W.CodeHd s.heap p.1 p.2)
    (bmod : ∃ (bm : Addr) (ob : Obj), mg "__builtins__" = some (.ref bm) ∧ bm ≠ builtinsNs ∧ s.heap.get? bm = some ob ∧ ob.cls = .type "module" ∧ ob.dict = some builtinsNs ∧ ob.data = .plain)
    (ha : s.heap.get? a = some (scrO vs)) (hi : IntsAre vs ns) (hl : ns.length ≤ sizeLine) (hr : Room lvl callerA)
    (F : ∀ base : Heap, K.In base → base.Ns mainGlobals mg → SysD base → (∀ p ∈ cs, LamX.TabB base mg p.1 p.2) → FnG P w K mg base lvl fa sp)
    (hsp : ∀ H : Hp, (∀ p ∈ cs, H p.2 = some (.tbl #[])) → SqL K H a (ns.map V.int) → sp [.ref a] H (fun v _ => v = .bl true) fun _ _ _ => False) :
    codeAny (model P w) callerA (.call (.ref fa) ⟨[.ref a], []⟩) (fun r s' => r = .ok (.ret (.bool true)) ∧ OldK s.heap s'.heap ∧ s'.os = s.os ∧ AllBare s'.gens) s := by
  have rv := L2.vals_ints hi
  have hT' : ∀ b ∈ cs.map (·.2), s.heap.get? b = some tabO := fun b hb => by
    obtain ⟨p, hp, rfl⟩ := List.mem_map.mp hb
    exact hT p hp
  have inT : ∀ p ∈ cs, p.2 ∈ cs.map (·.2) := fun p hp => List.mem_map.mpr ⟨p, hp, rfl⟩
  have aT : a ∉ cs.map (·.2) := fun hb => by
    have z := hT' a hb
    rw [ha] at z
    cases z
  have other := fun {b : Addr} {o : Obj} (e : s.heap.get? b = some o) (n1 : o.data ≠ .fields #[]) (n2 : ∀ xs n, o.data ≠ .seq xs n) => entry_other (K := K) (ns := ns) hT' ha e n1 n2
  generalize hHd : entryH K (cs.map (·.2)) a vs ns = H at other
  have low : ∀ {b : Addr} {o : Obj}, s.heap.get? b = some o → o.data ≠ .fields #[] → (∀ xs n, o.data ≠ .seq xs n) → (hidT s.heap H).get? b = some o := fun {b o} e n1 n2 => hidT_get e (other e n1 n2)
  have nsb : ∀ {b : Addr} {m : Str → Option Value}, s.heap.Ns b m → (hidT s.heap H).Ns b m := fun {b m} z => by
    obtain ⟨o, es, ep, e, d, r⟩ := z
    exact ⟨o, es, ep, low e (fun q => by rw [d] at q; cases q) (fun xs n q => by rw [d] at q; cases q), d, r⟩
  have kb : K.In (hidT s.heap H) := fun b o e => hidT_get (kin b o e) (by
    rw [← hHd]
    refine entry_off (fun hb => ?_) (fun z hn => ?_)
    · obtain ⟨p, hp, rfl⟩ := List.mem_map.mp hb
      rw [nT p hp] at e
      cases e
    · rw [z, hn] at e
      cases e)
  have mo : L2.Mod K mg (hidT s.heap H) := ⟨kb, nsb gl, ⟨mb, nsb bl, bb⟩, let ⟨mc, z1, z2⟩ := lim; ⟨mc, nsb z1, z2⟩⟩
  have tabs : ∀ p ∈ cs, LamX.TabB (hidT s.heap H) mg p.1 p.2 := fun p hp => by
    refine ⟨?_, ?_, fun z => ?_⟩
    · obtain ⟨o, us, file, tf, fl, tg, inF, tx, tt, e, r1, r2, r3, rest⟩ := cd p hp
      refine ⟨o, us, file, tf, fl, tg, inF, tx, tt, low e (fun q => ?_) (fun xs n q => ?_), r1, r2, r3, rest⟩
      · rw [r2] at q
        cases q
        simp at r3
      · rw [r2] at q
        cases q
    · obtain ⟨bm, ob, b1, b2, b3, b4, b5, b6⟩ := bmod
      refine ⟨bm, ob, b1, b2, fun q => ?_, fun q => ?_, low b3 (fun q => by rw [b6] at q; cases q) (fun xs n q => by rw [b6] at q; cases q), b4, b5, b6⟩
      · obtain ⟨o, es, ep, e, d, _⟩ := gl
        rw [q, e] at b3
        cases b3
        rw [d] at b6
        cases b6
      · rw [q, hT p hp] at b3
        cases b3
        cases b6
    · obtain ⟨o, es, ep, e, d, _⟩ := gl
      rw [z, hT p hp] at e
      cases e
      cases d
  have hok : HOk P w H s.heap := fun b u e => by
    rw [← hHd] at e
    rcases entry_cases hT' ha e with ⟨_, rfl, z⟩ | ⟨_, _, _, rfl, z⟩
    · exact z
    · exact ⟨z, by rw [List.length_map]; exact hl, vs, _, rv, z⟩
  have seq : SqL K H a (ns.map V.int) := by
    cases hk : K.lookup a with
    | none =>
      refine .inl (.inr ⟨scrO vs, ?_⟩)
      rw [← hHd]
      unfold entryH
      rw [if_neg aT, if_pos ⟨rfl, hk⟩]
    | some o =>
      have z := kin a o hk
      rw [ha] at z
      cases z
      exact .inr ⟨_, vs.toArray, _, hk, rfl, rfl, rfl, by rw [List.size_toArray, hi.length]; exact hl, by simpa using rv⟩
  have tracked : ∀ p ∈ cs, H p.2 = some (.tbl #[]) := fun p hp => by
    rw [← hHd]
    exact entry_tab (inT p hp)
  have env : Env0 P w K mg (hidT s.heap H) callerA [] s H := ⟨rfl, mo, fun b o e => of_hidT e, Nat.le_of_eq (hidT_size _ _), trivial, fun b hb => absurd (show b ∈ ([] : List Addr) from hb) (by simp), hok, .of_eq hgen⟩
  refine codeAny_mono (F _ kb (nsb gl) (let ⟨mm, z⟩ := hsy; ⟨mm, nsb z⟩) tabs callerA [] s H [.ref a] [.ref a] _ _ rfl hr env (.cons rfl .nil) (hsp H tracked seq)) fun r s' z => ?_
  cases r with
  | error e => exact (cx_no z).elim
  | ok fl =>
    cases fl with
    | next => exact False.elim z
    | brk => exact False.elim z
    | cont => exact False.elim z
    | ret u =>
      obtain ⟨v, H', os, bare, un, hok', rv', q⟩ := z
      have q' : v = .bl true := q
      subst q'
      obtain rfl : u = Value.bool true := rv'
      have kept : ∀ b o, b ∉ cs.map (·.2) → s.heap.get? b = some o → s'.heap.get? b = some o := fun b o nb e => by
        cases hb : H b with
        | none => exact un.keep b o e hb (fun z => absurd (show b ∈ ([] : List Addr) from z) (by simp)) (by simp)
        | some u =>
          rw [← hHd] at hb
          rcases entry_cases hT' ha hb with ⟨z, _, _⟩ | ⟨_, _, _, rfl, z⟩
          · exact absurd z nb
          · rw [hHd] at hb
            have z2 := hok' b _ (un.frzs b _ _ hb)
            rw [e] at z
            cases z
            exact z2.1
      have grown : ∀ p ∈ cs, ∃ more : Array Value, s'.heap.get? p.2 = some { cls := .none, data := .fields more } := fun p hp => by
        obtain ⟨more, z⟩ := un.tbls p.2 #[] (tracked p hp)
        exact ⟨_, hok' p.2 _ z⟩
      refine ⟨rfl, ⟨fun b o e => ?_, fun b o e => ?_⟩, os, bare⟩
      · by_cases hb : b ∈ cs.map (·.2)
        · obtain ⟨p, hp, rfl⟩ := List.mem_map.mp hb
          obtain ⟨more, hm⟩ := grown p hp
          rw [hT p hp] at e
          cases e
          refine .inr (.inl ⟨((cd p hp).tab (hT p hp)).isCodeTable, rfl, #[], more, rfl, ?_⟩)
          rw [Array.empty_append]
          exact hm
        · exact .inl (kept b o hb e)
      · by_cases hb : b ∈ cs.map (·.2)
        · obtain ⟨p, hp, rfl⟩ := List.mem_map.mp hb
          obtain ⟨more, hm⟩ := grown p hp
          exact ⟨_, hm⟩
        · exact ⟨o, kept b o hb e⟩
end
end DL

/-! DX7: defs that show data, by what the text says of them; the end. -/
namespace DL
open PySem L2 PyProof.Rows
/-- a def of the text whose code object stands at c -/
structure FC (K : PySem.W.Frag) (x qual : Str) (st : Stmt) (ps : List Str) (f c : Addr) : Prop where
  ex : ∃ (oc : Value) (od : Option Addr) (kV doc pm : Value) (an : Option Addr) (ct : Value) (osl : Array (Option Value)),
    K.lookup f = some ⟨oc, od, .func (PySem.W.fnOf x qual (defArgs st) (defBody st) (defScope st) .none kV doc pm an (.ref c) ct), osl⟩ ∧ PySem.W.codeIn K (.ref c) qual = true ∧ Binds K (PySem.W.fnOf x qual (defArgs st) (defBody st) (defScope st) .none kV doc pm an (.ref c) ct) ps []
section
variable {P : Program} {w : World} {K : PySem.W.Frag} {mg : Str → Option Value} {base : Heap} {k : Kx}
theorem fng_any {x qual : Str} {st : Stmt} {f : Addr} {N ps : List Str} {lvl : Nat} {m : DEnv → M Out} (F : FA K x qual st ps f) (S : FnScope N ps (defScope st))
    (hb : ∀ (cdv : Value) (A : Around) (outer : List Env) (s : Shared) (H : Hp) (E : XK), A.guards = some [] → Room lvl (A.deeper (envOfC qual (defScope st) s.heap.objs.size f cdv)) → JB k (cxOf (L2.CX P w) P w K mg base N qual (defScope st) f cdv A outer s H E) E (defBody st) m) :
    FnG P w K mg base (lvl + 1) f (spD k K ps.length (fnD N.length m)) := by
  obtain ⟨fd, ⟨⟨oc, od, kV, doc, pm, an, cdv, ct, osl, e, lk, hcd⟩, _⟩, b⟩ := F.ex
  exact fng_ok S e lk hcd b fun A outer s H E hg hr => hb cdv A outer s H E hg hr
theorem fng_mk {x qual : Str} {st : Stmt} {f c : Addr} {N ps : List Str} {lvl : Nat} {m : DEnv → M Out} (F : FC K x qual st ps f c) (S : FnScope N ps (defScope st))
    (hb : ∀ (A : Around) (outer : List Env) (s : Shared) (H : Hp) (E : XK), A.guards = some [] → Room lvl (A.deeper (envOfC qual (defScope st) s.heap.objs.size f (.ref c))) → JB k (cxOf (L2.CX P w) P w K mg base N qual (defScope st) f (.ref c) A outer s H E) E (defBody st) m) :
    FnG P w K mg base (lvl + 1) f (spD k K ps.length (fnD N.length m)) := by
  obtain ⟨oc, od, kV, doc, pm, an, ct, osl, lk, hcd, b⟩ := F.ex
  exact fng_ok S rfl lk hcd b fun A outer s H E hg hr => hb A outer s H E hg hr
theorem FnG.imp {lvl : Nat} {f : Addr} {sp sp' : Sp} (F : FnG P w K mg base lvl f sp) (h : ∀ vs H Q E, sp' vs H Q E → sp vs H Q E) : FnG P w K mg base lvl f sp' := fun A outer s H us vs Q E hg hr e0 r z => F A outer s H us vs Q E hg hr e0 r (h _ _ _ _ z)
/-- where the written part says that a maker, its code object and its table stand -/
theorem mk_eq {h : Heap} {x : Str} {f c T f1 c1 T1 : Addr} {oc cc : Value} {od cod : Option Addr} {fd : FuncData} {osl csl : Array (Option Value)} {vs : Array Value} (M : MkT mg h x f c T) (kin : K.In h) (at1 : mg x = some (.ref f1)) (l1 : K.lookup f1 = some ⟨oc, od, .func fd, osl⟩) (e1 : fd.code = .ref c1)
    (l2 : K.lookup c1 = some ⟨cc, cod, .fields vs, csl⟩) (e2 : vs[11]? = some (.ref T1)) : f = f1 ∧ c = c1 ∧ T = T1 := by
  obtain ⟨a1, ⟨o, fd', g1, g2, g3⟩, ⟨o2, us, file, tf, fl, tg, inF, tx, tt, k1, k2, k3, k4, _⟩, _⟩ := M
  rw [a1] at at1
  cases at1
  have z := kin _ _ l1
  rw [z] at g1
  cases g1
  cases g2
  rw [e1] at g3
  cases g3
  have z2 := kin _ _ l2
  rw [z2] at k1
  cases k1
  cases k3
  rw [e2] at k4
  cases k4
  exact ⟨rfl, rfl, rfl⟩
end
theorem sysD_of {h : Heap} (x : h.NoSeer) : SysD h := let ⟨mm, z, _⟩ := x.mods; ⟨mm, z⟩
/-- the end: ms are the defs that make lambdas -/
theorem law_walkG {l : PySem.W.OpenLaw} {q : Program} {loose : List Str} {XP : (Str → Option Value) → Heap → Prop} {YP : World → Heap → Prop} {d : DefRec} {K : Params → PySem.W.Frag} {lvl : Nat} (hn : l.most = some 63) (himp : importsNone q = true) (hdf : d.params.defaults = []) (hr : Room lvl callerA)
    (hY : ∀ (w : World) (h : Heap), YP w h → (K w.params).In h) (ms : List Str) (hms : ms.all (fun x => (recsOf q).any fun r => r.name == x) = true) (hnt : ∀ w : World, (K w.params).all (fun p => !tab0 p.2) = true)
    (F : ∀ (w : World) (mg : Str → Option Value) (fa : Addr) (h : Heap), (K w.params).In h → h.Ns mainGlobals mg → mg d.name = some (.ref fa) → ∀ cs : List (Addr × Addr × Addr), cs.length = ms.length → (∀ (i : Nat) (x : Str) (p : Addr × Addr × Addr), ms[i]? = some x → cs[i]? = some p → MkT mg h x p.1 p.2.1 p.2.2) →
      ∃ (tb : List (Addr × Str)), (∀ p ∈ tb, ∃ r ∈ cs, r.2.2 = p.1) ∧ ∀ base : Heap, (K w.params).In base → base.Ns mainGlobals mg → SysD base → (∀ r ∈ cs, LamX.TabB base mg r.2.1 r.2.2) → FnG l.prog w (K w.params) mg base lvl fa (spLaw tb (K w.params))) :
    PySem.W.WalkO q loose XP YP l.row.toRowW d [] (fun f vs => PySem.call f vs) := by
  refine Att.attach_callB hn hdf fun w s0 s1 mg mb fa o pm cd doc a vs ns G Y _ _ _ hmg hobj hints hlen _ hgen => ?_
  have inK := hY w _ Y
  have pick : ∀ l : List Str, l.all (fun x => (recsOf q).any fun r => r.name == x) = true → ∃ cs : List (Addr × Addr × Addr), cs.length = l.length ∧ ∀ (i : Nat) (x : Str) (p : Addr × Addr × Addr), l[i]? = some x → cs[i]? = some p → MkT mg s1.heap x p.1 p.2.1 p.2.2 := by
    intro l
    induction l with
    | nil => exact fun _ => ⟨[], rfl, fun i x p e => by simp at e⟩
    | cons y l ih =>
      intro hl
      simp only [List.all_cons, Bool.and_eq_true] at hl
      obtain ⟨cs, h1, h2⟩ := ih hl.2
      obtain ⟨f, c, T, m⟩ := mkT_of G.T hl.1
      refine ⟨(f, c, T) :: cs, by simp [h1], fun i x p e1 e2 => ?_⟩
      cases i with
      | zero =>
        simp at e1 e2
        subst e1 e2
        exact m
      | succ i => exact h2 i x p (by simpa using e1) (by simpa using e2)
  obtain ⟨cs, hcl, hcs⟩ := pick ms hms
  obtain ⟨tb, htb, hF⟩ := F w mg fa _ inK G.T.g hmg cs hcl hcs
  have each : ∀ r ∈ cs, ∃ x, MkT mg s1.heap x r.1 r.2.1 r.2.2 := fun r hr => by
    obtain ⟨i, hi⟩ := List.mem_iff_getElem?.mp hr
    have hlt := (List.getElem?_eq_some_iff.mp hi).1
    exact ⟨_, hcs i _ r (List.getElem?_eq_getElem (by omega)) hi⟩
  have noK : ∀ T : Addr, s1.heap.get? T = some tabO → (K w.params).lookup T = none := fun T e => by
    cases hk : (K w.params).lookup T with
    | none => rfl
    | some o =>
      have e2 := inK T o hk
      rw [e] at e2
      cases e2
      have hm := List.all_eq_true.mp (hnt w) (T, _) (frag_mem hk)
      exact absurd (show (!tab0 tabO) = true from hm) (by decide)
  refine law_callG (cs := cs.map fun r => (r.2.1, r.2.2)) inK G.T.g G.T.b G.T.builtins G.T.nolimit (sysD_of (G.T.seer himp)) hgen (fun p hp => ?_) (fun p hp => ?_) (fun p hp => ?_) G.T.bmain hobj hints (Nat.le_trans hlen (by decide)) hr (fun base k1 k2 kS k3 => hF base k1 k2 kS fun r hr => k3 _ (List.mem_map.mpr ⟨r, hr, rfl⟩)) (fun H hH hS => ?_)
  · obtain ⟨r, hr, rfl⟩ := List.mem_map.mp hp
    exact (each r hr).elim fun _ m => m.tb
  · obtain ⟨r, hr, rfl⟩ := List.mem_map.mp hp
    exact (each r hr).elim fun _ m => noK _ m.tb
  · obtain ⟨r, hr, rfl⟩ := List.mem_map.mp hp
    exact (each r hr).elim fun _ m => m.hd
  · refine ⟨a, ns, rfl, hS, hlen, fun p hp => ?_, fun _ => rfl⟩
    obtain ⟨r, hr, e⟩ := htb p hp
    exact LamX.TabS.nil (by rw [← e]; exact hH _ (List.mem_map.mpr ⟨r, hr, rfl⟩))
end DL

/-! DX8: what the printed texts use, further. -/
namespace DL
open PySem L2 PyProof.Rows
section
variable {P : Program} {w : World} {K : PySem.W.Frag} {mg : Str → Option Value} {base : Heap} {k : Kx}
theorem take_def {N : List Str} {qual : Str} {sc : Scope} {f : Addr} {cdv : Value} {A : Around} {outer : List Env} {s : Shared} {H : Hp} {E : XK} : Takes (cxOf (L2.CX P w) P w K mg base N qual sc f cdv A outer s H E) (fun cls d _ H => E cls d H) := takes_of rfl rfl rfl rfl
theorem hr_un66 {lvl : Nat} {A : Around} (r : Room lvl A) : A.units + 66 < cLine := by have := r.un; omega
theorem say_nil {p : Say → Prop} : ∀ y ∈ ([] : List Say), p y := fun _ h => nomatch h
theorem say_cons {p : Say → Prop} {y : Say} {r : List Say} (h : p y) (hr : ∀ z ∈ r, p z) : ∀ z ∈ y :: r, p z := fun z hz => by
  rcases List.mem_cons.mp hz with rfl | hz
  · exact h
  · exact hr z hz
theorem tu_of {tb : List (Addr × Str)} {T : Addr} {q : Str} (nd : (tb.map (·.1)).Nodup) (h : (T, q) ∈ tb) : ∀ p ∈ tb, p.1 = T → p.2 = q := by
  induction tb with
  | nil => cases h
  | cons a r ih =>
    intro p hp e
    simp only [List.map_cons, List.nodup_cons] at nd
    rcases List.mem_cons.mp h with h | h
    · rcases List.mem_cons.mp hp with hp | hp
      · rw [hp, ← h]
      · exact absurd (List.mem_map.mpr ⟨p, hp, by rw [e, ← h]⟩) nd.1
    · rcases List.mem_cons.mp hp with hp | hp
      · exact absurd (List.mem_map.mpr ⟨(T, q), h, by rw [← hp]; exact e.symm⟩) nd.1
      · exact ih nd.2 h p hp e
end
end DL

/-! DX9: slices. -/
namespace DL
open PySem L2 PyProof.Rows
def cutD (xs : List D) (lo hi : Option Int) : List D := (xs.drop (HT.sIx xs.length 0 lo)).take (HT.sIx xs.length xs.length hi - HT.sIx xs.length 0 lo)
def sliceD (d : D) (lo hi : Option Int) : M D := match d with
  | .str z => if z.length ≤ 100000 then pure (.str (cutS z lo hi)) else M.bad
  | .tup ds => pure (.tup (cutD ds lo hi))
  | d => do let ds ← seqD d; pure (.lst (cutD ds lo hi))
def pNone : DEnv → M (Option Int) := fun _ => pure none
def pSome (a : DEnv → M D) : DEnv → M (Option Int) := fun e => do
  let x ← a e
  match x with
    | .int i => pure (some i)
    | _ => M.bad
def eSlice (a : DEnv → M D) (lo hi : DEnv → M (Option Int)) : DEnv → M D := fun e => do let x ← a e; let l ← lo e; let h ← hi e; sliceD x l h
section
variable {k : Kx} {X : Cx} {E : XK}
def dO (k : Kx) (K : PySem.W.Frag) (E : XK) (m : DEnv → M (Option Int)) : TO := fun s H Q => ∃ e G L μ, Sg k K G L s e ∧ Wd k K G H L μ ∧ Good k K E G H L (m e μ) fun o _ _ H' _ => Q o H'
abbrev JO (k : Kx) (X : Cx) (E : XK) (e : Option Expr) (m : DEnv → M (Option Int)) : Prop := PO X e (dO k X.K E m)
theorem PO.imp {e : Option Expr} {t t' : TO} (h : PO X e t) (i : ∀ s H Q, t' s H Q → t s H Q) : PO X e t' := ⟨fun pins s σ H Q I q => h.run pins s σ H Q I (i σ H Q q)⟩
theorem jo_none : JO k X E none pNone := PO.imp po_none fun s H Q h => by
  obtain ⟨e, G, L, μ, sg, w, gd⟩ := h
  exact Good.ret gd w
theorem jo_some {a : Expr} {ma : DEnv → M D} (h : JE k X E a ma) : JO k X E (some a) (pSome ma) := PO.imp (po_some h) fun s H Q h => by
  obtain ⟨e, G, L, μ, sg, w, gd⟩ := h
  refine ⟨e, G, L, μ, sg, w, Good.mono (Good.bind gd) fun d1 m1 G1 H1 L1 st1 w1 q1 x r1 => ?_⟩
  cases d1 with
  | int i => cases r1; exact ⟨i, rfl, Good.ret q1 w1⟩
  | _ => exact False.elim q1
theorem cut_rp {G : Hp} {L : Lam} {vs : List V} {ds : List D} (r : RpA k X.K G L vs ds) (lo hi : Option Int) : RpA k X.K G L (cutV vs lo hi) (cutD ds lo hi) := by
  unfold cutV cutD
  rw [r.len]
  exact (r.drop _).take _
theorem cut_whole {ds : List D} {lo hi : Option Int} (h : HT.sIx ds.length 0 lo = 0 ∧ HT.sIx ds.length ds.length hi = ds.length) : cutD ds lo hi = ds := by
  unfold cutD
  rw [h.1, h.2]
  simp
theorem j_slice {a : Expr} {ma : DEnv → M D} {lo hi : Option Expr} {ml mh : DEnv → M (Option Int)} {pos p2 : Pos} (ha : JE k X E a ma) (hl : JO k X E lo ml) (hh : JO k X E hi mh) : JE k X E (.Subscript a (.Slice lo hi none p2) pos) (eSlice ma ml mh) := by
  refine PE.imp (pe_slice (SlR.or sl_str (SlR.or sl_tupA sl_list)) ha hl hh) fun s H Q h => ?_
  obtain ⟨e, G, L, μ, sg, w, gd⟩ := h
  refine ⟨e, G, L, μ, sg, w, Good.mono (Good.bind gd) fun d1 m1 G1 H1 L1 st1 w1 q1 x r1 => ?_⟩
  have sg1 := sg.mono st1.g st1.l
  refine ⟨e, G1, L1, m1, sg1, w1, Good.mono (Good.bind q1) fun o1 m2 G2 H2 L2 st2 w2 q2 => ?_⟩
  refine ⟨e, G2, L2, m2, sg1.mono st2.g st2.l, w2, Good.mono (Good.bind q2) fun o2 m3 G3 H3 L3 st3 w3 q3 => ?_⟩
  have r3 := Rp.mono st3.g st3.l _ _ (Rp.mono st2.g st2.l _ _ r1)
  have seq : ∀ (ne : ∀ t, d1 ≠ .tup t) (q : Good k X.K E G3 H3 L3 ((do let ds ← seqD d1; pure (D.lst (cutD ds o1 o2))) m3) (QV k X.K Q)), rSlS x o1 o2 H3 Q ∨ rSlA X.K x o1 o2 H3 Q ∨ rSlL X.K x o1 o2 H3 Q := fun ne q => by
    obtain ⟨a, vs, ds, rfl, ra, hs | hs, g⟩ := seq_of r3 w3 q
    · refine .inr (.inr ⟨a, vs, rfl, hs.1, fun p hp => ?_⟩)
      exact g _ _ _ (w3.newS hp) (w3.new hp) _ (.lst (SqL.of upd_same) (RpA.mono (w3.newS (o := .lst (cutV vs o1 o2)) hp).g (pre_refl L3) _ _ (cut_rp ra o1 o2)))
    · exact absurd hs.2 (ne ds)
  cases d1 with
  | str z =>
    cases r3
    obtain ⟨hz, g⟩ := good_ite q3
    exact .inl ⟨z, rfl, size_of hz, Good.ret g w3 _ (.str _)⟩
  | tup ds =>
    cases r3 with
    | @tup a vs _ hs ha =>
      refine .inr (.inl ⟨a, vs, rfl, sqT_mono w3.ext hs, fun hw => ?_, fun _ p hp => ?_⟩)
      · have q := Good.ret q3 w3
        rw [ha.len] at hw
        rw [cut_whole hw] at q
        exact q _ (.tup hs ha)
      · exact q3 _ _ _ (w3.newS hp) (w3.new hp) _ (.tup (SqT.of upd_same) (RpA.mono (w3.newS (o := .tup (cutV vs o1 o2)) hp).g (pre_refl L3) _ _ (cut_rp ha o1 o2)))
  | lst ds => exact seq (fun _ z => nomatch z) q3
  | loc n => exact seq (fun _ z => nomatch z) q3
  | _ => exact False.elim q3
end
end DL

/-! DX10: dict displays. -/
namespace DL
open PySem L2 PyProof.Rows
def keyD : D → Option Key
  | .int i => some (.inl i)
  | .str x => some (.inr x)
  | _ => none
def keysD : List D → Option (List Key)
  | [] => some []
  | d :: ds => match keyD d, keysD ds with
    | some x, some xs => some (x :: xs)
    | _, _ => none
def qNil : DEnv → M (List (D × D)) := fun _ => pure []
def qCons (a b : DEnv → M D) (r : DEnv → M (List (D × D))) : DEnv → M (List (D × D)) := fun e => do let x ← a e; let y ← b e; let xs ← r e; pure ((x, y) :: xs)
def mkDct (ps : List (D × D)) : M D := match keysD (ps.map (·.1)) with
  | some ks => if ks.Nodup ∧ ks.length ≤ 15 then pure (.dct ks (ps.map (·.2))) else M.bad
  | none => M.bad
def eDict (m : DEnv → M (List (D × D))) : DEnv → M D := fun e => do let ps ← m e; mkDct ps
section
variable {k : Kx} {X : Cx} {E : XK}
def dP (k : Kx) (K : PySem.W.Frag) (E : XK) (m : DEnv → M (List (D × D))) : L2.St → Hp → (List (V × V) → Hp → Prop) → Prop := fun s H Q => ∃ e G L μ, Sg k K G L s e ∧ Wd k K G H L μ ∧
  Good k K E G H L (m e μ) fun ds _ G' H' L' => ∀ vs, RpA k K G' L' (vs.map (·.1)) (ds.map (·.1)) → RpA k K G' L' (vs.map (·.2)) (ds.map (·.2)) → Q vs H'
def JP (k : Kx) (X : Cx) (E : XK) (pos : Pos) (ks : List (Option Expr)) (vs : List Expr) (m : DEnv → M (List (D × D))) : Prop := ∃ trs, PPs X pos ks vs trs ∧ ∀ s H Q, dP k X.K E m s H Q → tPairs trs s H Q
theorem jp_nil {pos : Pos} : JP k X E pos [] [] qNil := ⟨_, pps_nil, fun s H Q h => by
  obtain ⟨e, G, L, μ, sg, w, gd⟩ := h
  exact Good.ret gd w [] .nil .nil⟩
theorem jp_cons {pos : Pos} {a b : Expr} {ks : List (Option Expr)} {vs : List Expr} {ma mb : DEnv → M D} {mr : DEnv → M (List (D × D))} (ha : JE k X E a ma) (hb : JE k X E b mb) (hr : JP k X E pos ks vs mr) :
    JP k X E pos (some a :: ks) (b :: vs) (qCons ma mb mr) := by
  obtain ⟨trs, h1, h2⟩ := hr
  refine ⟨_, pps_cons ha hb h1, fun s H Q h => ?_⟩
  obtain ⟨e, G, L, μ, sg, w, gd⟩ := h
  refine ⟨e, G, L, μ, sg, w, Good.mono (Good.bind gd) fun d1 m1 G1 H1 L1 st1 w1 q1 x r1 => ?_⟩
  have sg1 := sg.mono st1.g st1.l
  refine ⟨e, G1, L1, m1, sg1, w1, Good.mono (Good.bind q1) fun d2 m2 G2 H2 L2 st2 w2 q2 y r2 => ?_⟩
  refine h2 _ _ _ ⟨e, G2, L2, m2, sg1.mono st2.g st2.l, w2, Good.mono (Good.bind q2) fun d3 m3 G3 H3 L3 st3 w3 q3 ws r3 r4 => ?_⟩
  exact Good.ret q3 w3 ((x, y) :: ws) (.cons (Rp.mono st3.g st3.l _ _ (Rp.mono st2.g st2.l _ _ r1)) r3) (.cons (Rp.mono st3.g st3.l _ _ r2) r4)
theorem keys_rp {G : Hp} {L : Lam} : ∀ {ds : List D} {vs : List V} {ks : List Key}, RpA k X.K G L vs ds → keysD ds = some ks → vs = ks.map kV
  | [], _, ks, r, h => by cases r; cases h; rfl
  | d :: ds, _, ks, r, h => by
    cases r with
    | @cons v vs _ _ r1 r2 =>
      unfold keysD at h
      cases e1 : keyD d with
      | none => rw [e1] at h; cases h
      | some x =>
        cases e2 : keysD ds with
        | none => rw [e1, e2] at h; cases h
        | some xs =>
          rw [e1, e2] at h
          cases h
          have := keys_rp r2 e2
          subst this
          cases d with
          | int i => cases r1; cases e1; rfl
          | str z => cases r1; cases e1; rfl
          | _ => cases e1
theorem merge_nodup : ∀ (more acc : List (Key × V)), ((acc ++ more).map (·.1)).Nodup → mergeK acc more = acc ++ more
  | [], acc, _ => by simp [mergeK]
  | p :: r, acc, h => by
    have hn : (acc.any fun kv => decide (kv.1 = p.1)) = false := by
      rw [List.any_eq_false]
      intro q hq hz
      have e : q.1 = p.1 := by simpa using hz
      simp only [List.map_append, List.map_cons, List.nodup_append, List.mem_map, List.mem_cons] at h
      exact h.2.2 q.1 ⟨q, hq, rfl⟩ p.1 (.inl rfl) e
    have e : putK acc p.1 p.2 = acc ++ [p] := by
      unfold putK
      simp [hn]
    show mergeK (putK acc p.1 p.2) r = _
    rw [e, merge_nodup r (acc ++ [p]) (by simpa using h)]
    simp
theorem keysD_len : ∀ {ds : List D} {ks : List Key}, keysD ds = some ks → ks.length = ds.length
  | [], ks, h => by cases h; rfl
  | d :: ds, ks, h => by
    unfold keysD at h
    cases e1 : keyD d with
    | none => rw [e1] at h; cases h
    | some x =>
      cases e2 : keysD ds with
      | none => rw [e1, e2] at h; cases h
      | some xs =>
        rw [e1, e2] at h
        cases h
        simp [keysD_len e2]
theorem zip_pairs : ∀ {vs : List (V × V)} {ks : List Key}, vs.map (·.1) = ks.map kV → (vs = (ks.zip (vs.map (·.2))).map fun kv => (kV kv.1, kv.2)) ∧ ks.length = vs.length
  | [], [], _ => ⟨rfl, rfl⟩
  | [], _ :: _, h => by cases h
  | _ :: _, [], h => by cases h
  | (a, b) :: vs, x :: ks, h => by
    simp only [List.map_cons, List.cons.injEq] at h
    obtain ⟨h1, h2⟩ := zip_pairs h.2
    refine ⟨?_, by simp [h2]⟩
    simp only [List.map_cons, List.zip_cons_cons, List.cons.injEq, Prod.mk.injEq, and_true]
    exact ⟨h.1, h1⟩
theorem nc_dK (kvs : List (Key × V)) : NC (.dK kvs) := ⟨fun _ e => (by cases e), fun c q e => (by unfold LamX.CodeO at e; cases e)⟩
theorem j_dict0 {pos : Pos} : JE k X E (.Dict [] [] pos) (eC (.dct [] [])) := by
  refine PE.imp pe_dnewK fun s H Q h => ?_
  obtain ⟨e, G, L, μ, sg, w, gd⟩ := h
  intro p hp
  exact gd _ _ _ (w.newS hp) (w.new hp) _ (.dct (vs := []) upd_same rfl .nil)
theorem j_dict {pos : Pos} {ks : List (Option Expr)} {vs : List Expr} {m : DEnv → M (List (D × D))} (h : JP k X E pos ks vs m) (hall : ks.all (·.isSome) = true := by rfl) (hl : ks.length = vs.length := by rfl) (h0 : ks ≠ [] := by exact List.cons_ne_nil _ _)
    (h15 : ks.length ≤ 15 := by decide) : JE k X E (.Dict ks vs pos) (eDict m) := by
  obtain ⟨trs, h1, h2⟩ := h
  refine PE.imp (pe_disp h1 hall hl h0 h15) fun s H Q hq => ?_
  obtain ⟨e, G, L, μ, sg, w, gd⟩ := hq
  intro p hp
  have w0 := w.junk (o := .dK []) hp
  have s0 : Stp G H L G (upd H p (.dK [])) L := junkS hp
  refine h2 _ _ _ ⟨e, G, L, μ, sg, w0, Good.mono (Good.up (Good.bind0 gd) s0) fun ds m1 G1 H1 L1 st1 w1 q1 ws r1 r2 => ?_⟩
  have npL : ∀ q ∈ L, p ≠ q.1 ∧ p ≠ q.2 := fun q hq => by
    obtain ⟨⟨o1, e1, _⟩, ⟨o2, e2, _⟩⟩ := w.tk q hq
    exact ⟨(ne_of_none e1 hp).symm, (ne_of_none e2 hp).symm⟩
  obtain ⟨k1, k2⟩ := st1.keep p _ upd_same (nc_dK []).1 npL
  have g1 : G1 p = none := k2 (w.gnone hp)
  have nl1 : ∀ q ∈ L1, p ≠ q.1 ∧ p ≠ q.2 := fun q hq => by
    rcases st1.nl q hq with z | ⟨z1, z2⟩
    · exact npL q z
    · exact ⟨ne_of_bare upd_same (nc_dK []).1 z1, ne_of_bare upd_same (nc_dK []).1 z2⟩
  refine ⟨k1, ?_⟩
  unfold mkDct at q1
  cases hk : keysD (ds.map (·.1)) with
  | none => rw [hk] at q1; exact False.elim q1
  | some kk =>
    rw [hk] at q1
    obtain ⟨⟨nd, le⟩, q1⟩ := good_ite q1
    have ek := keys_rp r1 hk
    obtain ⟨z1, z2⟩ := zip_pairs ek
    refine ⟨kk.zip (ws.map (·.2)), z1, by rw [List.length_zip]; omega, ?_⟩
    have em : mergeK [] (kk.zip (ws.map (·.2))) = kk.zip (ws.map (·.2)) := by
      rw [merge_nodup _ [] (by rw [List.nil_append, List.map_fst_zip (by rw [List.length_map]; omega)]; exact nd)]
      rfl
    rw [em]
    have w2 := w1.priv (o := .dK (kk.zip (ws.map (·.2)))) g1 k1 (nc_dK []) (nc_dK _).1 nl1
    have w3 := w2.adopt g1 upd_same (nc_dK _).1 nl1
    have s3 : Stp G H L (upd G1 p (.dK (kk.zip (ws.map (·.2))))) (upd H1 p (.dK (kk.zip (ws.map (·.2))))) L1 := by
      have st := s0.trans st1
      exact {
        g := fun b u eb => by
          rw [upd_ne (ne_of_none eb (w.gnone hp))]
          exact st.g b u eb
        l := st.l
        tr := fun a ea => by
          by_cases ha : a = p
          · subst ha
            exact bare_none hp
          · refine st.tr a fun o ho => ea o ?_
            rw [upd_ne ha]
            exact ho
        keep := fun a u ea na nn => by
          have ha := ne_of_none ea hp
          rw [upd_ne ha, upd_ne ha]
          exact st.keep a u ea na nn
        nl := st.nl }
    exact q1 _ _ _ s3 w3 _ (.dct upd_same (by rw [List.length_map]; exact z2) (RpA.mono (Same.new g1) (pre_refl L1) _ _ r2))
end
end DL

/-! DX11: an own __getitem__. -/
namespace DL
open PySem L2 PyProof.Rows
def ownI (tab : MTab) (x y : D) : M D := fun m => match clsD x m with
  | some c => match tab.lookup c with
    | some p => callN p.1 p.2 [x, y] m
    | none => .bad
  | none => ixD x y m
section
variable {k : Kx} {X : Cx} {E : XK}
def Og1 (k : Kx) (X : Cx) (c n : Nat) (den : List D → M D) : Prop := ∃ g lvl, PySem.W.findIn X.K (.ref (k.cl c)) "__getitem__" = some (some (.ref g)) ∧ PySem.W.fnIn X.K g = true ∧ PySem.W.isFn X.K (.ref g) = true ∧ FnDn k X lvl g n den ∧ Room (lvl + 1) X.A
def OgAll (k : Kx) (X : Cx) : MTab → Prop
  | [] => True
  | p :: r => Og1 k X p.1 p.2.1 p.2.2 ∧ OgAll k X r
theorem ogAll_of {c : Nat} {q : Nat × (List D → M D)} : ∀ {tab : MTab}, OgAll k X tab → tab.lookup c = some q → Og1 k X c q.1 q.2
  | [], _, h => by cases h
  | p :: r, F, h => by
    rw [List.lookup_cons] at h
    by_cases hc : c == p.1
    · rw [hc] at h
      cases h
      rw [beq_iff_eq.mp hc]
      exact F.1
    · rw [Bool.eq_false_iff.mpr hc] at h
      exact ogAll_of F.2 h
def rOI (k : Kx) (K : PySem.W.Frag) (E : XK) (tab : MTab) : R2 := fun x y H Q => ∃ a c dx vs n den, x = .ref a ∧ SlX.Slt H a (k.cl c) dx vs ∧ tab.lookup c = some (n, den) ∧ spD k K n den [x, y] H Q E
def PlainOx (b : Expr) : Prop := ∀ o i, subscripted b true o i = runValue (.builtin "lifetime.subscript" ⟨[o, i], []⟩)
theorem pe_ixO {a b : Expr} {ta tb : TE} {pos : Pos} {r : R2} {tab : MTab} (hr : IxR X r) (F : OgAll k X tab) (hx : Passes (L2.CX X.prog X.w) X E) (ha : PE X a ta) (hb : PE X b tb) (hs : PlainIx b) (ho : PlainOx b) :
    PE X (.Subscript a b pos) (tOp (fun x y H Q => r x y H Q ∨ rOI k X.K E tab x y H Q) ta tb) := by
  refine ⟨fun pins s σ H Q I h => ?_⟩
  refine Subscript_ (binT ha hb I h fun v u s2 x y H2 I2 rx ry q => ?_)
  rcases q with q | q
  · exact hr a b pins s2 σ H2 x y v u Q I2 rx ry q (hs _ _)
  · obtain ⟨p, c, dx, vs, n, den, rfl, hsl, ht, q⟩ := q
    obtain ⟨g, lvl, f1, f2, f3, Fn, hroom⟩ := ogAll_of F ht
    cases (show v = Value.ref p from rx)
    obtain ⟨sl, od, _, J, _⟩ := SlX.slt_inst I2 hsl
    obtain ⟨m, hF⟩ := I2.fr
    exact PySem.W.sub_K hF I2.ok.mod.kin J f1 f2 f3 (wpAny_call (SlX.run_at (us := [.ref p, u]) (ws := [.ref p, y]) Fn hroom.in1 I2.env0.in1 hx I2 (.cons rfl (.cons ry .nil)) q)) (ho _ _)
theorem j_ixO {a b : Expr} {ma mb : DEnv → M D} {pos : Pos} {tab : MTab} (F : OgAll k X tab) (hx : Passes (L2.CX X.prog X.w) X E) (ha : JE k X E a ma) (hb : JE k X E b mb) (hs : PlainIx b) (ho : PlainOx b) : JE k X E (.Subscript a b pos) (eOp (ownI tab) ma mb) := by
  refine PE.imp (pe_ixO L2.ix_seq F hx ha hb hs ho) fun s H Q h => dE_op (fun x y dx dy G H L μ Q rx ry w g => ?_) h
  unfold ownI at g
  cases hc : clsD dx μ with
  | none =>
    simp only [hc] at g
    refine .inl ?_
    cases dy with
    | int i =>
      cases ry
      obtain ⟨a, vs, ds, rfl, ra, hs, g⟩ := seq_of (f := fun ds => match atI ds i with | some d => (pure d : M D) | none => M.bad) rx w g
      cases e : atI ds i with
      | none => simp only [e] at g; exact False.elim g
      | some d =>
        simp only [e] at g
        obtain ⟨v, hv, rv⟩ := atI_of ra e
        rcases hs with ⟨hs, _⟩ | ⟨hs, _⟩
        · exact .inl ⟨a, vs, i, v, rfl, rfl, hs, hv, Good.ret g w _ rv⟩
        · exact .inr (.inl ⟨a, vs, i, v, rfl, rfl, hs, hv, Good.ret g w _ rv⟩)
    | _ => exact False.elim g
  | some c =>
    simp only [hc] at g
    cases ht : tab.lookup c with
    | none => simp only [ht] at g; exact False.elim g
    | some p =>
      simp only [ht] at g
      obtain ⟨hl, g⟩ := good_ite g
      obtain ⟨a, dx', vs, rfl, hs⟩ := slt_of rx w hc
      exact .inr ⟨a, c, dx', vs, p.1, p.2, rfl, hs, ht, [dx, dy], G, L, μ, .cons rx (.cons ry .nil), hl, w, g⟩

end
end DL

/-! DX12: set(xs) of a list of ints, with what sorted needs; sorted(set(xs)). -/
namespace DL
open PySem L2 PyProof.Rows
section
variable {P : Program} {w : World} {A : Around} {E : Value → Shared → Prop}
abbrev setObj (w : World) : Obj := { cls := .type "set", dict := none, data := .set #[] 0 (.fresh 0 0 (!w.params.followText "set-order")) }
theorem int_of {items : Array Value} {ns : List Int} (hi : IntsAre items.toList ns) (i : Nat) (v : Value) (hv : items[i]? = some v) : ∃ k t, ns[i]? = some k ∧ v = .int k t := by
  have hn : i < ns.length := by
    have := hi.length
    rw [Array.length_toList] at this
    have := (Array.getElem?_eq_some_iff.mp hv).1
    omega
  obtain ⟨t, e⟩ := hi.int_at i v (by rw [Array.getElem?_toList]; exact hv)
  exact ⟨ns[i], t, List.getElem?_eq_getElem hn, by rw [e, List.getD_eq_getElem?_getD, List.getElem?_eq_getElem hn]; rfl⟩
/-- the list's items go into a new set -/
theorem init_lst {s : Shared} {l S : Addr} {items : Array Value} {ns : List Int} {R : Fin → Shared → Prop} (hh : A.handled = none) (hl : s.heap.IsList l items) (hi : IntsAre items.toList ns) (hb : ns.length + 1 < scanBound)
    (hS : s.heap.get? S = some (setObj w)) (ne : S ≠ l)
    (h : ∀ (h' : Heap) (tk c : Nat), SetR w h' S (fun j => decide (j ∈ ns)) c → c ≤ ns.length → (∀ b o, b ≠ S → s.heap.get? b = some o → h'.get? b = some o) → R (.done (.ret .none)) { s with heap := h', toks := tk }) :
    wpAny (model P w) A (Builtin.«set.__init__» ⟨[.ref S, .ref l], []⟩) R E s := by
  have hsz : items.size = ns.length := by have := hi.length; rw [Array.length_toList] at this; exact this
  obtain ⟨⟨oc, od, odt, osl⟩, ho, hc, n, hd⟩ := id hl
  simp only at hc hd
  subst hc hd
  have n1 := F.sub_list_set
  have n2 := F.sub_list_frozenset
  have n3 : (Value.type "list" == Value.type "dict") = false := by decide
  unfold Builtin.«set.__init__» noKeywords Builtin.Frozenset.updateFrom
  generalize hPI : pyIter = PI
  wp_walk
  subst hPI
  refine wpAny_pyIter_list hl (wpAny_bind (wpAny_runValue ?_))
  have ll := Heap.lt_size ho
  have lS := Heap.lt_size hS
  have hlI : l ≠ s.heap.objs.size := Nat.ne_of_lt ll
  have nf : S ∉ [s.heap.objs.size, l] := by
    simp only [List.mem_cons, List.not_mem_nil, or_false, not_or]
    exact ⟨Nat.ne_of_lt lS, ne⟩
  have hv : ∀ (i : Nat) (v : Value), items[i]? = some v → ∃ k t, ns[i]? = some k ∧ v = .int k t := int_of hi
  refine set_update_ints (Walks.list (by simp [hh]) _ l hlI items).toS S nf ns hsz hb hv (items.size - 0) 0 _ rfl (Nat.zero_le _) ⟨⟨_, Heap.get?_push_size _ rfl, rfl, rfl⟩, hl.push _⟩ ⟨0, Nat.le_refl 0, setR_new_at (Heap.get?_push_of_some _ hS)⟩ fun s' c mv hc' R' => ?_
  obtain ⟨h', g', d', t', o'⟩ := s'
  obtain rfl : g' = s.gens := mv.gens
  obtain rfl : d' = s.drawn := mv.drawn
  obtain rfl : o' = s.os := mv.os
  refine wpAny_pure (wpAny_pure (h h' t' c R' (hsz ▸ hc') fun b o hb' e => mv.heap b o ?_ (Heap.get?_push_of_some _ e)))
  have := Heap.lt_size e
  simp only [List.mem_cons, List.not_mem_nil, or_false, not_or]
  exact ⟨hb', Nat.ne_of_lt this⟩
theorem call_set_lst {s : Shared} {l : Addr} {items : Array Value} {ns : List Int} {Q : Value → Shared → Prop} (hh : A.handled = none) (hl : s.heap.IsList l items) (hi : IntsAre items.toList ns) (hb : ns.length + 1 < scanBound)
    (h : ∀ (h' : Heap) (tk c : Nat), SetR w h' s.heap.objs.size (fun j => decide (j ∈ ns)) c → c ≤ ns.length → (∀ b o, s.heap.get? b = some o → h'.get? b = some o) → Q (.ref s.heap.objs.size) { s with heap := h', toks := tk }) :
    wpAny (model P w) A (call (.type "set") [.ref l]) Q E s := by
  obtain ⟨c, tl, hmro⟩ := F.called_set.mro
  have f1 := F.called_set.made
  have f2 := F.called_set.sub
  have f3 := F.called_set.notType
  have f4 := F.called_set.canCreate
  have f5 := F.typeCall_set_1 (.ref l)
  refine wpAny_call (codeAny_of_tree (wpAny_pure ⟨Code.quiet_builtin _ (by decide +kernel), codeAny_builtin F.entry_type_call ?_⟩))
  rw [Around.under_plain (weight_type_call_type "set" [.ref l] []) rfl]
  repeat (any_goals (first | assumption | wp_step))
  have new : (s.heap.push (setObj w)).get? s.heap.objs.size = some (setObj w) := Heap.get?_push_size _ rfl
  refine codeAny_mono (code_set_led1 (.ref l) (E := E) (Q₁ := fun v s1 => v = .ref s.heap.objs.size ∧ s1 = { s with heap := s.heap.push (setObj w) }) ⟨rfl, rfl⟩) fun r s1 hr => ?_
  match r, hr with
  | .error _, hr => exact hr
  | .ok .next, hr => exact hr.elim
  | .ok .brk, hr => exact hr.elim
  | .ok .cont, hr => exact hr.elim
  | .ok (.ret v), ⟨e1, e2⟩ =>
    subst e1 e2
    have g1 : Shared.TypeIs { s with heap := s.heap.push (setObj w) } (.ref s.heap.objs.size) "set" := ⟨_, new, rfl⟩
    have g2 := F.called_set.init.lookup
    have g3 := F.called_set.init.bind (.ref s.heap.objs.size)
    repeat (any_goals (first | assumption | wp_step))
    have ln : s.heap.objs.size ≠ l := fun z => by
      obtain ⟨o, ho, _⟩ := hl
      exact absurd (Heap.lt_size ho) (by rw [← z]; exact Nat.lt_irrefl _)
    refine codeAny_mono (codeAny_call_builtin (R := wants (fun v s2 => v = .none ∧ Q (.ref s.heap.objs.size) s2) E) F.called_set.init.plain F.entry_set_init
      (check_set_init_1 g1 (init_lst (by simp [hh]) (hl.push _) hi hb new ln fun h' tk c R' c' kp => ⟨rfl, h h' tk c R' c' fun b o e => kp b o (Nat.ne_of_lt (Heap.lt_size e)) (Heap.get?_push_of_some _ e)⟩))) fun r2 s2 hr2 => ?_
    match r2, hr2 with
    | .error _, hr2 => exact hr2
    | .ok .next, hr2 => exact hr2.elim
    | .ok .brk, hr2 => exact hr2.elim
    | .ok .cont, hr2 => exact hr2.elim
    | .ok (.ret v), ⟨e3, q⟩ =>
      subst e3
      repeat (any_goals (first | assumption | wp_step))
end
/-- a list's ints, sorted, each once -/
def insI (n : Int) : List Int → List Int
  | [] => [n]
  | m :: r => if n < m then n :: m :: r else if n = m then m :: r else m :: insI n r
def sortI : List Int → List Int
  | [] => []
  | n :: r => insI n (sortI r)
theorem insI_mem {n : Int} : ∀ {l : List Int} {k : Int}, k ∈ insI n l ↔ k = n ∨ k ∈ l
  | [], k => by simp [insI]
  | m :: r, k => by
    unfold insI
    split
    · simp
    · split
      · rename_i h
        subst h
        simp
      · simp only [List.mem_cons, insI_mem]
        constructor
        · rintro (h | h | h) <;> simp [h]
        · rintro (h | h | h) <;> simp [h]
theorem sortI_mem : ∀ {l : List Int} {k : Int}, k ∈ sortI l ↔ k ∈ l
  | [], k => by simp [sortI]
  | n :: r, k => by simp [sortI, insI_mem, sortI_mem]
theorem insI_srt {n : Int} : ∀ {l : List Int}, l.Pairwise (· < ·) → (insI n l).Pairwise (· < ·)
  | [], _ => by simp [insI]
  | m :: r, h => by
    obtain ⟨h1, h2⟩ := List.pairwise_cons.mp h
    unfold insI
    split
    · rename_i hn
      refine List.pairwise_cons.mpr ⟨fun a ha => ?_, h⟩
      rcases List.mem_cons.mp ha with rfl | ha
      · exact hn
      · have := h1 a ha
        omega
    · split
      · exact h
      · refine List.pairwise_cons.mpr ⟨fun a ha => ?_, insI_srt h2⟩
        rcases insI_mem.mp ha with rfl | ha
        · omega
        · exact h1 a ha
theorem sortI_srt : ∀ (l : List Int), (sortI l).Pairwise (· < ·)
  | [] => .nil
  | n :: r => insI_srt (sortI_srt r)
theorem srt_uniq : ∀ {l l' : List Int}, l.Pairwise (· < ·) → l'.Pairwise (· < ·) → (∀ k, k ∈ l ↔ k ∈ l') → l = l'
  | [], [], _, _, _ => rfl
  | [], b :: l', _, _, e => by have := (e b).mpr (by simp); cases this
  | a :: l, [], _, _, e => by have := (e a).mp (by simp); cases this
  | a :: l, b :: l', h, h', e => by
    obtain ⟨h1, h2⟩ := List.pairwise_cons.mp h
    obtain ⟨h3, h4⟩ := List.pairwise_cons.mp h'
    have ab : a = b := by
      have x := (e a).mp (by simp)
      have y := (e b).mpr (by simp)
      rcases List.mem_cons.mp x with x | x
      · exact x
      · rcases List.mem_cons.mp y with y | y
        · exact y.symm
        · have := h3 a x
          have := h1 b y
          omega
    subst ab
    rw [srt_uniq h2 h4 fun k => ?_]
    constructor
    · intro hk
      rcases List.mem_cons.mp ((e k).mp (List.mem_cons_of_mem _ hk)) with z | z
      · subst z
        have := h1 k hk
        omega
      · exact z
    · intro hk
      rcases List.mem_cons.mp ((e k).mpr (List.mem_cons_of_mem _ hk)) with z | z
      · subst z
        have := h3 k hk
        omega
      · exact z
def sortSetD (d : D) : M D := do
  let ds ← seqD d
  match intsD ds with
    | some ns => if ns.length < 64 then (match d with | .tup _ => M.bad | _ => pure (.lst ((sortI ns).map .int))) else M.bad
    | none => M.bad
section
variable {k : Kx} {X : Cx} {E : XK}
def rSetL (K : PySem.W.Frag) (w : World) : List V → Hp → VK → Prop := fun xs H Q => ∃ (l : Addr) (ns : List Int), xs = [V.ref l] ∧ SqL K H l (ns.map V.int) ∧ ns.length < 64 ∧
  ∀ (a : Addr) (c : Nat), H a = none → c ≤ ns.length → Q (.ref a) (upd H a (SetO w a (fun j => decide (j ∈ ns)) c))
theorem cr_setL (hc : X.calm = true) : CallR X (.type "set") (rSetL X.K X.w) := by
  intro pins s σ H xs us Q I r h
  obtain ⟨l, ns, rfl, hl, hn, q⟩ := h
  rw [Vals.ref1 r]
  obtain ⟨its, rv, pl, hz⟩ := I.list hl
  refine call_set_lst (I.ok.hd hc) pl.isList (ns := ns) (by simpa using rv.ints) (by unfold scanBound; omega) fun h' tk c R cl kp => ?_
  exact ⟨.ref s.heap.objs.size, upd H s.heap.objs.size (SetO X.w s.heap.objs.size (fun j => decide (j ∈ ns)) c), I.laid (t' := tk) kp (Nat.le_refl _) (setO_new R), rfl, q _ c (I.hok.fresh (Nat.le_refl _)) cl⟩
theorem rpA_ints {G : Hp} {L : Lam} : ∀ ns : List Int, RpA k X.K G L (ns.map V.int) (ns.map D.int)
  | [] => .nil
  | n :: r => .cons (.int n) (rpA_ints r)
theorem j_sortSet {a : Expr} {ma : DEnv → M D} {p p2 q pos : Pos} (hg : Gl X "sorted") (hm : X.mg "sorted" = none) (hg2 : Gl X "set") (hm2 : X.mg "set" = none) (ha : JE k X E a ma) (hc : X.calm = true := by rfl)
    (h1 : starEach [a] X.env = [(false, eval a X.env)] := by rfl) (h2 : starEach [.Call (.Name "set" p2) [a] [] q] X.env = [(false, eval (.Call (.Name "set" p2) [a] [] q) X.env)] := by rfl) :
    JE k X E (.Call (.Name "sorted" p) [.Call (.Name "set" p2) [a] [] q] [] pos) (eUn sortSetD ma) := by
  refine PE.imp (pe_callB (cr_sortedSet hc) hg hm (by decide +kernel) (pa_cons (pe_callTy (cr_setL hc) hg2 hm2 (by decide +kernel) (pa_cons ha pa_nil h1) (by decide) (by decide) h1 rfl) pa_nil h2) (by decide) (by decide) h2 rfl) fun s H Q h => ?_
  obtain ⟨e, G, L, μ, sg, w, gd⟩ := h
  refine ⟨e, G, L, μ, sg, w, Good.mono (Good.bind gd) fun d1 m1 G1 H1 L1 st1 w1 q1 x r1 => ?_⟩
  obtain ⟨l, vs, ds, rfl, ra, hs, g⟩ := seq_of r1 w1 q1
  cases hi : intsD ds with
  | none => rw [hi] at g; exact False.elim g
  | some ns =>
    rw [hi] at g
    obtain ⟨hn, g⟩ := good_ite g
    have ev := intsD_of ra hi
    subst ev
    rcases hs with ⟨hs, nt⟩ | ⟨hs, et⟩
    · refine ⟨l, ns, rfl, hs, hn, fun b c hb hc' => ⟨b, _, c, rfl, upd_same, by omega, fun ns' p hp hm' hl' hpn => ?_⟩⟩
      have en : ns' = sortI ns := srt_uniq hp (sortI_srt ns) fun z => by rw [hm', sortI_mem]; simp
      subst en
      have w2 := w1.junk (o := SetO X.w b (fun j => decide (j ∈ ns)) c) hb
      have s2 : Stp G1 H1 L1 G1 (upd H1 b (SetO X.w b (fun j => decide (j ∈ ns)) c)) L1 := junkS hb
      have g' : Good k X.K E G1 H1 L1 ((pure (.lst ((sortI ns).map .int)) : M D) m1) (QV k X.K Q) := by
        cases d1 with
        | tup t => exact absurd rfl (nt t)
        | _ => exact g
      have g2 := Good.up g' s2
      exact g2 _ _ _ (w2.newS hpn) (w2.new hpn) _ (.lst (SqL.of upd_same) (rpA_ints _))
    · subst et
      exact False.elim g
end
end DL

/-! DX13: enumerate of a list or a tuple. -/
namespace DL
open PySem L2 PyProof.Rows
open AutoSeq1 (wpAny_loadPart')
def kqN : Bool → String
  | true => "list"
  | false => "tuple"
theorem KQ.ob {b : Bool} {h : Heap} {a : Addr} {xs : Array Value} (x : KQ b h a xs) : ∃ o, h.get? a = some o ∧ o.cls = .type (kqN b) ∧ ∃ n, o.data = .seq xs n := by
  cases b
  · obtain ⟨o, e, c, n, d⟩ := x
    exact ⟨o, e, c, n, d⟩
  · obtain ⟨o, e, c, n, d⟩ := x
    exact ⟨o, e, c, n, d⟩
abbrev kiO (b : Bool) (l : Addr) : Obj := { cls := .type (kiN b), data := .fields #[.ref l, .int 0 0] }
abbrev enO (it : Addr) : Obj := { cls := .type "enumerate", data := .fields #[.none, .bool false, .ref it, rawInt 0, .none, .none] }
theorem enum_new (b : Bool) (l : Addr) (items : Array Value) : Meets (Builtin.«enumerate.__new__» ⟨[.type "enumerate", .ref l], []⟩) (fun _ R s => KQ b s.heap l items ∧
    R (.ok (.ret (.ref (s.heap.objs.size + 1)))) { s with heap := (s.heap.push (kiO b l)).push (enO s.heap.objs.size) }) :=
  .of_wp fun prog w A R s h => by
    obtain ⟨hp, g, d, tk, os⟩ := s
    obtain ⟨hl, h⟩ := h
    have hsub := sub_enumerate
    obtain ⟨o, ho, hc, n, hd⟩ := hl.ob
    have sz : (hp.push (kiO b l)).objs.size = hp.objs.size + 1 := Heap.size_push ..
    have it : ∀ {A : Around} {E : Value → Shared → Prop} {Q : Value → Shared → Prop}, Q (.ref hp.objs.size) ⟨hp.push (kiO b l), g, d, tk, os⟩ → wpAny (model prog w) A (pyIter (.ref l)) Q E ⟨hp, g, d, tk, os⟩ := fun q => iterK (s := ⟨hp, g, d, tk, os⟩) hl q
    wp_walk using wpAny_loadPart' ho
    refine wpAny_stack_any fun st => wpAny_pure ?_
    have h' : R (.ok (.ret (.ref (hp.push (kiO b l)).objs.size))) ⟨(hp.push (kiO b l)).push (enO hp.objs.size), g, d, tk, os⟩ := by
      rw [sz]
      exact h
    split
    · rename_i c _ _ _ _ _
      cases c == Value.type "enumerate" <;> (wp_walk using it; exact ⟨_, rfl, h'⟩)
    · wp_walk using it
      exact ⟨_, rfl, h'⟩
theorem drawK {prog : Program} {w : World} {A : Around} (hh : A.handled = none) (b : Bool) (it l : Addr) (hne : l ≠ it) (items : Array Value) :
    Draws prog w A it [it, l] items.size (fun i v => items[i]? = some v) (fun i h => KI b h it l i ∧ KQ b h l items) := by
  cases b
  · exact Draws.tuple hh it l hne items
  · exact Draws.list hh it l hne items
/-- at the end: no item is left -/
theorem endK {prog : Program} {w : World} {A : Around} (hh : A.handled = none) (b : Bool) (it l : Addr) (items : Array Value) (i : Nat) (hn : items[i]? = none) :
    Draws prog w A it [it, l] i (fun _ _ => True) (fun j h => j = i ∧ KI b h it l i ∧ KQ b h l items) where
  live := fun _ _ st => let ⟨o, ho, _⟩ := st.2.1.ex; ⟨o, ho⟩
  frame := fun _ _ _ st hk => ⟨st.1, st.2.1.at fun o e => hk it (by simp) o e, by
    obtain ⟨_, _, q⟩ := st
    cases b
    · exact Heap.IsTuple.at q fun o e => hk l (by simp) o e
    · exact Heap.IsList.at q fun o e => hk l (by simp) o e⟩
  item := fun j s Q E hj st _ => absurd st.1 (Nat.ne_of_lt hj)
  done := fun s Q E st hE => nextK_end hh st.2.1 st.2.2 hn hE
theorem call_enumK {prog : Program} {w : World} {A : Around} {E : Value → Shared → Prop} {s : Shared} {b : Bool} {l : Addr} {items : Array Value} {Q : Value → Shared → Prop} (hL : KQ b s.heap l items)
    (h : ∀ h', IsEnum h' (s.heap.objs.size + 1) s.heap.objs.size 0 .none → KI b h' s.heap.objs.size l 0 → (∀ c o, s.heap.get? c = some o → h'.get? c = some o) → Q (.ref (s.heap.objs.size + 1)) { s with heap := h' }) :
    wpAny (model prog w) A (call (.type "enumerate") [.ref l]) Q E s := by
  refine callType_new F.called_enumerate (by decide) (F.typeCall_enumerate_1 _) (F.newCall_enumerate_1 _) (fun obj => F.args_object_init_2 obj _) F.entry_enumerate_new (enum_new b l items) ⟨hL, ?_⟩
  have sz : (s.heap.push (kiO b l)).objs.size = s.heap.objs.size + 1 := Heap.size_push ..
  have he : IsEnum ((s.heap.push (kiO b l)).push (enO s.heap.objs.size)) (s.heap.objs.size + 1) s.heap.objs.size 0 .none := by
    have z := Heap.get?_push_size (s.heap.push (kiO b l)) (o := enO s.heap.objs.size) rfl
    rw [sz] at z
    exact z
  exact ⟨⟨_, he, rfl⟩, h _ he (.of ⟨_, Heap.get?_push_of_some _ (Heap.get?_push_size _ rfl), rfl, rfl⟩) fun c o e => Heap.get?_push_of_some _ (Heap.get?_push_of_some _ e)⟩
/-- the items at a as they stand at each turn, each in a new pair with its place -/
def IteK (b : Bool) (K : PySem.W.Frag) (a : Addr) : It :=
  ⟨fun i H => ∃ (xs : List V) (x : V), SqK b K H a xs ∧ xs[i]? = some x, fun i H v H' => ∃ T x, v = .ref T ∧ H T = none ∧ H' = upd H T (.tup [.int (i : Nat), x]) ∧ ∀ xs, SqK b K H a xs → xs[i]? = some x, fun i H => ∃ xs : List V, SqK b K H a xs ∧ xs.length ≤ i⟩
theorem turn_enumK {P : Program} {w : World} {K : PySem.W.Frag} {elts : List Expr} {kk : Nat} {tpos : Pos} {b : Bool} {a e it : Addr} (ae : a ≠ e) (ai : a ≠ it) :
    Turn P w K (.Tuple elts kk tpos) (IteK b K a) [e, it] e (fun i h => (∃ old, IsEnum h e it ((i : Nat) : Int) old) ∧ KI b h it a i ∧ e ≠ it) where
  mem := by simp
  obj := fun i h st c hc => by
    obtain ⟨⟨old, he⟩, hi, _⟩ := st
    obtain ⟨o, ho, _, hd⟩ := hi.ex
    simp only [List.mem_cons, List.not_mem_nil, or_false] at hc
    rcases hc with rfl | rfl
    · exact ⟨_, he, fun v q => nomatch q⟩
    · exact ⟨o, ho, fun v q => by rw [hd] at q; cases q⟩
  keep := fun i h h' st k => let ⟨⟨old, he⟩, hi, hne⟩ := st; ⟨⟨old, k e (by simp) _ he⟩, hi.at fun o q => k it (by simp) o q, hne⟩
  item := by
    intro X hP hw hK hc i pins s σ H E I hf st hg
    subst hP hw hK
    obtain ⟨⟨old, he⟩, hit, hne⟩ := st
    obtain ⟨xs, x, hq, hx⟩ := hg
    obtain ⟨its, rv, p, _⟩ := sqK_val I hq
    obtain ⟨u, hu, ru⟩ := rv.get hx
    have le := Heap.lt_size he
    have li := hit.lt
    have hlt : i < its.toArray.size := by
      have := (List.getElem?_eq_some_iff.mp hu).1
      simpa using this
    refine wpAny_pyNext_enum_itemD (drawK (by simp [I.ok.hd hc]) b it a ai its.toArray) he ⟨hit, p⟩ hlt hne (by simp [hne, Ne.symm ae]) fun y h' tk hy ho st' hT hsz hk => ?_
    have ey : y = u := by
      have z : its.toArray[i]? = some u := by simpa using hu
      rw [hy] at z
      exact Option.some.inj z
    subst ey
    refine ⟨_, rfl, wpAny_letOwnedTupleGo_enum (s := { s with heap := h', toks := tk + 1 }) ho fun h2 he2 sb => ?_⟩
    have hT2 : h2.get? s.heap.objs.size = some { cls := .type "tuple", data := .seq #[.int i tk, y] } := (sb.2 _ (Nat.ne_of_gt le)).trans hT
    have new : ObjOk X.prog X.w (upd H s.heap.objs.size (.tup [.int (i : Nat), x])) h2 s.heap.objs.size (.tup [.int (i : Nat), x]) :=
      ⟨by show 2 ≤ sizeLine; decide, [.int i tk, y], .cons ⟨_, rfl⟩ (.cons ru .nil), ⟨_, hT2, rfl, _, rfl⟩⟩
    have I1 : L2.Inv X pins σ (upd H s.heap.objs.size (.tup [.int (i : Nat), x])) { s with heap := h2, toks := tk + 1 } :=
      I.turnedNew (ch := [e, it]) (fun c ob hb q => (sb.2 c (fun z => hb (by simp [z]))).trans (hk c ob (fun z => hb (by simp [z])) (fun z => hb (by simp [z])) q)) hf (Nat.le_refl _) new
    refine ⟨.ref s.heap.objs.size, _, I1, rfl, ⟨_, x, rfl, I.hok.fresh (Nat.le_refl _), rfl, fun ys hy' => by rw [sqK_inj I hy' hq]; exact hx⟩, ⟨⟨y, ?_⟩, st'.1.at fun o q => (sb.2 it (Ne.symm hne)).trans q, hne⟩, fun c hb => ?_⟩
    · rw [show ((i + 1 : Nat) : Int) = (i : Int) + 1 by omega]
      exact he2
    · have lc : c < s.heap.objs.size := by
        simp only [List.mem_cons, List.not_mem_nil, or_false] at hb
        rcases hb with rfl | rfl
        · exact le
        · exact li
      rw [upd_ne (Nat.ne_of_lt lc)]
      exact (hf c hb).1
  done := by
    intro X hP hw hK hc i pins s σ H E I hf st hg
    subst hP hw hK
    obtain ⟨⟨old, he⟩, hit, hne⟩ := st
    obtain ⟨xs, hq, hx⟩ := hg
    obtain ⟨its, rv, p, _⟩ := sqK_val I hq
    have hl := rv.length
    have hn : its.toArray[i]? = none := by simp; omega
    obtain ⟨f0, f1, f2, f3, f4, f5⟩ := hf it (by simp)
    exact wpAny_pyNext_enum_endD (endK (by simp [I.ok.hd hc]) b it a its.toArray i hn) he ⟨rfl, hit, p⟩ fun h' eb => ⟨rfl, I.turned (t' := s.toks) (fun c o hb q => eb c o hb q) f0 f1 f3 f4 f5⟩
  self := fun A i s Q E st h => let ⟨⟨_, he⟩, _⟩ := st; wpAny_pyIter_enum he h
def iEnumT (K : PySem.W.Frag) (ta : TA) : TI := fun σ H R => ta σ H fun vs H1 => ∃ b a xs, vs = [.ref a] ∧ SqK b K H1 a xs ∧ R (IteK b K a) H1
theorem pi_enumK {X : Cx} {e : Expr} {ta : TA} {p pos tpos : Pos} {elts : List Expr} {kk : Nat} (hg : Gl X "enumerate") (hm : X.mg "enumerate" = none) (ha : PA X [e] ta) (hs : starEach [e] X.env = [(false, eval e X.env)] := by rfl) :
    PI X (.Tuple elts kk tpos) (.Call (.Name "enumerate" p) [e] [] pos) (iEnumT X.K ta) := by
  refine ⟨fun pins s σ H R I h => ?_⟩
  refine Call_ (ld_blt I hg hm boot_enumerate (PyProof.Rows.callWith_type1 (thn (ha.run pos pins s σ H _ I h) fun us s1 ⟨vs, H1, I1, r1, q1⟩ => ?_) hs rfl))
  obtain ⟨b, a, xs, ex, hq, q⟩ := q1
  subst ex
  cases r1 with
  | cons r rr =>
    cases rr
    cases r
    obtain ⟨its, rv, pq, lt⟩ := sqK_val I1 hq
    refine call_enumK pq fun h' he hit hk => wpAny_pyIter_enum he ?_
    have I2 : L2.Inv X pins σ H1 { s1 with heap := h' } := I1.kept (t' := s1.toks) hk
    refine ⟨s1.heap.objs.size + 1, [s1.heap.objs.size + 1, s1.heap.objs.size], _, _, H1, rfl, I2, turn_enumK (e := s1.heap.objs.size + 1) (it := s1.heap.objs.size) (Nat.ne_of_lt (Nat.lt_succ_of_lt lt)) (Nat.ne_of_lt lt), ⟨⟨.none, he⟩, hit, Nat.succ_ne_self _⟩, fun c hb => ?_, q⟩
    have hle : s1.heap.objs.size ≤ c := by
      rcases List.mem_cons.mp hb with z | z
      · rw [z]
        exact Nat.le_succ _
      · rw [List.mem_singleton.mp z]
        exact Nat.le_refl _
    exact I1.fpOk hle (I1.hok.fresh hle)
def iEnum (a : DEnv → M (List D)) : DEnv → M Src := fun e => do
  let xs ← a e
  match xs with
    | [x] => do let s ← srcD x; pure ⟨enumT s.items, s.gd⟩
    | _ => M.bad
section
variable {k : Kx} {X : Cx} {E : XK} {pos : Pos}
theorem iteK_ok {G : Hp} {L : Lam} {s : Src} {a : Addr} {b : Bool} (h1 : Stand k X.K G L s a b) : ItOk k X.K G L (IteK b X.K a) ⟨enumT s.items, s.gd⟩ := by
  intro G2 H2 L2 μ ge le w ok i
  obtain ⟨vs, hs, ra⟩ := stand_K h1 G2 H2 L2 μ ge le w ok
  refine ⟨fun d hd => ?_, fun hl => ⟨vs, hs, by rw [enumT_len] at hl; rw [ra.len]; exact hl⟩⟩
  obtain ⟨dx, e1, rfl⟩ := enumT_get hd
  obtain ⟨v, hv, rv⟩ := ra.get e1
  refine ⟨⟨vs, v, hs, hv⟩, fun x H3 y => ?_⟩
  obtain ⟨T, x', rfl, hT, rfl, q1⟩ := y
  have z1 := q1 vs hs
  rw [hv] at z1
  cases z1
  exact two_new w hT (.int _) rv
theorem ji_enumK {a : Expr} {ms : DEnv → M (List D)} {p tpos : Pos} {elts : List Expr} {kk : Nat} (hg : Gl X "enumerate") (hm : X.mg "enumerate" = none) (ha : JA k X E [a] ms) (hs : starEach [a] X.env = [(false, eval a X.env)] := by rfl) :
    JI k X E (.Tuple elts kk tpos) (.Call (.Name "enumerate" p) [a] [] pos) (iEnum ms) := by
  refine PI.imp (pi_enumK hg hm ha hs) fun s H R h => ?_
  obtain ⟨e, G, L, μ, sg, w, gd⟩ := h
  refine ⟨e, G, L, μ, sg, w, Good.mono (Good.bind gd) fun ds m1 G1 H1 L1 st1 w1 q1 vs r => ?_⟩
  match ds, r, q1 with
  | [], _, q1 => exact False.elim q1
  | [x], r, q1 =>
    obtain ⟨v, rfl, r1⟩ := one_of (H := H1) r
    obtain ⟨a, s, rfl, ⟨va, hva⟩, sa, q1⟩ := src_atK (f := fun s => (pure ⟨enumT s.items, s.gd⟩ : M Src)) r1 w1 q1
    exact ⟨notTup x, a, va, rfl, hva, Good.ret q1 w1 _ (iteK_ok sa)⟩
  | x :: _ :: _, _, q1 => exact False.elim q1
end
end DL

/-! DX14: reading the denotations, further. -/
namespace DL
open PySem L2
section
variable {α β : Type}
@[simp] theorem thn_exn (c : Nat) (fs : List D) (m : Store) (f : α → Store → Res β) : (Res.exn c fs m : Res α).thn f = .exn c fs m := (rfl)
@[simp] theorem exn_ap (c : Nat) (fs : List D) (m : Store) : (M.exn c fs : M α) m = .exn c fs m := (rfl)
end
variable (e : DEnv) (m : Store)
@[simp] theorem sRaise_ap (c : Nat) (a : DEnv → M D) : sRaise c a e m = (a e m).thn fun x m1 => .exn c [x] m1 := by simp [sRaise]
@[simp] theorem pNone_ap : pNone e m = .ok none m := (rfl)
theorem pSome_int {a : DEnv → M D} {i : Int} {m1 : Store} (h : a e m = .ok (.int i) m1) : pSome a e m = .ok (some i) m1 := by simp [pSome, h]
@[simp] theorem eSlice_ap (a : DEnv → M D) (lo hi : DEnv → M (Option Int)) : eSlice a lo hi e m = (a e m).thn fun x m1 => (lo e m1).thn fun l m2 => (hi e m2).thn fun h m3 => sliceD x l h m3 := by simp [eSlice]
@[simp] theorem slice_tup (ds : List D) (lo hi : Option Int) : sliceD (.tup ds) lo hi m = .ok (.tup (cutD ds lo hi)) m := (rfl)
@[simp] theorem slice_lst (ds : List D) (lo hi : Option Int) : sliceD (.lst ds) lo hi m = .ok (.lst (cutD ds lo hi)) m := (rfl)
theorem cut_to (ds : List D) (n : Nat) : cutD ds none (some (n : Int)) = ds.take n := by
  unfold cutD
  rw [HT.sIx_nat]
  show (ds.drop 0).take (min n ds.length - 0) = _
  simp [List.take_eq_take_iff]
theorem cut_from (ds : List D) (n : Nat) : cutD ds (some (n : Int)) none = ds.drop n := by
  unfold cutD
  rw [HT.sIx_nat]
  show (ds.drop (min n ds.length)).take (ds.length - min n ds.length) = _
  by_cases h : n ≤ ds.length
  · rw [Nat.min_eq_left h, List.take_of_length_le (by simp)]
  · have h' : ds.length ≤ n := by omega
    rw [Nat.min_eq_right h', List.drop_length, List.drop_eq_nil_of_le h']
    simp
@[simp] theorem isi_non (cs : List Nat) (t : Ty) : isiD cs t .non m = .ok (.bl (isK t .non)) m := (rfl)
@[simp] theorem isi_str (cs : List Nat) (t : Ty) (x : Str) : isiD cs t (.str x) m = .ok (.bl (isK t .str)) m := (rfl)
@[simp] theorem isi_dct (cs : List Nat) (t : Ty) (ks : List Key) (x : List D) : isiD cs t (.dct ks x) m = .ok (.bl (isK t .dct)) m := (rfl)
theorem fn_exn {n : Nat} {b : DEnv → M Out} {ds : List D} {m m' : Store} {c : Nat} {fs : List D} (h : b (startD n ds) m = .exn c fs m') : fnD n b ds m = .exn c fs m' := by
  simp [fnD, scopeM, runB, h]
theorem make_exn {c n c' : Nat} {den : List D → M D} {ds fs : List D} {m m' : Store} (hl : ds.length + 1 = n) (h : den (.loc m.length :: ds) (m ++ [some (.ins c [])]) = .exn c' fs m') : makeD c n den ds m = .exn c' fs m' := by
  simp [makeD, scopeM, newI, callN, hl, h]
/-- how data are shown -/
def Shows (d : D) (x : Str) : Prop := (∀ m, rprD [d] m = .ok (.str x) m) ∧ PyData.strOk x = true
theorem said_exn {hs : List (Nat × Str)} {done tag x : Str} {a : DEnv → M D} {e : DEnv} {m junk : Store} {c : Nat} {v : D} (h : a e m = .exn c [v] (m ++ junk)) (ht : hs.lookup c = some tag) (hv : Shows v x) :
    eSaid hs done a e m = .ok (.lst [.str tag, .str x]) m := by
  have h2 := hv.1 (m ++ junk)
  simp [eSaid, scopeM, said0, h, ht, h2, trim_app, D.und, D.undL]
theorem said_exn0 {hs : List (Nat × Str)} {done tag x : Str} {a : DEnv → M D} {e : DEnv} {m : Store} {c : Nat} {v : D} (h : a e m = .exn c [v] m) (ht : hs.lookup c = some tag) (hv : Shows v x) :
    eSaid hs done a e m = .ok (.lst [.str tag, .str x]) m := said_exn (junk := []) (by rw [List.append_nil]; exact h) ht hv
theorem ne_strs {x y : Str} (hx : PyData.strOk x = true) (hy : PyData.strOk y = true) : neD (.lst [.str x, .str y]) (.lst [.str x, .str y]) m = .ok (.bl false) m := by
  simp [neD, onPD, topPD, toPD, toPDs, SeqAt.shaped, PyData.canLay0, PyData.canLayAll0, PyData.depth, PyData.depthAll, PyData.eqv, PyData.eqvAll, hx, hy]
theorem ne_self {d : D} {x : PyData} (h : topPD d m = some x) (hs : SeqAt.shaped x = true) : neD d d m = .ok (.bl false) m := by
  simp [neD, onPD, h, hs, SeqAt.eqv_refl x (SeqAt.canLay_of_shaped hs)]
theorem eq_self {d : D} {x : PyData} (h : topPD d m = some x) (hs : SeqAt.shaped x = true) : eqD d d m = .ok (.bl true) m := by
  simp [eqD, onPD, h, hs, SeqAt.eqv_refl x (SeqAt.canLay_of_shaped hs)]
@[simp] theorem eMeth_ap (tab : MTab) (o : DEnv → M D) (as : DEnv → M (List D)) : eMeth tab o as e m = (o e m).thn fun x m1 => (clsM x m1).thn fun c m2 => (methOf tab c m2).thn fun q m3 => (as e m3).thn fun ds m4 => callN q.1 q.2 (x :: ds) m4 := by simp [eMeth]
@[simp] theorem clsM_obj (c : Nat) (ds : List D) : clsM (.obj c ds) m = .ok c m := (rfl)
@[simp] theorem methOf_hd (c : Nat) (q : Nat × (List D → M D)) (tab : MTab) : methOf ((c, q) :: tab) c m = .ok q m := by simp [methOf, List.lookup]
theorem compL_flt {α : Type} {src : List D} {g : D → DEnv → M DEnv} {t : DEnv → M Bool} {elt : DEnv → M D} {e : DEnv} {m : Store} {h f : α → D} {p : α → Bool} : ∀ (xs : List α), (∀ x ∈ xs, ∃ e1, g (h x) e m = .ok e1 m ∧ t e1 m = .ok (p x) m ∧ (p x = true → elt e1 m = .ok (f x) m)) →
    compL ⟨src, []⟩ g t elt e (xs.map h) m = .ok ((xs.filter p).map f) m
  | [], _ => by simp [compL]
  | d :: ds, q => by
    obtain ⟨e1, h1, h2, h3⟩ := q d (by simp)
    have ih := compL_flt (src := src) (g := g) (t := t) (elt := elt) (e := e) (m := m) (h := h) (f := f) (p := p) ds fun x hx => q x (by simp [hx])
    cases hp : p d with
    | true => simp [compL, noX, h1, h2, h3 hp, ih, hp]
    | false => simp [compL, noX, h1, h2, ih, hp]
theorem eComp_flt {α : Type} {it : DEnv → M Src} {g : D → DEnv → M DEnv} {t : DEnv → M Bool} {elt : DEnv → M D} {vs : List Nat} {e : DEnv} {m : Store} {xs : List α} {h f : α → D} {p : α → Bool} (hi : it e m = .ok ⟨xs.map h, []⟩ m) (hl : xs.length ≤ 100000)
    (q : ∀ x ∈ xs, ∃ e1, g (h x) (wipeD e vs) m = .ok e1 m ∧ t e1 m = .ok (p x) m ∧ (p x = true → elt e1 m = .ok (f x) m)) : eComp it g t elt vs e m = .ok (.lst ((xs.filter p).map f)) m := by
  simp [eComp, compM, hi, sizeOk, hl, compL_flt xs q]
theorem iEnum_ap (as : DEnv → M (List D)) {x : D} {m1 : Store} {xs : List D} (h : as e m = .ok [x] m1) (h1 : srcD x m1 = .ok ⟨xs, []⟩ m1) : iEnum as e m = .ok ⟨enumT xs, []⟩ m1 := by
  simp [iEnum, h, h1]
end DL

/-! DX15: attributes as targets. -/
namespace DL
open PySem L2 PyProof.Rows
section
variable {k : Kx} {X : Cx} {E : XK}
def gSlot (K : PySem.W.Frag) (ta : TE) (f : Str) : TG := fun v σ H Q => ta σ H fun x H1 => ∃ a C dx p vs i, x = .ref a ∧ SlX.Slt H1 a C dx vs ∧ SlX.SCls K C ∧ SlX.Slot1 K C f p i ∧ Q σ (SlX.slH H1 a C dx (SlX.putS i v vs))
theorem pg_slot {o : Expr} {ta : TE} {f : Str} {pos : Pos} (ho : PE X o ta) (ha : ∀ v, assign (.Attribute o f pos) X.env v = (do
      let ov ← holding [v] (eval o X.env)
      standAt pos.atName
      holding [v, ov] (setAttr ov f v)
      release [v, ov] []) := by intro _; rfl) : PG X (.Attribute o f pos) (gSlot X.K ta f) := by
  refine ⟨fun pins s σ H v u Q I r h => ?_⟩
  rw [ha]
  refine wpAny_bind (wpAny_holding (thn (ho.run pins s σ H _ I h) fun ov s1 ⟨x, H1, I1, r1, a, C, dx, p, vs, i, ex, hsl, c, t, q⟩ => ?_))
  subst ex
  obtain rfl : ov = Value.ref a := r1
  refine wpAny_bind (wpAny_standAt (wpAny_bind (wpAny_holding (SlX.setslot_ok I1 hsl c t r fun s3 I3 => ?_))))
  exact wpAny_release ⟨σ, _, I3, q⟩
def gAt (tab : List (Nat × Nat)) (mo : DEnv → M D) : D → DEnv → M DEnv := fun d e => do let y ← mo e; setAtT tab y d; pure e
theorem jg_attr {o : Expr} {mo : DEnv → M D} {f : Str} {pos : Pos} {tab : List (Nat × Nat)} (F : SlAll k X f tab) (ho : JE k X E o mo) (ha : ∀ v, assign (.Attribute o f pos) X.env v = (do
      let ov ← holding [v] (eval o X.env)
      standAt pos.atName
      holding [v, ov] (setAttr ov f v)
      release [v, ov] []) := by intro _; rfl) : JG k X E (.Attribute o f pos) [] (gAt tab mo) := by
  refine PG.imp (pg_slot ho ha) fun v s H Q h => ?_
  obtain ⟨d, e, G, L, μ, sg, r, w, gd⟩ := h
  refine ⟨e, G, L, μ, sg, w, Good.mono (Good.bind gd) fun d2 m2 G2 H2 L2 st2 w2 q2 x2 r2 => ?_⟩
  have sg2 := sg.mono st2.g st2.l
  obtain ⟨a, c, dx, vs, i, m', rfl, ht, hsl, st3, w3, q3⟩ := setAt_good r2 (Rp.mono st2.g st2.l _ _ r) w2 q2
  obtain ⟨sc, p, sp⟩ := slAll_of F ht
  exact ⟨a, k.cl c, dx, p, vs, i, rfl, hsl, sc, sp, Good.up q3 st3 _ _ _ (Stp.refl _ _ _) w3 _ (sg2.mono st3.g st3.l) ⟨rfl, fun _ _ => rfl⟩⟩
end
end DL

/-! DX16: xs[::-1], text * int, dicts that change, dicts that are done. -/
namespace DL
open PySem L2 PyProof.Rows
section
variable {k : Kx} {X : Cx} {E : XK}
/-! ### xs[::-1] -/
theorem RpA.rev {K : PySem.W.Frag} {G : Hp} {L : Lam} : ∀ {vs : List V} {ds : List D}, RpA k K G L vs ds → RpA k K G L vs.reverse ds.reverse
  | [], _, h => by cases h; exact .nil
  | v :: vs, _, h => by
    cases h with
    | cons h1 h2 =>
      rw [List.reverse_cons, List.reverse_cons]
      exact h2.rev.append (.cons h1 .nil)
def revD (d : D) : M D := match d with
  | .tup _ => M.bad
  | d => do let ds ← seqD d; pure (.lst ds.reverse)
theorem j_rev {a : Expr} {ma : DEnv → M D} {kk : Nat} {p1 p2 p3 pos : Pos} (ha : JE k X E a ma) : JE k X E (.Subscript a (.Slice none none (some (.UnaryOp .USub (.Constant (.int 1) kk p1) p2)) p3) pos) (eUn revD ma) := by
  refine PE.imp (pe_revL ha) fun s H Q h => ?_
  obtain ⟨e, G, L, μ, sg, w, gd⟩ := h
  refine ⟨e, G, L, μ, sg, w, Good.mono (Good.bind gd) fun d1 m1 G1 H1 L1 st1 w1 q1 x r1 => ?_⟩
  have seq : ∀ (ne : ∀ t, d1 ≠ .tup t) (q : Good k X.K E G1 H1 L1 ((do let ds ← seqD d1; pure (D.lst ds.reverse)) m1) (QV k X.K Q)), ∃ a xs, x = .ref a ∧ SqL X.K H1 a xs ∧ ∀ p, H1 p = none → Q (.ref p) (upd H1 p (.lst xs.reverse)) := fun ne q => by
    obtain ⟨a, vs, ds, rfl, ra, hs | hs, g⟩ := seq_of r1 w1 q
    · refine ⟨a, vs, rfl, hs.1, fun p hp => ?_⟩
      exact g _ _ _ (w1.newS hp) (w1.new hp) _ (.lst (SqL.of upd_same) (RpA.mono (w1.newS (o := .lst vs.reverse) hp).g (pre_refl L1) _ _ ra.rev))
    · exact absurd hs.2 (ne ds)
  cases d1 with
  | tup ds => exact False.elim q1
  | lst ds => exact seq (fun _ z => nomatch z) q1
  | loc n => exact seq (fun _ z => nomatch z) q1
  | _ => exact False.elim q1
/-! ### text * int -/
def mulS (x y : D) : M D := match x, y with
  | .str s, .int n => if 1 ≤ n ∧ n ≤ 100 ∧ s.length ≤ 100 then pure (.str (Txt.mul s n)) else M.bad
  | _, _ => M.bad
theorem op_mulS : OpR X (binaryOp .Mult) (fun x y H Q => ∃ (s : Str) (n : Int), x = .str s ∧ y = .int n ∧ MulOk s n ∧ Q (.str (Txt.mul s n)) H) := by
  intro pins s σ H x y v u Q I rx ry h
  obtain ⟨z, n, rfl, rfl, ok, q⟩ := h
  obtain ⟨t, rfl⟩ := rx
  obtain ⟨t', rfl⟩ := ry
  exact SB.mul ok fun t2 k2 => ⟨.str _, H, I.tok k2, ⟨t2, rfl⟩, q⟩
theorem mulOk_of {s : Str} {n : Int} (h : 1 ≤ n ∧ n ≤ 100 ∧ s.length ≤ 100) : MulOk s n := by
  obtain ⟨h1, h2, h3⟩ := h
  refine ⟨?_, fun _ _ => ?_, fun _ _ => ?_⟩
  · have a : ¬ n < -(2 ^ 63 : Int) := by omega
    have b : ¬ n ≥ 2 ^ 63 := by omega
    simp only [a, b, decide_false, Bool.or_self]
  · have : (100 : Int) ≤ (2 ^ 63 - 1) / n := by
      rw [Int.le_ediv_iff_mul_le (by omega)]
      omega
    omega
  · have h4 : s.length * n.toNat ≤ 100 * 100 := Nat.mul_le_mul h3 (by omega)
    unfold Builtin.Str.tooLong
    have e : sizeLine = 16777216 := rfl
    have : ¬ s.length * n.toNat > sizeLine := by omega
    simp only [this, decide_false]
theorem b_mulS : BinD k X E (binaryOp .Mult) mulS := by
  refine ⟨_, op_mulS, fun x y dx dy G H L μ Q rx ry w g => ?_⟩
  cases dx with
  | str s =>
    cases dy with
    | int n =>
      cases rx
      cases ry
      obtain ⟨hz, g⟩ := good_ite g
      exact ⟨s, n, rfl, rfl, mulOk_of hz, Good.ret g w _ (.str _)⟩
    | _ => exact False.elim g
  | _ => cases dy <;> exact False.elim g
end
end DL

/-! DX17: dicts that change (cells), dicts that are done (locked data). -/
namespace DL
open PySem L2 PyProof.Rows
theorem u1 {u c : Nat} (h : u + 64 < c) : u + 1 < c := by omega
/-! ### dicts of data -/
def keyDD : Key → D
  | .inl i => .int i
  | .inr x => .str x
def dGetD (ks : List Key) (ds : List D) (x : Key) : Option D := ((ks.zip ds).find? fun p => decide (p.1 = x)).map (·.2)
def dPutD (ks : List Key) (ds : List D) (x : Key) (d : D) : List Key × List D := if (ks.any fun y => decide (y = x)) = true then (ks, (ks.zip ds).map fun p => if p.1 = x then d else p.2) else (ks ++ [x], ds ++ [d])
section
variable {k : Kx} {K : PySem.W.Frag} {G H : Hp} {L : Lam} {m : Store}
theorem dGet_rp : ∀ {ks : List Key} {vs : List V} {ds : List D} (x : Key), ks.length = vs.length → RpA k K G L vs ds →
    (∀ d, dGetD ks ds x = some d → ∃ v, valV (ks.zip vs) x = some v ∧ Rp k K G L v d) ∧ (dGetD ks ds x = none → valV (ks.zip vs) x = none)
  | [], _, _, x, _, r => ⟨fun d e => by simp [dGetD] at e, fun _ => rfl⟩
  | y :: ks, [], _, x, hl, r => by simp at hl
  | y :: ks, v :: vs, _, x, hl, r => by
    cases r with
    | @cons _ _ d ds r1 r2 =>
      obtain ⟨h1, h2⟩ := dGet_rp (ks := ks) x (by simpa using hl) r2
      by_cases e : y = x
      · have a : dGetD (y :: ks) (d :: ds) x = some d := by simp [dGetD, e]
        have b : valV ((y :: ks).zip (v :: vs)) x = some v := by simp [valV, e]
        rw [a, b]
        refine ⟨fun d' z => ?_, fun z => by cases z⟩
        cases z
        exact ⟨v, rfl, r1⟩
      · have a : dGetD (y :: ks) (d :: ds) x = dGetD ks ds x := by simp [dGetD, e]
        have b : valV ((y :: ks).zip (v :: vs)) x = valV (ks.zip vs) x := by simp [valV, e]
        rw [a, b]
        exact ⟨h1, h2⟩
theorem zip_put : ∀ {ks : List Key} {vs : List V} (x : Key) (v : V), ks.length = vs.length → (ks.zip vs).map (fun kv => if kv.1 = x then (kv.1, v) else kv) = ks.zip ((ks.zip vs).map fun p => if p.1 = x then v else p.2)
  | [], _, x, v, _ => rfl
  | y :: ks, [], x, v, hl => by simp at hl
  | y :: ks, u :: vs, x, v, hl => by
    have := zip_put (ks := ks) (vs := vs) x v (by simpa using hl)
    simp only [List.zip_cons_cons, List.map_cons, this]
    by_cases e : y = x <;> simp [e]
theorem rpA_put : ∀ {ks : List Key} {vs : List V} {ds : List D} (x : Key) {v : V} {d : D}, ks.length = vs.length → RpA k K G L vs ds → Rp k K G L v d →
    RpA k K G L ((ks.zip vs).map fun p => if p.1 = x then v else p.2) ((ks.zip ds).map fun p => if p.1 = x then d else p.2)
  | [], _, _, x, _, _, _, _, _ => .nil
  | y :: ks, [], _, x, _, _, hl, r, _ => by simp at hl
  | y :: ks, u :: vs, _, x, v, d, hl, r, q => by
    cases r with
    | cons r1 r2 =>
      have := rpA_put (ks := ks) x (by simpa using hl) r2 q
      simp only [List.zip_cons_cons, List.map_cons]
      refine .cons ?_ this
      by_cases e : y = x
      · simp [e]; exact q
      · simp [e]; exact r1
theorem any_zip : ∀ {ks : List Key} {vs : List V} (x : Key), ks.length = vs.length → ((ks.zip vs).any fun kv => decide (kv.1 = x)) = ks.any fun y => decide (y = x)
  | [], _, x, _ => rfl
  | y :: ks, [], x, hl => by simp at hl
  | y :: ks, u :: vs, x, hl => by
    have := any_zip (ks := ks) (vs := vs) x (by simpa using hl)
    simp only [List.zip_cons_cons, List.any_cons, this]
theorem dPut_rp {ks : List Key} {vs : List V} {ds : List D} {x : Key} {v : V} {d : D} (hl : ks.length = vs.length) (r : RpA k K G L vs ds) (q : Rp k K G L v d) :
    ∃ ws, putK (ks.zip vs) x v = (dPutD ks ds x d).1.zip ws ∧ (dPutD ks ds x d).1.length = ws.length ∧ RpA k K G L ws (dPutD ks ds x d).2 := by
  unfold putK dPutD
  rw [any_zip x hl]
  by_cases e : (ks.any fun y => decide (y = x)) = true
  · simp only [e, if_true]
    exact ⟨_, zip_put x v hl, by simp [hl], rpA_put x hl r q⟩
  · simp only [e, if_false, Bool.false_eq_true]
    exact ⟨vs ++ [v], by rw [List.zip_append hl]; rfl, by simp [hl], r.append (.cons q .nil)⟩
/-! ### the world -/
theorem nt_dK (kvs : List (Key × V)) : NT (.dK kvs) := fun _ z => (by cases z)
theorem nc_dK' (kvs : List (Key × V)) : NC (.dK kvs) := nc_dK kvs
theorem Wd.newDct (w : Wd k K G H L m) {p : Addr} (h : H p = none) : Wd k K G (upd H p (.dK [])) (L ++ [(p, p)]) (m ++ [some (.dct [] [])]) := by
  have w1 := w.newLoc (p := p) (vs := []) (ds := []) h .nil
  have old : ∀ {b : Addr}, b ≠ p → upd H p (.dK []) b = upd H p (.lst []) b := fun {b} hb => by rw [upd_ne hb, upd_ne hb]
  refine ⟨fun b u e => ?_, by rw [w1.len]; simp, fun q hq => ?_, tabs_upd w.tab (nc_none h), w.gt, fun n c e => ?_, fun i j a b a' b' li lj => ?_⟩
  · have hb : b ≠ p := fun z => by
      rw [z, w.gnone h] at e
      cases e
    rw [old hb]
    exact w1.ext b u e
  · obtain ⟨⟨o1, a1, b1⟩, ⟨o2, a2, b2⟩⟩ := w1.tk q hq
    refine ⟨?_, ?_⟩
    · by_cases z : q.1 = p
      · exact ⟨.dK [], by rw [z, upd_same], nt_dK []⟩
      · exact ⟨o1, by rw [old z]; exact a1, b1⟩
    · by_cases z : q.2 = p
      · exact ⟨.dK [], by rw [z, upd_same], nt_dK []⟩
      · exact ⟨o2, by rw [old z]; exact a2, b2⟩
  · by_cases hn : n < m.length
    · rw [List.getElem?_append_left hn] at e
      obtain ⟨a, b, hl, ga, gb, r'⟩ := w.cell n c e
      obtain ⟨⟨oa, ha⟩, ⟨ob, hb⟩⟩ := r'.addr
      exact ⟨a, b, pre_get (List.prefix_append _ _) hl, ga, gb, r'.step (Same.refl G) (List.prefix_append _ _) (upd_ne (ne_of_none ha h)) (upd_ne (ne_of_none hb h))⟩
    · have h1 := (List.getElem?_eq_some_iff.mp e).1
      simp at h1
      have e0 : n = m.length := by omega
      subst e0
      simp at e
      subst e
      exact ⟨p, p, by rw [← w.len]; simp, w.gnone h, w.gnone h, rfl, [], upd_same, rfl, .nil⟩
  · refine w1.apart i j a b a' b' ?_ ?_
    · rcases live_app li with z | z
      · obtain ⟨c, hc⟩ := z
        exact ⟨c, by rw [List.getElem?_append_left (List.getElem?_eq_some_iff.mp hc).1]; exact hc⟩
      · exact ⟨.lst [], by rw [z]; simp⟩
    · rcases live_app lj with z | z
      · obtain ⟨c, hc⟩ := z
        exact ⟨c, by rw [List.getElem?_append_left (List.getElem?_eq_some_iff.mp hc).1]; exact hc⟩
      · exact ⟨.lst [], by rw [z]; simp⟩
theorem Wd.lookD (w : Wd k K G H L m) {n : Nat} {ks : List Key} {ds : List D} (hn : m[n]? = some (some (.dct ks ds))) {v : V} (r : Rp k K G L v (.loc n)) : ∃ a vs, v = .ref a ∧ L[n]? = some (a, a) ∧ G a = none ∧ H a = some (.dK (ks.zip vs)) ∧ ks.length = vs.length ∧ RpA k K G L vs ds := by
  obtain ⟨a0, b0, hl0, ga, gb, rfl, vs, h, q⟩ := w.cell n _ hn
  cases r with
  | loc hl =>
    rw [hl] at hl0
    cases hl0
    exact ⟨_, vs, rfl, hl, ga, h, q⟩
theorem Wd.setDct (w : Wd k K G H L m) {n : Nat} {a : Addr} {ks' ks : List Key} {vs : List V} {ds' ds : List D} (hn : m[n]? = some (some (.dct ks' ds'))) (hl : L[n]? = some (a, a)) (he : ks.length = vs.length) (r : RpA k K G L vs ds) : Wd k K G (upd H a (.dK (ks.zip vs))) L (m.set n (some (.dct ks ds))) := by
  obtain ⟨a0, b0, hl0, ga, gb, r0⟩ := w.cell n _ hn
  rw [hl] at hl0
  cases hl0
  obtain ⟨_, vs0, h0, _⟩ := id r0
  refine ⟨fun c u e => ?_, by rw [List.length_set]; exact w.len, fun q hq => ⟨nt_upd (nt_dK _) (w.tk q hq).1, nt_upd (nt_dK _) (w.tk q hq).2⟩, tabs_upd w.tab (nc_at h0 (nc_dK _)), w.gt, fun i c e => ?_, fun i j a b a' b' li lj => w.apart i j a b a' b' (live_set hn li) (live_set hn lj)⟩
  · have : c ≠ a := fun z => by
      rw [z, ga] at e
      cases e
    rw [upd_ne this]
    exact w.ext c u e
  · by_cases hi : n = i
    · subst hi
      rw [List.getElem?_set_self (List.getElem?_eq_some_iff.mp hn).1] at e
      cases e
      exact ⟨a, a, hl, ga, ga, rfl, vs, upd_same, he, r⟩
    · rw [List.getElem?_set_ne hi] at e
      obtain ⟨a', b', hl', ga', gb', r'⟩ := w.cell i c e
      obtain ⟨n1, n2, n3, n4⟩ := w.apart i n a' b' a a ⟨c, e⟩ ⟨_, hn⟩ (Ne.symm hi) hl' hl
      exact ⟨a', b', hl', ga', gb', r'.step (Same.refl G) (pre_refl L) (upd_ne n1) (upd_ne n3)⟩
theorem nt_frz (o : Obj) (kvs : List (Key × V)) : NT (.frz o (.dK kvs)) := fun _ z => (by cases z)
/-- a dict that is done: locked, from now on data -/
theorem Wd.freezeD (w : Wd k K G H L m) {n : Nat} {a : Addr} {ks : List Key} {ds : List D} {o : Obj} {kvs kvs' : List (Key × V)} (hn : m[n]? = some (some (.dct ks ds))) (hl : L[n]? = some (a, a)) (h : H a = some (.dK kvs')) : Wd k K (upd G a (.frz o (.dK kvs))) (upd H a (.frz o (.dK kvs))) L (m.set n none) := by
  obtain ⟨a0, b0, hl0, ga, gb, r0⟩ := w.cell n _ hn
  rw [hl] at hl0
  cases hl0
  refine ⟨fun c u e => ?_, by rw [List.length_set]; exact w.len, fun q hq => ⟨nt_upd (nt_frz _ _) (w.tk q hq).1, nt_upd (nt_frz _ _) (w.tk q hq).2⟩, tabs_upd w.tab (nc_at h (nc_dK _)), gt_upd (nt_frz _ _) w.gt, fun i c e => ?_, fun i j a b a' b' li lj => w.apart i j a b a' b' (live_kill li).1 (live_kill lj).1⟩
  · by_cases hc : c = a
    · subst hc
      rw [upd_same] at e
      cases e
      exact upd_same
    · rw [upd_ne hc] at e
      rw [upd_ne hc]
      exact w.ext c u e
  · have hni : n ≠ i := fun z => (live_kill ⟨c, e⟩).2 z.symm
    rw [List.getElem?_set_ne hni] at e
    obtain ⟨a', b', hl', ga', gb', r'⟩ := w.cell i c e
    obtain ⟨n1, n2, n3, n4⟩ := w.apart i n a' b' a a ⟨c, e⟩ ⟨_, hn⟩ (Ne.symm hni) hl' hl
    exact ⟨a', b', hl', by rw [upd_ne n1]; exact ga', by rw [upd_ne n3]; exact gb', r'.step (Same.new ga) (pre_refl L) (upd_ne n1) (upd_ne n3)⟩
theorem freezeDS {n : Nat} {a b : Addr} {o o' : HO} (hl : L[n]? = some (a, b)) (ga : G a = none) (h : H a = some o') (no : NT o) : Stp G H L (upd G a o) (upd H a o) L where
  g := fun c u e => by rw [upd_ne (ne_of_none e ga)]; exact e
  l := pre_refl L
  tr := fun x e => bare_at no e
  keep := fun x u e nt ne => by
    have hx : x ≠ a := (ne (a, b) (List.mem_of_getElem? hl)).1
    rw [upd_ne hx, upd_ne hx]
    exact ⟨e, id⟩
  nl := fun q hq => .inl hq
end
section
variable {k : Kx} {X : Cx} {E : XK}
def eDNew : DEnv → M D := fun _ m => .ok (.loc m.length) (m ++ [some (.dct [] [])])
theorem j_dnew {pos : Pos} : JE k X E (.Dict [] [] pos) eDNew := by
  refine PE.imp pe_dnewK fun s H Q h => ?_
  obtain ⟨e, G, L, μ, sg, w, gd⟩ := h
  intro p hp
  exact gd _ _ _ (newLocS hp) (w.newDct hp) _ (.loc (a := p) (b := p) (by rw [← w.len]; simp))
/-- d[y] = v -/
def setK (o i v : D) : M Unit := fun m => match o with
  | .loc n => match m[n]?, keyD i with
    | some (some (.dct ks ds)), some x => if ks.length < 100000 then .ok () (m.set n (some (.dct (dPutD ks ds x v).1 (dPutD ks ds x v).2))) else .bad
    | _, _ => .bad
  | _ => .bad
def sSetK (o i v : DEnv → M D) : DEnv → M Out := fun e => do let x ← v e; let y ← o e; let z ← i e; setK y z x; pure (.nx e)
theorem key_rp {G : Hp} {L : Lam} {d : D} {v : V} {x : Key} (r : Rp k X.K G L v d) (h : keyD d = some x) : v = kV x := by
  cases d with
  | int i => cases r; cases h; rfl
  | str z => cases r; cases h; rfl
  | _ => cases h
theorem setK_good {β : Type} {o i v : D} {x y : V} {u : V} {f : Unit → M β} {G H : Hp} {L : Lam} {μ : Store} {Q : β → Store → Hp → Hp → Lam → Prop} (ro : Rp k X.K G L x o) (ri : Rp k X.K G L y i) (rv : Rp k X.K G L u v) (w : Wd k X.K G H L μ) (g : Good k X.K E G H L ((setK o i v >>= f) μ) Q) :
    ∃ p H' m', x = .ref p ∧ DPut H p y u H' ∧ Stp G H L G H' L ∧ Wd k X.K G H' L m' ∧ Good k X.K E G H L (f () m') Q := by
  have g' : Good k X.K E G H L (M.bind (setK o i v) f μ) Q := g
  unfold M.bind setK at g'
  cases o with
  | loc n =>
    simp only at g'
    cases hm : μ[n]? with
    | none => rw [hm] at g'; exact False.elim g'
    | some c =>
      cases c with
      | none => rw [hm] at g'; exact False.elim g'
      | some c =>
        cases c with
        | ins _ _ => rw [hm] at g'; exact False.elim g'
        | lst _ => rw [hm] at g'; exact False.elim g'
        | dct ks ds =>
          rw [hm] at g'
          cases hk : keyD i with
          | none => rw [hk] at g'; exact False.elim g'
          | some z =>
            rw [hk] at g'
            simp only at g'
            by_cases hz : ks.length < 100000
            · rw [if_pos hz] at g'
              have ey := key_rp ri hk
              subst ey
              obtain ⟨a, vs, rfl, hl, ga, h, he, ra⟩ := w.lookD hm ro
              obtain ⟨ws, e1, e2, e3⟩ := dPut_rp (x := z) he ra rv
              refine ⟨a, upd H a (.dK (putK (ks.zip vs) z u)), _, rfl, DPut.k h (by rw [List.length_zip]; exact lt_size (by omega)), setLocS hl h, ?_, g'⟩
              rw [e1]
              exact w.setDct hm hl e2 e3
            · rw [if_neg hz] at g'
              exact False.elim g'
  | _ => exact False.elim g'
theorem js_setK {o i v : Expr} {mo mi mv : DEnv → M D} {pos pos' : Pos} (hu : X.A.units + 1 < cLine) (hv : JE k X E v mv) (ho : JE k X E o mo) (hi : JE k X E i mi) (hs : swapsWith v (some (.Subscript o i pos')) pos.line X.env = pure false := by rfl) :
    JS k X E (.Assign [.Subscript o i pos'] v pos) (sSetK mo mi mv) := by
  refine PS.imp (ps_dput hu ho hi hv hs) fun Ds s H h => ?_
  obtain ⟨e, G, L, μ, sg, w, gd⟩ := h
  refine ⟨e, G, L, μ, sg, w, Good.mono (Good.bind gd) fun d1 m1 G1 H1 L1 st1 w1 q1 x1 r1 => ?_⟩
  have sg1 := sg.mono st1.g st1.l
  refine ⟨e, G1, L1, m1, sg1, w1, Good.mono (Good.bind q1) fun d2 m2 G2 H2 L2 st2 w2 q2 x2 r2 => ?_⟩
  have sg2 := sg1.mono st2.g st2.l
  refine ⟨e, G2, L2, m2, sg2, w2, Good.mono (Good.bind q2) fun d3 m3 G3 H3 L3 st3 w3 q3 x3 r3 => ?_⟩
  have sg3 := sg2.mono st3.g st3.l
  obtain ⟨p, H', m', rfl, dp, st4, w4, q4⟩ := setK_good (Rp.mono st3.g st3.l _ _ r2) r3 (Rp.mono st3.g st3.l _ _ (Rp.mono st2.g st2.l _ _ r1)) w3 q3
  exact ⟨p, H', rfl, dp, Good.up q4 st4 _ _ _ (Stp.refl _ _ _) w4 _ (sg3.mono st4.g st4.l)⟩
/-- d.get(y, z) -/
def isDct (o : D) : M Unit := fun m => match o with
  | .loc n => match m[n]? with
    | some (some (.dct _ _)) => .ok () m
    | _ => .bad
  | .fdc _ _ => .ok () m
  | _ => .bad
def dctD (o i : D) : M (Option D) := fun m => match o with
  | .loc n => match m[n]?, keyD i with
    | some (some (.dct ks ds)), some x => .ok (dGetD ks ds x) m
    | _, _ => .bad
  | .fdc ks ds => match keyD i with
    | some x => .ok (dGetD ks ds x) m
    | _ => .bad
  | _ => .bad
def eGet2 (o i z : DEnv → M D) : DEnv → M D := fun e => do let x ← o e; isDct x; let y ← i e; let d ← z e; let r ← dctD x y; pure (r.getD d)
theorem dctD_good {β : Type} {o i : D} {x y : V} {f : Option D → M β} {G H : Hp} {L : Lam} {μ : Store} {Q : β → Store → Hp → Hp → Lam → Prop} (ro : Rp k X.K G L x o) (ri : Rp k X.K G L y i) (w : Wd k X.K G H L μ) (g : Good k X.K E G H L ((dctD o i >>= f) μ) Q) :
    ∃ a od ov, x = .ref a ∧ DGet H a y ov ∧ (∀ d, od = some d → ∃ v, ov = some v ∧ Rp k X.K G L v d) ∧ (od = none → ov = none) ∧ Good k X.K E G H L (f od μ) Q := by
  have g' : Good k X.K E G H L (M.bind (dctD o i) f μ) Q := g
  unfold M.bind dctD at g'
  cases o with
  | loc n =>
    simp only at g'
    cases hm : μ[n]? with
    | none => rw [hm] at g'; exact False.elim g'
    | some c =>
      cases c with
      | none => rw [hm] at g'; exact False.elim g'
      | some c =>
        cases c with
        | ins _ _ => rw [hm] at g'; exact False.elim g'
        | lst _ => rw [hm] at g'; exact False.elim g'
        | dct ks ds =>
          rw [hm] at g'
          cases hk : keyD i with
          | none => rw [hk] at g'; exact False.elim g'
          | some z =>
            rw [hk] at g'
            have ey := key_rp ri hk
            subst ey
            obtain ⟨a, vs, rfl, hl, ga, h, he, ra⟩ := w.lookD hm ro
            obtain ⟨h1, h2⟩ := dGet_rp z he ra
            exact ⟨a, _, _, rfl, DGet.k h, h1, h2, g'⟩
  | fdc ks ds =>
    simp only at g'
    cases hk : keyD i with
    | none => rw [hk] at g'; exact False.elim g'
    | some z =>
      rw [hk] at g'
      have ey := key_rp ri hk
      subst ey
      cases ro with
      | @fdc _ a o vs _ hs he ra =>
        obtain ⟨h1, h2⟩ := dGet_rp z he ra
        exact ⟨a, _, _, rfl, .inl ⟨_, z, .inr ⟨o, w.ext _ _ hs⟩, rfl, rfl⟩, h1, h2, g'⟩
  | _ => exact False.elim g'
theorem isDct_good {β : Type} {o : D} {x : V} {f : Unit → M β} {G H : Hp} {L : Lam} {μ : Store} {Q : β → Store → Hp → Hp → Lam → Prop} (ro : Rp k X.K G L x o) (w : Wd k X.K G H L μ) (g : Good k X.K E G H L ((isDct o >>= f) μ) Q) :
    ∃ a, x = .ref a ∧ IsD H a ∧ Good k X.K E G H L (f () μ) Q := by
  have g' : Good k X.K E G H L (M.bind (isDct o) f μ) Q := g
  unfold M.bind isDct at g'
  cases o with
  | loc n =>
    simp only at g'
    cases hm : μ[n]? with
    | none => rw [hm] at g'; exact False.elim g'
    | some c =>
      cases c with
      | none => rw [hm] at g'; exact False.elim g'
      | some c =>
        cases c with
        | ins _ _ => rw [hm] at g'; exact False.elim g'
        | lst _ => rw [hm] at g'; exact False.elim g'
        | dct ks ds =>
          rw [hm] at g'
          obtain ⟨a, vs, rfl, hl, ga, h, he, ra⟩ := w.lookD hm ro
          exact ⟨a, rfl, .inl ⟨_, .inl h⟩, g'⟩
  | fdc ks ds =>
    cases ro with
    | @fdc _ a o vs _ hs he ra => exact ⟨a, rfl, .inl ⟨_, .inr ⟨o, w.ext _ _ hs⟩⟩, g'⟩
  | _ => exact False.elim g'
theorem j_get2 {o e f : Expr} {mo me mf : DEnv → M D} {apos cpos : Pos} (hu : X.A.units + 1 < cLine) (ho : JE k X E o mo) (he : JE k X E e me) (hf : JE k X E f mf) (m : M2 X o "get" apos e f cpos := by exact ⟨rfl, rfl, rfl, rfl⟩) :
    JE k X E (.Call (.Attribute o "get" apos) [e, f] [] cpos) (eGet2 mo me mf) := by
  refine PE.imp (pe_dget2 hu ho he hf m) fun s H Q h => ?_
  obtain ⟨e, G, L, μ, sg, w, gd⟩ := h
  refine ⟨e, G, L, μ, sg, w, Good.mono (Good.bind gd) fun d1 m1 G1 H1 L1 st1 w1 q1 x1 r1 => ?_⟩
  have sg1 := sg.mono st1.g st1.l
  obtain ⟨a, rfl, isd, q1⟩ := isDct_good r1 w1 q1
  refine ⟨a, rfl, isd, e, G1, L1, m1, sg1, w1, Good.mono (Good.bind q1) fun d2 m2 G2 H2 L2 st2 w2 q2 x2 r2 => ?_⟩
  have sg2 := sg1.mono st2.g st2.l
  refine ⟨e, G2, L2, m2, sg2, w2, Good.mono (Good.bind q2) fun d3 m3 G3 H3 L3 st3 w3 q3 x3 r3 => ?_⟩
  obtain ⟨a', od, ov, e1, dg, h1, h2, q4⟩ := dctD_good (Rp.mono st3.g st3.l _ _ (Rp.mono st2.g st2.l _ _ r1)) (Rp.mono st3.g st3.l _ _ r2) w3 q3
  cases e1
  refine ⟨ov, dg, ?_⟩
  cases od with
  | none =>
    rw [h2 rfl]
    exact Good.ret q4 w3 _ r3
  | some d =>
    obtain ⟨v, rfl, rv⟩ := h1 d rfl
    exact Good.ret q4 w3 _ rv
/-- d[y] -/
def ixK (o i : D) : M D := do let r ← dctD o i; match r with | some d => pure d | none => M.bad
theorem j_ixK {o i : Expr} {mo mi : DEnv → M D} {pos : Pos} (hu : X.A.units + 1 < cLine) (ho : JE k X E o mo) (hi : JE k X E i mi) (hs : NoSl i) : JE k X E (.Subscript o i pos) (eOp ixK mo mi) := by
  refine PE.imp (pe_dget hu ho hi hs) fun s H Q h => ?_
  obtain ⟨e, G, L, μ, sg, w, gd⟩ := h
  refine ⟨e, G, L, μ, sg, w, Good.mono (Good.bind gd) fun d1 m1 G1 H1 L1 st1 w1 q1 x1 r1 => ?_⟩
  refine ⟨e, G1, L1, m1, sg.mono st1.g st1.l, w1, Good.mono (Good.bind q1) fun d2 m2 G2 H2 L2 st2 w2 q2 x2 r2 => ?_⟩
  obtain ⟨a, od, ov, rfl, dg, h1, h2, q4⟩ := dctD_good (Rp.mono st2.g st2.l _ _ r1) r2 w2 q2
  cases od with
  | none => exact False.elim q4
  | some d =>
    obtain ⟨v, rfl, rv⟩ := h1 d rfl
    exact ⟨a, v, rfl, dg, Good.ret q4 w2 _ rv⟩
/-- y in d -/
def inK (y x : D) : M D := do let r ← dctD x y; pure (.bl r.isSome)
theorem op_inK (hu : X.A.units + 1 < cLine) : OpR X (compareOp .In) (fun y x H Q => ∃ a o, x = .ref a ∧ DGet H a y o ∧ Q (.bl o.isSome) H) := by
  intro pins s σ H y x u v Q I ry rx h
  obtain ⟨a, o, rfl, g, q⟩ := h
  obtain rfl : v = Value.ref a := rx
  exact d_in hu I g ry fun s3 I3 => ⟨.bl o.isSome, H, I3, rfl, q⟩
theorem b_inK (hu : X.A.units + 1 < cLine) : BinD k X E (compareOp .In) inK := by
  refine ⟨_, op_inK hu, fun y x dy dx G H L μ Q ry rx w g => ?_⟩
  obtain ⟨a, od, ov, rfl, dg, h1, h2, q4⟩ := dctD_good rx ry w g
  refine ⟨a, ov, rfl, dg, ?_⟩
  cases od with
  | none =>
    rw [h2 rfl]
    exact Good.ret q4 w _ (.bl _)
  | some d =>
    obtain ⟨v, rfl, rv⟩ := h1 d rfl
    exact Good.ret q4 w _ (.bl _)
/-! ### a dict that is done -/
def tFrz (t : TE) : TE := fun σ H Q => t σ H fun v H1 => ∃ d u, v = .ref d ∧ H1 d = some u ∧ Mut (some u) ∧ ∀ od, Q v (upd H1 d (.frz od u))
theorem pe_frz {e : Expr} {t : TE} (h : PE X e t) : PE X e (tFrz t) := by
  refine ⟨fun pins s σ H Q I hw => ?_⟩
  refine thn (h.run pins s σ H _ I hw) fun v s1 ⟨x, H1, I1, r, d, u, ex, hd, mu, q⟩ => ?_
  obtain ⟨od, I2⟩ := I1.lock hd mu
  exact ⟨x, _, I2, r, q od⟩
def frzK (o : D) : M D := fun m => match o with
  | .loc n => match m[n]? with
    | some (some (.dct ks ds)) => .ok (.fdc ks ds) (m.set n none)
    | _ => .bad
  | _ => .bad
theorem j_frzK {a : Expr} {ma : DEnv → M D} (h : JE k X E a ma) : JE k X E a (eUn frzK ma) := by
  refine PE.imp (pe_frz h) fun s H Q h => ?_
  obtain ⟨e, G, L, μ, sg, w, gd⟩ := h
  refine ⟨e, G, L, μ, sg, w, Good.mono (Good.bind gd) fun d1 m1 G1 H1 L1 st1 w1 q1 x r1 => ?_⟩
  have q1' : Good k X.K E G1 H1 L1 (frzK d1 m1) (QV k X.K Q) := q1
  unfold frzK at q1'
  cases d1 with
  | loc n =>
    simp only at q1'
    cases hm : m1[n]? with
    | none => rw [hm] at q1'; exact False.elim q1'
    | some o =>
      cases o with
      | none => rw [hm] at q1'; exact False.elim q1'
      | some c =>
        cases c with
        | ins _ _ => rw [hm] at q1'; exact False.elim q1'
        | lst _ => rw [hm] at q1'; exact False.elim q1'
        | dct ks ds =>
          rw [hm] at q1'
          obtain ⟨a, vs, rfl, hl, ga, h, he, ra⟩ := w1.lookD hm r1
          refine ⟨a, _, rfl, h, trivial, fun od => ?_⟩
          exact q1' _ _ _ (freezeDS hl ga h (nt_frz od _)) (w1.freezeD hm hl h) _ (.fdc upd_same he (RpA.mono (Same.new ga) (pre_refl L1) _ _ ra))
  | _ => exact False.elim q1'
/-! ### for x in d -/
def srcK (d : D) : M Src := match d with
  | .fdc ks _ => pure ⟨ks.map keyDD, []⟩
  | _ => M.bad
def iKeyD (a : DEnv → M D) : DEnv → M Src := fun e => do let x ← a e; srcK x
theorem key_is (x : Key) {G : Hp} {L : Lam} : Rp k X.K G L (kV x) (keyDD x) := by
  cases x with
  | inl i => exact .int i
  | inr z => exact .str z
theorem ji_keys {tg a : Expr} {ma : DEnv → M D} (ha : JE k X E a ma) : JI k X E tg a (iKeyD ma) := by
  refine PI.imp (pi_keys ha) fun s H R h => ?_
  obtain ⟨e, G, L, μ, sg, w, gd⟩ := h
  refine ⟨e, G, L, μ, sg, w, Good.mono (Good.bind gd) fun d m1 G1 H1 L1 st1 w1 q1 v r => ?_⟩
  cases d with
  | fdc ks ds =>
    cases r with
    | @fdc _ a o vs _ hs hl ra =>
      refine ⟨a, o, rfl, .inl ⟨_, w1.ext _ _ hs, Good.ret q1 w1 _ ?_⟩⟩
      intro G2 H2 L2 μ2 ge le w2 ok i
      have hh : H2 a = some (.frz o (.dK (ks.zip vs))) := w2.ext _ _ (ge _ _ hs)
      have hz : (ks.zip vs).length = ks.length := by rw [List.length_zip]; omega
      refine ⟨fun d hd => ?_, fun hi => ⟨hh, by rw [hz]; simpa using hi⟩⟩
      rw [List.getElem?_map] at hd
      cases hk : ks[i]? with
      | none => rw [hk] at hd; cases hd
      | some x =>
        rw [hk] at hd
        cases hd
        have hi : i < ks.length := (List.getElem?_eq_some_iff.mp hk).1
        have hv : i < vs.length := by omega
        refine ⟨⟨hh, by rw [hz]; exact hi⟩, fun x' H3 y => ?_⟩
        obtain ⟨rfl, x2, v2, e2, rfl⟩ := y
        rw [List.getElem?_zip_eq_some] at e2
        rw [hk] at e2
        have := e2.1
        cases this
        exact ⟨G2, Stp.refl _ _ _, w2, key_is _⟩
  | _ => exact False.elim q1
end
end DL

/-! DX18: comprehensions within comprehensions. -/
namespace DL
open PySem L2 PyProof.Rows
theorem lookup_relabel {env : Env} : ∀ {names : List (Str × NameKind)} {x : Str}, names.lookup x = some .cell ∨ names.lookup x = some .free →
    (names.map fun (n, k) => if (k == NameKind.free && env.scope.kind == .function && env.kindOf n == some .cell) then (n, NameKind.cell) else (n, k)).lookup x = some .cell ∨
    (names.map fun (n, k) => if (k == NameKind.free && env.scope.kind == .function && env.kindOf n == some .cell) then (n, NameKind.cell) else (n, k)).lookup x = some .free
  | [], _, h => by simp at h
  | (n, k) :: r, x, h => by
    have ih := @lookup_relabel env r x
    rw [List.map_cons]
    dsimp only
    by_cases hc : (k == NameKind.free && env.scope.kind == .function && env.kindOf n == some .cell) = true
    · rw [if_pos hc]
      cases hx : x == n with
      | true => left; simp only [List.lookup_cons, hx]
      | false =>
        simp only [List.lookup_cons, hx] at h ⊢
        exact ih h
    · rw [if_neg hc]
      cases hx : x == n with
      | true =>
        simp only [List.lookup_cons, hx] at h ⊢
        exact h
      | false =>
        simp only [List.lookup_cons, hx] at h ⊢
        exact ih h
theorem blkOk_nest {N : List Str} {sc scope : Scope} {env : Env} {own : List (Str × Nat)} (h : blkC N sc scope own = true) : BlkOk N (relabel sc env) scope own := by
  obtain ⟨h1, h2, h3, h4, h5⟩ := blkOk_by h
  exact ⟨h1, h2, h3, fun y hy e => lookup_relabel (h4 y hy e), h5⟩
end DL

/-! DX19: plain data are shown. -/
namespace DL
open PySem L2 PyProof.Rows
theorem ok_app {a b : Str} (ha : PyData.strOk a = true) (hb : PyData.strOk b = true) : PyData.strOk (a ++ b) = true := by
  unfold PyData.strOk at *
  rw [Str.cps_append]
  simp only [Array.all_append, ha, hb, Bool.and_self]
theorem ok_ofString (s : String) : PyData.strOk (Str.ofString s) = true := by
  unfold PyData.strOk
  rw [Str.ofString_eq_toList]
  simp only [Array.all_eq_true, List.getElem_toArray, List.getElem_map, decide_eq_true_eq]
  intro i hi
  have hv := (s.toList[i]'(by simpa using hi)).valid
  generalize s.toList[i]'(by simpa using hi) = c at hv
  rcases hv with h | h
  · have : c.toNat < 0xd800 := h
    show c.toNat < 0x110000
    omega
  · exact h.2
theorem len_ofString (s : String) : (Str.ofString s).length = s.toList.length := by
  rw [Str.ofString_eq_toList]
  simp [Str.length]
theorem nat_text {n k : Nat} (hk : 0 < k) (h : n < 10 ^ k) : (toString n).toList.length ≤ k := by
  show (Nat.repr n).toList.length ≤ k
  rw [Nat.toList_repr]
  exact (Nat.length_toDigits_le_iff (by decide) hk).mpr h
/-- how long an int's text is -/
theorem int_text {i : Int} {k : Nat} (hk : 0 < k) (h : i.natAbs < 10 ^ k) : (PyData.int i).shown.length ≤ k + 1 ∧ PyData.strOk (PyData.int i).shown = true := by
  have e : (PyData.int i).shown = Str.ofString (toString i) := by rw [PyData.shown]
  rw [e]
  refine ⟨?_, ok_ofString _⟩
  rw [len_ofString]
  cases i with
  | ofNat n =>
    have h1 : n < 10 ^ k := by simpa using h
    have h2 : (toString (Int.ofNat n)).toList = (toString n).toList := rfl
    rw [h2]
    have := nat_text hk h1
    omega
  | negSucc n =>
    have h1 : n + 1 < 10 ^ k := by simpa using h
    have h2 : (toString (Int.negSucc n)) = "-" ++ toString (n + 1) := rfl
    rw [h2, String.toList_append, List.length_append]
    have := nat_text hk h1
    have e1 : ("-" : String).toList.length = 1 := rfl
    omega
theorem log2_lt {n k : Nat} (h : n < 2 ^ k) (hk : 0 < k) : n.log2 < k := by
  by_cases h0 : n = 0
  · subst h0
    simpa using hk
  · exact (Nat.log2_lt h0).mpr h
mutual
/-- plain data -/
def pln : D → Bool
  | .non => true
  | .bl _ => true
  | .int i => decide (i.natAbs < 10 ^ 30)
  | .str s => PyData.strOk s && (PyData.strOk (reprText s) && decide ((reprText s).length ≤ 40))
  | .lst ds => plnL ds
  | .tup ds => plnL ds
  | _ => false
def plnL : List D → Bool
  | [] => true
  | d :: ds => pln d && plnL ds
end
mutual
/-- a bound for the text's length -/
def wdD : D → Nat
  | .lst ds => 4 + wdL ds
  | .tup ds => 4 + wdL ds
  | _ => 40
def wdL : List D → Nat
  | [] => 0
  | d :: ds => wdD d + 2 + wdL ds
end
mutual
def dpD : D → Nat
  | .lst ds => dpL ds + 1
  | .tup ds => dpL ds + 1
  | _ => 0
def dpL : List D → Nat
  | [] => 0
  | d :: ds => max (dpD d) (dpL ds)
end
theorem join_len : ∀ ts : List Str, (∀ t ∈ ts, PyData.strOk t = true) → (Str.join ", " ts).length ≤ (ts.map fun t => t.length + 2).sum ∧ PyData.strOk (Str.join ", " ts) = true
  | [], _ => ⟨by decide +kernel, by decide +kernel⟩
  | [x], h => by
    refine ⟨?_, h x (by simp)⟩
    show x.length ≤ _
    simp
  | x :: y :: r, h => by
    obtain ⟨h3, h4⟩ := join_len (y :: r) fun t ht => h t (by simp [List.mem_cons.mp ht])
    have e : Str.join ", " (x :: y :: r) = x ++ ", " ++ Str.join ", " (y :: r) := rfl
    rw [e]
    refine ⟨?_, ok_app (ok_app (h x (by simp)) (by decide +kernel)) h4⟩
    rw [Str.length_append, Str.length_append]
    have : (", " : Str).length = 2 := by decide
    simp only [List.map_cons, List.sum_cons] at h3 ⊢
    omega
theorem textFrom_bound : ∀ (ts : List Str) (k : Nat) (acc : Str), (∀ t ∈ ts, PyData.strOk t = true) → PyData.strOk acc = true → (textFrom k acc ts).length ≤ acc.length + (ts.map fun t => t.length + 2).sum ∧ PyData.strOk (textFrom k acc ts) = true
  | [], k, acc, _, ha => ⟨by show acc.length ≤ _; simp, ha⟩
  | t :: r, k, acc, h, ha => by
    have e : textFrom k acc (t :: r) = textFrom (k + 1) (acc ++ (if k > 0 then ", " else "" : String) ++ t) r := rfl
    have ha' : PyData.strOk (acc ++ (if k > 0 then ", " else "" : String) ++ t) = true := ok_app (ok_app ha (ok_ofString _)) (h t (by simp))
    obtain ⟨h1, h2⟩ := textFrom_bound r (k + 1) _ (fun x hx => h x (by simp [hx])) ha'
    rw [e]
    refine ⟨?_, h2⟩
    have hl : (acc ++ (if k > 0 then ", " else "" : String) ++ t).length ≤ acc.length + 2 + t.length := by
      rw [Str.length_append, Str.length_append]
      have : (Str.ofString (if k > 0 then ", " else "" : String)).length ≤ 2 := by split <;> decide
      omega
    simp only [List.map_cons, List.sum_cons]
    omega
theorem list_len {ts : List Str} (h : ∀ t ∈ ts, PyData.strOk t = true) : (listText ts).length ≤ 2 + (ts.map fun t => t.length + 2).sum ∧ PyData.strOk (listText ts) = true := by
  obtain ⟨h1, h2⟩ := textFrom_bound ts 0 "[" h (by decide +kernel)
  unfold listText
  refine ⟨?_, ok_app h2 (by decide +kernel)⟩
  rw [Str.length_append]
  have a : ("[" : Str).length = 1 := by decide
  have b : ("]" : Str).length = 1 := by decide
  omega
theorem tuple_len {ts : List Str} (h : ∀ t ∈ ts, PyData.strOk t = true) : (tupleText ts).length ≤ 3 + (ts.map fun t => t.length + 2).sum ∧ PyData.strOk (tupleText ts) = true := by
  obtain ⟨h1, h2⟩ := join_len ts h
  unfold tupleText
  refine ⟨?_, ?_⟩
  · rw [Str.length_append, Str.length_append]
    have a : ("(" : Str).length = 1 := by decide
    split
    · have b : (",)" : Str).length = 2 := by decide
      show _ + _ + (",)" : Str).length ≤ _
      omega
    · have b : (")" : Str).length = 1 := by decide
      show _ + _ + (")" : Str).length ≤ _
      omega
  · refine ok_app (ok_app (by decide +kernel) h2) ?_
    split
    · exact (by decide +kernel : PyData.strOk (",)" : Str) = true)
    · exact (by decide +kernel : PyData.strOk (")" : Str) = true)
structure PlnP (d : D) (x : PyData) : Prop where
  pd : toPD d = some x
  sh : x.showable = true
  ly : x.canLay0 = true
  dp : x.depth = dpD d
  ln : x.shown.length ≤ wdD d
  ok : PyData.strOk x.shown = true
structure PlnA (ds : List D) (xs : List PyData) : Prop where
  pd : toPDs ds = some xs
  sh : PyData.showableAll xs = true
  ly : PyData.canLayAll0 xs = true
  dp : PyData.depthAll xs = dpL ds
  ln : ((PyData.shownAll xs).map fun t => t.length + 2).sum ≤ wdL ds
  ok : ∀ t ∈ PyData.shownAll xs, PyData.strOk t = true
mutual
theorem pln_pd : ∀ d : D, pln d = true → ∃ x, PlnP d x
  | .non, _ => ⟨.none, rfl, rfl, rfl, rfl, by show (PyData.none).shown.length ≤ 40; decide +kernel, by decide +kernel⟩
  | .bl b, _ => ⟨.bool b, rfl, rfl, rfl, rfl, by show (PyData.bool b).shown.length ≤ 40; cases b <;> decide +kernel, by cases b <;> decide +kernel⟩
  | .int i, h => by
    have h' : i.natAbs < 10 ^ 30 := by simpa [pln] using h
    obtain ⟨h1, h2⟩ := int_text (by decide) h'
    refine ⟨.int i, rfl, ?_, rfl, rfl, ?_, h2⟩
    · rw [PyData.showable, decide_eq_true_eq]
      exact log2_lt (Nat.lt_of_lt_of_le h' (Nat.le_trans (by decide : 10 ^ 30 ≤ 2 ^ 100) (Nat.pow_le_pow_right (by decide) (by decide)))) (by decide)
    · show _ ≤ 40
      omega
  | .str s, h => by
    simp only [pln, Bool.and_eq_true, decide_eq_true_eq] at h
    have e : (PyData.str s).shown = reprText s := by rw [PyData.shown]
    exact ⟨.str s, rfl, rfl, by rw [PyData.canLay0]; exact h.1, rfl, by rw [e]; exact h.2.2, by rw [e]; exact h.2.1⟩
  | .lst ds, h => by
    obtain ⟨xs, p⟩ := pln_pds ds (by simpa [pln] using h)
    obtain ⟨l1, l2⟩ := list_len p.ok
    have e : (PyData.list xs).shown = listText (PyData.shownAll xs) := by rw [PyData.shown]
    refine ⟨.list xs, by rw [toPD, p.pd]; rfl, by rw [PyData.showable]; exact p.sh, by rw [PyData.canLay0]; exact p.ly, by rw [PyData.depth, p.dp, dpD], ?_, by rw [e]; exact l2⟩
    rw [e, wdD]
    have := p.ln
    omega
  | .tup ds, h => by
    obtain ⟨xs, p⟩ := pln_pds ds (by simpa [pln] using h)
    obtain ⟨l1, l2⟩ := tuple_len p.ok
    have e : (PyData.tuple xs).shown = tupleText (PyData.shownAll xs) := by rw [PyData.shown]
    refine ⟨.tuple xs, by rw [toPD, p.pd]; rfl, by rw [PyData.showable]; exact p.sh, by rw [PyData.canLay0]; exact p.ly, by rw [PyData.depth, p.dp, dpD], ?_, by rw [e]; exact l2⟩
    rw [e, wdD]
    have := p.ln
    omega
  | .loc _, h => by simp [pln] at h
  | .obj _ _, h => by simp [pln] at h
  | .cls _, h => by simp [pln] at h
  | .dct _ _, h => by simp [pln] at h
  | .fdc _ _, h => by simp [pln] at h
  | .err _ _, h => by simp [pln] at h
theorem pln_pds : ∀ ds : List D, plnL ds = true → ∃ xs, PlnA ds xs
  | [], _ => ⟨[], rfl, rfl, rfl, rfl, Nat.le_refl _, fun t h => by cases h⟩
  | d :: ds, h => by
    simp only [plnL, Bool.and_eq_true] at h
    obtain ⟨x, p⟩ := pln_pd d h.1
    obtain ⟨xs, q⟩ := pln_pds ds h.2
    refine ⟨x :: xs, by rw [toPDs, p.pd, q.pd], by rw [PyData.showableAll, p.sh, q.sh]; rfl, by rw [PyData.canLayAll0, p.ly, q.ly]; rfl, by rw [PyData.depthAll, p.dp, q.dp, dpL], ?_, fun t ht => ?_⟩
    · rw [PyData.shownAll, List.map_cons, List.sum_cons, wdL]
      have := p.ln
      have := q.ln
      omega
    · rw [PyData.shownAll] at ht
      rcases List.mem_cons.mp ht with rfl | ht
      · exact p.ok
      · exact q.ok t ht
end
theorem plnP_top {d : D} {x : PyData} (p : PlnP d x) (h : pln d = true) (m : Store) : topPD d m = some x := by
  cases d with
  | loc n => simp [pln] at h
  | _ => exact p.pd
theorem plnP_shp {d : D} {x : PyData} (p : PlnP d x) (h : dpD d ≤ 60) : SeqAt.shaped x = true := by
  unfold SeqAt.shaped
  rw [p.ly, p.dp]
  simp only [Bool.true_and, decide_eq_true_eq]
  omega
/-- plain data that are not too large -/
def Pln (d : D) : Prop := pln d = true ∧ wdD d ≤ 100000 ∧ dpD d ≤ 60
theorem Pln.shows {d : D} (h : Pln d) : ∃ x, Shows d x := by
  obtain ⟨h1, h2, h3⟩ := h
  obtain ⟨x, p⟩ := pln_pd d h1
  refine ⟨x.shown, fun m => ?_, p.ok⟩
  have hn : dctPD d = none := by
    cases d with
    | dct _ _ => simp [pln] at h1
    | _ => rfl
  have e : rprD [d] = reprD [d] := by
    show (match dctPD d with | some x => _ | none => reprD [d]) = _
    rw [hn]
  rw [e]
  have t : rTop d m = some x := by
    unfold rTop
    rw [plnP_top p h1 m]
    have hl : x.shown.length ≤ 100000 := Nat.le_trans p.ln h2
    simp only [p.sh, plnP_shp p h3, hl, decide_true, Bool.and_self, if_true]
  show (match rTop d m with | some x => (Res.ok (D.str x.shown) m : Res D) | none => .bad) = _
  rw [t]
theorem Pln.ne {d : D} (h : Pln d) (m : Store) : neD d d m = .ok (.bl false) m := by
  obtain ⟨x, p⟩ := pln_pd d h.1
  exact ne_self m (plnP_top p h.1 m) (plnP_shp p h.2.2)
theorem Pln.eq {d : D} (h : Pln d) (m : Store) : eqD d d m = .ok (.bl true) m := by
  obtain ⟨x, p⟩ := pln_pd d h.1
  exact eq_self m (plnP_top p h.1 m) (plnP_shp p h.2.2)
theorem plnL_app : ∀ (a b : List D), plnL (a ++ b) = (plnL a && plnL b)
  | [], b => by simp [plnL]
  | d :: a, b => by simp [plnL, plnL_app a b, Bool.and_assoc]
theorem wdL_app : ∀ (a b : List D), wdL (a ++ b) = wdL a + wdL b
  | [], b => by simp [wdL]
  | d :: a, b => by simp [wdL, wdL_app a b]; omega
theorem dpL_app : ∀ (a b : List D), dpL (a ++ b) = max (dpL a) (dpL b)
  | [], b => by simp [dpL]
  | d :: a, b => by simp [dpL, dpL_app a b, Nat.max_assoc]
theorem plnL_all {ds : List D} (h : ∀ d ∈ ds, pln d = true) : plnL ds = true := by
  induction ds with
  | nil => rfl
  | cons d ds ih => simp [plnL, h d (by simp), ih fun x hx => h x (by simp [hx])]
theorem wdL_le {ds : List D} {c : Nat} (h : ∀ d ∈ ds, wdD d ≤ c) : wdL ds ≤ ds.length * (c + 2) := by
  induction ds with
  | nil => simp [wdL]
  | cons d ds ih =>
    have h1 := h d (by simp)
    have h2 := ih fun x hx => h x (by simp [hx])
    simp only [wdL, List.length_cons, Nat.add_mul, Nat.one_mul]
    omega
theorem dpL_le {ds : List D} {c : Nat} (h : ∀ d ∈ ds, dpD d ≤ c) : dpL ds ≤ c := by
  induction ds with
  | nil => simp [dpL]
  | cons d ds ih =>
    have h1 := h d (by simp)
    have h2 := ih fun x hx => h x (by simp [hx])
    simp only [dpL]
    omega
/-- lists and tuples of plain data -/
theorem pln_seq {ds : List D} {c e : Nat} (h : ∀ d ∈ ds, pln d = true ∧ wdD d ≤ c ∧ dpD d ≤ e) (hl : ds.length * (c + 2) ≤ 90000) (he : e ≤ 50) : Pln (.lst ds) ∧ Pln (.tup ds) := by
  have a := plnL_all fun d hd => (h d hd).1
  have b := wdL_le fun d hd => (h d hd).2.1
  have d := dpL_le fun d hd => (h d hd).2.2
  refine ⟨⟨by simpa [pln] using a, by simp only [wdD]; omega, by simp only [dpD]; omega⟩, ⟨by simpa [pln] using a, by simp only [wdD]; omega, by simp only [dpD]; omega⟩⟩
end DL

/-! DX20: reading denotations that draw from a source. -/
namespace DL
open PySem L2 PyProof.Rows
def SrcAt (m : Store) (n : Nat) : Prop := ∃ a s : Int, m[n]? = some (some (.lst [.int a, .int s]))
/-- only the source at n has changed -/
def Chg (n : Nat) (m m' : Store) : Prop := ∃ a s : Int, m' = m.set n (some (.lst [.int a, .int s]))
section
variable {n : Nat} {m m1 m2 : Store}
theorem Chg.refl (h : SrcAt m n) : Chg n m m := by
  obtain ⟨a, s, h⟩ := h
  refine ⟨a, s, ?_⟩
  apply List.ext_getElem?
  intro i
  by_cases e : n = i
  · subst e
    rw [List.getElem?_set_self (List.getElem?_eq_some_iff.mp h).1, h]
  · rw [List.getElem?_set_ne e]
theorem Chg.trans (h : Chg n m m1) (h' : Chg n m1 m2) : Chg n m m2 := by
  obtain ⟨a, s, rfl⟩ := h
  obtain ⟨a', s', rfl⟩ := h'
  exact ⟨a', s', by rw [List.set_set]⟩
theorem Chg.len (h : Chg n m m1) : m1.length = m.length := by
  obtain ⟨a, s, rfl⟩ := h
  simp
theorem Chg.src (h : Chg n m m1) (q : SrcAt m n) : SrcAt m1 n := by
  obtain ⟨a, s, rfl⟩ := h
  obtain ⟨a', s', q⟩ := q
  exact ⟨a, s, by rw [List.getElem?_set_self (List.getElem?_eq_some_iff.mp q).1]⟩
theorem Chg.get (h : Chg n m m1) {i : Nat} (hi : i ≠ n) : m1[i]? = m[i]? := by
  obtain ⟨a, s, rfl⟩ := h
  rw [List.getElem?_set_ne (Ne.symm hi)]
theorem Chg.app (h : Chg n m m1) (q : SrcAt m n) (j : Store) : Chg n (m ++ j) (m1 ++ j) := by
  obtain ⟨a, s, rfl⟩ := h
  obtain ⟨_, _, q⟩ := q
  exact ⟨a, s, by rw [List.set_append_left _ _ (List.getElem?_eq_some_iff.mp q).1]⟩
theorem src_lt (q : SrcAt m n) : n < m.length := by
  obtain ⟨_, _, q⟩ := q
  exact (List.getElem?_eq_some_iff.mp q).1
theorem src_app (q : SrcAt m n) (j : Store) : SrcAt (m ++ j) n := by
  have := src_lt q
  obtain ⟨a, s, q⟩ := q
  exact ⟨a, s, by rw [List.getElem?_append_left this]; exact q⟩
theorem Chg.trim (h : Chg n m m1) : trimOk m m1 = true := by
  obtain ⟨a, s, rfl⟩ := h
  unfold trimOk
  simp only [List.length_set, Nat.le_refl, decide_true, Bool.true_and, List.all_eq_true]
  intro p hp
  obtain ⟨i, hi⟩ := List.mem_iff_getElem?.mp hp
  rw [List.getElem?_zip_eq_some] at hi
  obtain ⟨h1, h2⟩ := hi
  rw [show (m.set n (some (.lst [.int a, .int s]))).take m.length = m.set n (some (.lst [.int a, .int s])) from List.take_of_length_le (by simp)] at h1
  by_cases hn : n = i
  · subst hn
    have hl := (List.getElem?_eq_some_iff.mp h2).1
    rw [List.getElem?_set_self hl] at h1
    have e : p.1 = some (.lst [.int a, .int s]) := (Option.some.inj h1).symm
    unfold cellKept
    rw [e]
    simp [Cell.und, D.undL, D.und]
  · rw [List.getElem?_set_ne hn] at h1
    have e : p.1 = p.2 := Option.some.inj (h1.symm.trans h2)
    simp [cellKept, e]
/-- what was appended is undone: the source's own change is left -/
theorem Chg.split {j m' : Store} (h : Chg n (m ++ j) m') (q : n < m.length) : ∃ m1, m' = m1 ++ j ∧ Chg n m m1 := by
  obtain ⟨a, s, rfl⟩ := h
  exact ⟨_, by rw [List.set_append_left _ _ q], a, s, rfl⟩
/-- a def whose own cells are forgotten, and which draws -/
theorem fn_chg {k : Nat} {b : DEnv → M Out} {ds : List D} {junk : Store} {d : D} (h : b (startD k ds) m = .ok (.rt d) (m1 ++ junk)) (c : Chg n m m1) (hd : d.und m.length = true) : fnD k b ds m = .ok d m1 := fn_trim h c.len c.trim hd
theorem fn_chg0 {k : Nat} {b : DEnv → M Out} {ds : List D} {d : D} (h : b (startD k ds) m = .ok (.rt d) m1) (c : Chg n m m1) : fnD k b ds m = .ok d m1 := fn_any h c.len
end
inductive All2 {α β : Type} (P : α → β → Prop) : List α → List β → Prop
  | nil : All2 P [] []
  | cons {a : α} {b : β} {as : List α} {bs : List β} : P a b → All2 P as bs → All2 P (a :: as) (b :: bs)
theorem All2.len {α β : Type} {P : α → β → Prop} {as : List α} {bs : List β} (h : All2 P as bs) : bs.length = as.length := by
  induction h with
  | nil => rfl
  | cons _ _ ih => simp [ih]
theorem All2.mem {α β : Type} {P : α → β → Prop} {as : List α} {bs : List β} (h : All2 P as bs) {b : β} (hb : b ∈ bs) : ∃ a ∈ as, P a b := by
  induction h with
  | nil => cases hb
  | cons p _ ih =>
    rcases List.mem_cons.mp hb with rfl | hb
    · exact ⟨_, by simp, p⟩
    · obtain ⟨a, ha, q⟩ := ih hb
      exact ⟨a, by simp [ha], q⟩
theorem All2.ints {α : Type} {P : α → Int → Prop} {as : List α} {bs : List D} (h : All2 (fun a d => ∃ i, d = D.int i ∧ P a i) as bs) : ∃ is, bs = ils is ∧ All2 P as is := by
  induction h with
  | nil => exact ⟨[], rfl, .nil⟩
  | cons p _ ih =>
    obtain ⟨i, rfl, p⟩ := p
    obtain ⟨is, rfl, q⟩ := ih
    exact ⟨i :: is, rfl, .cons p q⟩
theorem All2.sk {α β γ : Type} {P : α → γ → Prop} {f : γ → β} {as : List α} {bs : List β} (h : All2 (fun a d => ∃ i, d = f i ∧ P a i) as bs) : ∃ is, bs = is.map f ∧ All2 P as is := by
  induction h with
  | nil => exact ⟨[], rfl, .nil⟩
  | cons p _ ih =>
    obtain ⟨i, rfl, p⟩ := p
    obtain ⟨is, rfl, q⟩ := ih
    exact ⟨i :: is, rfl, .cons p q⟩
theorem compL_chg {n : Nat} {src : List D} {g : D → DEnv → M DEnv} {elt : DEnv → M D} {e : DEnv} {P : D → D → Prop} : ∀ (ds : List D), (∀ d ∈ ds, ∀ m, SrcAt m n → ∃ e1 r m', g d e m = .ok e1 m ∧ elt e1 m = .ok r m' ∧ Chg n m m' ∧ P d r) →
    ∀ m, SrcAt m n → ∃ rs m', compL ⟨src, []⟩ g tYesD elt e ds m = .ok rs m' ∧ Chg n m m' ∧ All2 P ds rs
  | [], _, m, q => ⟨[], m, by simp [compL], Chg.refl q, .nil⟩
  | d :: ds, h, m, q => by
    obtain ⟨e1, r, m1, h1, h2, c1, p⟩ := h d (by simp) m q
    obtain ⟨rs, m2, h3, c2, p2⟩ := compL_chg (src := src) ds (fun x hx => h x (by simp [hx])) m1 (c1.src q)
    exact ⟨r :: rs, m2, by simp [compL, noX, h1, h2, h3], c1.trans c2, .cons p p2⟩
/-- a comprehension whose items draw -/
theorem eComp_chg {n : Nat} {it : DEnv → M Src} {g : D → DEnv → M DEnv} {elt : DEnv → M D} {vs : List Nat} {e : DEnv} {m m0 : Store} {ds : List D} {P : D → D → Prop} (hi : it e m = .ok ⟨ds, []⟩ m0) (c0 : Chg n m m0) (q : SrcAt m n) (hl : ds.length ≤ 100000)
    (h : ∀ d ∈ ds, ∀ m, SrcAt m n → ∃ e1 r m', g d (wipeD e vs) m = .ok e1 m ∧ elt e1 m = .ok r m' ∧ Chg n m m' ∧ P d r) : ∃ rs m', eComp it g tYesD elt vs e m = .ok (.lst rs) m' ∧ Chg n m m' ∧ All2 P ds rs := by
  obtain ⟨rs, m2, h3, c2, p2⟩ := compL_chg (src := ds) ds h m0 (c0.src q)
  exact ⟨rs, m2, by simp [eComp, compM, hi, sizeOk, hl, h3], c0.trans c2, p2⟩
/-- a loop that draws, over an invariant of the turn and the environment -/
theorem forL_chg {src : List D} {g : D → DEnv → M DEnv} {b : DEnv → M Out} (I : Nat → DEnv → Store → Prop) (ds : List D) (e : DEnv) (m : Store)
    (h0 : I 0 e m) (st : ∀ j d e m, ds[j]? = some d → I j e m → ∃ e1 m1 e2 m2, g d e m = .ok e1 m1 ∧ (b e1 m1 = .ok (.nx e2) m2 ∨ b e1 m1 = .ok (.ct e2) m2) ∧ I (j + 1) e2 m2) :
    ∃ e' m', forL ⟨src, []⟩ g b ds e m = .ok (.nx e') m' ∧ I ds.length e' m' := by
  have := forL_inv (src := src) (g := g) (b := b) I ds 0 e m h0 (fun j d e m hj hi => by
    have := st j d e m hj (by simpa using hi)
    simpa using this)
  simpa using this
theorem rng_get {k j : Nat} {d : D} (h : (rngI 0 k)[j]? = some d) : j < k ∧ d = .int j := by
  have hl : j < k := by
    have := (List.getElem?_eq_some_iff.mp h).1
    simpa [rngI] using this
  refine ⟨hl, ?_⟩
  rw [rngI_eq] at h
  simp [hl] at h
  exact h.symm
theorem rng_mem {k : Nat} {d : D} (h : d ∈ rngI 0 k) : ∃ j : Nat, j < k ∧ d = .int j := by
  obtain ⟨j, hj⟩ := List.mem_iff_getElem?.mp h
  exact ⟨j, rng_get hj⟩
@[simp] theorem rng_len (k : Nat) (a : Int) : (rngI a k).length = k := by simp [rngI]
theorem eApp_of {o v : DEnv → M D} {e : DEnv} {m m1 m2 m3 : Store} {x y r : D} (h1 : o e m = .ok x m1) (h2 : isLocL x m1 = .ok () m1) (h3 : v e m1 = .ok y m2) (h4 : growD x [y] m2 = .ok r m3) : eApp o v e m = .ok r m3 := by
  unfold eApp
  simp only [bind_ap, h1, thn_ok, h2, h3, h4]
theorem told_ok {hs : List (Nat × Str)} {done tag x : Str} {e : DEnv} {m : Store} {c t s : Nat} {d : D} {a1 a2 : DEnv → DL.M D} (hts : t ≠ s) (hc : hs.lookup c = some tag) (ht : PyData.strOk tag = true) (hx : Shows d x) (hl : t < e.length) (h3 : e[s]? = some (some d)) (k1 : ∀ m, ∃ j, a1 e m = .exn c [d] (m ++ j)) (k2 : ∀ l m, ∃ j, a2 (e.set t (some (.loc l))) m = .exn c [d] (m ++ j)) :
    sSeq (sSet t (eLstM (aCons (eSaid hs done a1) aNil))) (sSeq (sExpr (eApp (eVar t) (eSaid hs done a2))) (sIf (tB' (eOp neD (eVar t) (eRep (aCons (eLst (aCons (eC (.str tag)) (aCons (eCallB rprD (aCons (eVar s) aNil)) aNil))) aNil) (eC (.int 2))))) (sRet (eC (.bl false))) sNil)) e m =
      .ok (.nx (e.set t (some (.loc m.length)))) (m ++ [some (.lst [.lst [.str tag, .str x], .lst [.str tag, .str x]])]) := by
  obtain ⟨j1, q1⟩ := k1 m
  have s1 := said_exn (hs := hs) (done := done) q1 hc hx
  obtain ⟨j2, q2⟩ := k2 m.length (m ++ [some (.lst [.lst [.str tag, .str x]])])
  have s2 := said_exn (hs := hs) (done := done) q2 hc hx
  have v6 : (e.set t (some (D.loc m.length)))[t]? = some (some (.loc m.length)) := by simp [hl]
  have v3 : (e.set t (some (D.loc m.length)))[s]? = some (some d) := by rw [List.getElem?_set_ne hts]; exact h3
  have r := hx.1 (m ++ [some (.lst [.lst [.str tag, .str x], .lst [.str tag, .str x]])])
  have nn : neD (.loc m.length) (.lst [.lst [.str tag, .str x], .lst [.str tag, .str x]]) (m ++ [some (.lst [.lst [.str tag, .str x], .lst [.str tag, .str x]])]) = .ok (.bl false) (m ++ [some (.lst [.lst [.str tag, .str x], .lst [.str tag, .str x]])]) := by
    have h2 := hx.2
    simp [neD, onPD, topPD, toPD, toPDs, SeqAt.shaped, PyData.canLay0, PyData.canLayAll0, PyData.depth, PyData.depthAll, PyData.eqv, PyData.eqvAll, ht, h2]
  have g : eApp (eVar t) (eSaid hs done a2) (e.set t (some (.loc m.length))) (m ++ [some (.lst [.lst [.str tag, .str x]])]) = .ok .non (m ++ [some (.lst [.lst [.str tag, .str x], .lst [.str tag, .str x]])]) := by
    simp [eApp, v6, isLocL, s2, growD]
  rw [sSeq_ap]
  have f1 : sSet t (eLstM (aCons (eSaid hs done a1) aNil)) e m = .ok (.nx (e.set t (some (.loc m.length)))) (m ++ [some (.lst [.lst [.str tag, .str x]])]) := by
    simp [s1, newM]
  rw [f1]
  simp only [thn_ok, andThen_nx]
  rw [sSeq_ap, sExpr_ap, g]
  simp [v6, v3, r, nn, eRep, szL, repW, mkLst, List.replicate]
theorem setIx_of {o i v : DEnv → M D} {e : DEnv} {m m1 m2 m3 m4 : Store} {x y z : D} (h1 : v e m = .ok x m1) (h2 : o e m1 = .ok y m2) (h3 : i e m2 = .ok z m3) (h4 : setIx y z x m3 = .ok () m4) : sSetIx o i v e m = .ok (.nx e) m4 := by
  unfold sSetIx
  simp only [bind_ap, h1, thn_ok, h2, h3, h4, pure_ap]
theorem said_ok {hs : List (Nat × Str)} {done : Str} {a : DEnv → M D} {e : DEnv} {m : Store} {d : D} (h : a e m = .ok d m) : eSaid hs done a e m = .ok (.lst [.str done]) m := by
  simp [eSaid, scopeM, said0, h, trim_same, D.und, D.undL]
theorem sq_of {s t : DEnv → M Out} {e e1 : DEnv} {m m1 : Store} {r : Res Out} (h : s e m = .ok (.nx e1) m1) (h' : t e1 m1 = r) : sSeq s t e m = r := by
  rw [sSeq_ap, h, thn_ok, andThen_nx]
  exact h'
theorem fr_of {it : DEnv → M Src} {g : D → DEnv → M DEnv} {b : DEnv → M Out} {e : DEnv} {m m1 : Store} {ds : List D} {r : Res Out} (h : it e m = .ok ⟨ds, []⟩ m1) (h' : forL ⟨ds, []⟩ g b ds e m1 = r) : sFor it g b e m = r := by
  rw [sFor_ap, h, thn_ok]
  exact h'
theorem pln_ils {p : List Int} (hl : p.length ≤ 100) (h : ∀ x ∈ p, -1000000 ≤ x ∧ x ≤ 1000000) : (pln (.tup (ils p)) = true ∧ wdD (.tup (ils p)) ≤ 4 + 42 * p.length ∧ dpD (.tup (ils p)) ≤ 1) ∧ (pln (.lst (ils p)) = true ∧ wdD (.lst (ils p)) ≤ 4 + 42 * p.length ∧ dpD (.lst (ils p)) ≤ 1) := by
  have a : plnL (ils p) = true := plnL_all fun d hd => by
    simp only [ils, List.mem_map] at hd
    obtain ⟨x, hx, rfl⟩ := hd
    have := h x hx
    simp only [pln, decide_eq_true_eq]
    omega
  have b : wdL (ils p) ≤ (ils p).length * (40 + 2) := wdL_le fun d hd => by
    simp only [ils, List.mem_map] at hd
    obtain ⟨x, hx, rfl⟩ := hd
    simp [wdD]
  have c : dpL (ils p) ≤ 0 := dpL_le fun d hd => by
    simp only [ils, List.mem_map] at hd
    obtain ⟨x, hx, rfl⟩ := hd
    simp [dpD]
  rw [ils_length] at b
  refine ⟨⟨by simpa [pln] using a, by simp only [wdD]; omega, by simp only [dpD]; omega⟩, ⟨by simpa [pln] using a, by simp only [wdD]; omega, by simp only [dpD]; omega⟩⟩
@[simp] theorem add_tup (i j : List D) (m : Store) : addD (.tup i) (.tup j) m = mkT (i ++ j) m := (rfl)
@[simp] theorem add_lst (i j : List D) (m : Store) : addD (.lst i) (.lst j) m = mkL (i ++ j) m := (rfl)
end DL

/-! DX21: an own error class called with keywords. -/
namespace DL
open PySem L2 PySem.HandSPX
section
variable {prog : Program} {w : World} {M : Model} {A : Around} {E : Value → Shared → Prop} {R : Result → Shared → Prop} {h : Heap} {g : Array GenState} {d : Drawn} {t : Nat} {os : OsState}
variable {nm q : Str} {C N : Addr} {bs bm bmB : List Value} {hdct : Bool} {sn : List Str} {sub : List Value} {ab : Bool} {col : Option Bool} {dd : Option Addr} {k0 k1 k2 k3 k5 : Option Value} {B newId initId : String}
/-- an own error class, as it lies -/
abbrev EC (h : Heap) (nm q : Str) (C N : Addr) (bs bm : List Value) (hdct : Bool) (sn : List Str) (sub : List Value) (ab : Bool) (col : Option Bool) (dd : Option Addr) (k0 k1 k2 k3 k5 : Option Value) (newId : String) : Prop := h.get? C = some (excClassObj nm q C N bs bm hdct sn sub ab col dd k0 k1 k2 k3 k5 newId)
theorem chk_newK (F : ExcBaseFacts B newId initId bmB) (hT : ∀ X : String, bm.contains (.type X) = bmB.contains (.type X)) {rest : List Value} {kw : List (Str × Value)} {Q : Unit → Shared → Prop}
    (hC : EC h nm q C N bs bm hdct sn sub ab col dd k0 k1 k2 k3 k5 newId) (hq : Q () ⟨h, g, d, t, os⟩) : wpAny M A (checkBuiltinCall newId ⟨.ref C :: rest, kw⟩) Q E ⟨h, g, d, t, os⟩ := by
  have c1 : (Value.ref C :: bm).contains (.type B) = true := by rw [List.contains_cons, hT, F.hasB, Bool.or_true]
  have c2 := F.noStar
  simp only [checkBuiltinCall, F.newKind, F.newSplit, F.newRow]
  repeat (first
    | refine wpAny_loadPart_at hC ?_
    | (refine wpAny_isSubtype_exc hC ?_; rw [c1])
    | refine wpAny_staticBase_exc hC ?_
    | refine wpAny_madeBy_exc hC ?_
    | simp only [bne_self_eq_false, Bool.false_eq_true, if_false]
    | wp_step)
  exact hq
theorem newK (F : ExcBaseFacts B newId initId bmB) (hT : ∀ X : String, bm.contains (.type X) = bmB.contains (.type X)) {rest : List Value} {kw : List (Str × Value)}
    (hC : EC h nm q C N bs bm hdct sn sub ab col dd k0 k1 k2 k3 k5 newId) (hz : rest.length ≤ sizeLine)
    (hq : R (.ok (.ret (.ref (h.objs.size + 1)))) ⟨(h.push (PySem.W.kdv_tup rest)).push (excO C h.objs.size), g, d, t, os⟩) :
    codeAny (model prog w) A (.builtin newId ⟨.ref C :: rest, kw⟩) R ⟨h, g, d, t, os⟩ := by
  have e0 := F.ends
  have c1 : (Value.ref C :: bm).contains (.type B) = true := by rw [List.contains_cons, hT, F.hasB, Bool.or_true]
  have c2 : (Value.ref C :: bm).contains (.type "AttributeError") = false := by rw [List.contains_cons, hT, F.noAttr]; rfl
  have c3 : (Value.ref C :: bm).contains (.type "NameError") = false := by rw [List.contains_cons, hT, F.noName]; rfl
  refine codeAny_builtinAt F.entry ?_
  unfold Builtin.«BaseException.__new__»
  refine wpAt_bind ?_
  show wpAt _ _ _ (stack >>= _) _ _ _
  refine wpAt_bind (wpAt_stack fun p below => wpAt_of_wpAny ?_)
  wp_walk
  refine wpAt_of_wpAny ?_
  rw [F.owner]
  repeat (first
    | with_reducible refine wpAny_madeHere_exc F.canon hC ?_
    | with_reducible refine wpAny_loadPart_at hC ?_
    | (with_reducible refine wpAny_isSubtype_exc hC ?_
       first | rw [c1] | rw [c2] | rw [c3])
    | wp_step)
  show R _ _
  rw [Heap.size_push]
  exact hq
theorem typK (F : ExcBaseFacts B newId initId bmB) (hT : ∀ X : String, bm.contains (.type X) = bmB.contains (.type X)) {rest : List Value} {kw : List (Str × Value)} {fI : Addr} {Q : PySem.Fin → Shared → Prop}
    (hC : EC h nm q C N bs bm hdct sn sub ab col dd k0 k1 k2 k3 k5 newId)
    (hi : PySem.W.Looks (model prog w) h (typeLookup (.ref C) "__init__") (some (.ref fI))) (hb : ∀ self, PySem.W.Looks (model prog w) h (bindSpecial (.ref fI) self) (.ref fI, [self])) (hz : rest.length ≤ sizeLine)
    (hq : codeAny (model prog w) A (.call (.ref fI) ⟨.ref (h.objs.size + 1) :: rest, kw⟩)
      (fun r s' => match r with | .ok (.ret v) => v = .none ∧ Q (.done (.ret (.ref (h.objs.size + 1)))) s' | .ok _ => False | .error e => E e s')
      ⟨(h.push (PySem.W.kdv_tup rest)).push (excO C h.objs.size), g, d, t, os⟩) :
    wpAny (model prog w) A (Builtin.«type.__call__» ⟨.ref C :: rest, kw⟩) Q E ⟨h, g, d, t, os⟩ := by
  repeat (first
    | with_reducible refine wpAny_loadPart_at hC ?_
    | with_reducible refine wpAny_madeBy_exc hC ?_
    | wp_step)
  refine codeAny_call_builtin_code (Code.quiet_builtin _ F.quiet) (chk_newK F hT hC ?_)
  refine newK F hT hC hz ?_
  show wpAny _ _ _ _ _ _
  have up : ∀ b o, h.get? b = some o → ((h.push (PySem.W.kdv_tup rest)).push (excO C h.objs.size)).get? b = some o := fun b o e => Heap.get?_push_of_some _ (Heap.get?_push_of_some _ e)
  have hC1 := up _ _ hC
  have at1 : ((h.push (PySem.W.kdv_tup rest)).push (excO C h.objs.size)).get? (h.objs.size + 1) = some (excO C h.objs.size) := by heap_get
  have own : (Value.ref C :: bm).contains (.ref C) = true := by simp
  have i1 := hi.keeps up
  have b1 := (hb (.ref (h.objs.size + 1))).keeps up
  unfold isInstance
  repeat (first
    | with_reducible refine wpAny_loadPart_at at1 ?_
    | (with_reducible refine wpAny_isSubtype_exc hC1 ?_; rw [own])
    | wp_step)
  show wpAny _ _ (typeLookup (.ref C) _) _ _ _
  refine i1.at ?_
  refine wpAny_holding (wpAny_bind (b1.at ?_))
  refine wpAny_bind (wpAny_call (codeAny_mono hq fun r s' z => ?_))
  rcases r with e | (v | _ | _ | _)
  · exact z
  · exact z.elim
  · exact z.elim
  · exact z.elim
  · obtain ⟨rfl, z⟩ := z
    first
      | exact wpAny_pure (wpAny_pure z)
      | (wp_walk; exact z)
theorem chk_tcK {rest : List Value} {kw : List (Str × Value)} {Q : Unit → Shared → Prop} (hC : EC h nm q C N bs bm hdct sn sub ab col dd k0 k1 k2 k3 k5 newId) (hq : Q () ⟨h, g, d, t, os⟩) :
    wpAny M A (checkBuiltinCall "type.__call__" ⟨.ref C :: rest, kw⟩) Q E ⟨h, g, d, t, os⟩ := by
  have f3 := tc_sub
  have ty : (⟨h, g, d, t, os⟩ : Shared).TypeIs (.ref C) "type" := ⟨_, hC, rfl⟩
  simp only [checkBuiltinCall, tc_kind, tc_split]
  repeat (any_goals (first
    | assumption
    | with_reducible refine wpAny_loadPart_at hC ?_
    | with_reducible refine wpAny_onRaise ?_
    | with_reducible refine wpAny_map ?_
    | wp_step))
theorem callK (F : ExcBaseFacts B newId initId bmB) (hT : ∀ X : String, bm.contains (.type X) = bmB.contains (.type X)) {rest : List Value} {kw : List (Str × Value)} {fI : Addr}
    (hC : EC h nm q C N bs bm hdct sn sub ab col dd k0 k1 k2 k3 k5 newId)
    (hi : PySem.W.Looks (model prog w) h (typeLookup (.ref C) "__init__") (some (.ref fI))) (hb : ∀ self, PySem.W.Looks (model prog w) h (bindSpecial (.ref fI) self) (.ref fI, [self])) (hz : rest.length ≤ sizeLine)
    (hq : codeAny (model prog w) (A.under (.builtin "type.__call__" ⟨.ref C :: rest, kw⟩)) (.call (.ref fI) ⟨.ref (h.objs.size + 1) :: rest, kw⟩) (PySem.W.InitBack (h.objs.size + 1) R)
      ⟨(h.push (PySem.W.kdv_tup rest)).push (excO C h.objs.size), g, d, t, os⟩) :
    codeAny (model prog w) A (.call (.ref C) ⟨rest, kw⟩) R ⟨h, g, d, t, os⟩ := by
  have f1 := tc_lookup
  have f2 := tc_bind (.ref C)
  have ty : (⟨h, g, d, t, os⟩ : Shared).TypeIs (.ref C) "type" := ⟨_, hC, rfl⟩
  refine codeAny_of_tree ?_
  show wpAny _ _ (callAny (.ref C) _) _ _ _
  repeat (any_goals (first
    | assumption
    | with_reducible refine wpAny_loadPart_at hC ?_
    | wp_step))
  refine ⟨rfl, ?_⟩
  refine codeAny_call_builtin_at (Code.quiet_builtin _ (by decide +kernel)) entry_typeCall (chk_tcK hC (typK F hT hC hi hb hz ?_))
  refine codeAny_mono hq fun r s' z => ?_
  rcases r with e | (v | _ | _ | _)
  all_goals exact z
end
end DL

/-! DX22: own errors over any base, as values: made by place and by name. -/
namespace DL
open PySem L2 PyProof.Rows
open PySem.W (ksFn ksEnv ks_superIn excInitIn excOver kxs_mw)

section
variable {prog : Program} {w : World} {A : Around} {E : Value → Shared → Prop} {h : Heap} {g : Array GenState} {d : Drawn} {t : Nat} {os : OsState}
variable {nm q : Str} {C N : Addr} {bs bm bmB : List Value} {hdct : Bool} {sn : List Str} {sub : List Value} {ab : Bool} {col : Option Bool} {dd : Option Addr} {k0 k1 k2 k3 k5 : Option Value} {B newId initId : String}
/-- the bound __init__ of the base, called -/
theorem mw_call (F : ExcBaseFacts B newId initId bmB) {u e t0 : Addr} {rest : List Value} {Q : Value → Shared → Prop}
    (hC : EC h nm q C N bs bm hdct sn sub ab col dd k0 k1 k2 k3 k5 newId) (he : h.get? e = some (HandSPX.excO C t0)) (hu : h.get? u = some (kxs_mw initId e)) (hz : rest.length ≤ sizeLine)
    (hq : ∀ h' t1, (∀ b o, b ≠ e → h.get? b = some o → h'.get? b = some o) → h'.get? e = some (HandSPX.excO C t1) → Q .none ⟨h', g, d, t, os⟩) :
    wpAny (model prog w) A (call (.ref u) rest) Q E ⟨h, g, d, t, os⟩ := by
  have mw : (Value.type "method-wrapper" == Value.type "method" || Value.type "method-wrapper" == Value.type "builtin_function_or_method" || Value.type "method-wrapper" == Value.type "method-wrapper") = true := by decide
  refine wpAny_call (codeAny_of_tree ?_)
  show wpAny _ _ (callAny (.ref u) ⟨rest, []⟩) _ _ _
  simp only [callAny]
  refine wpAny_bind (wpAny_load hu ?_)
  simp only [kxs_mw, mw, if_true]
  refine PySem.W.KFB.if_so (by decide) ?_
  refine wpAny_bind (PySem.W.check_bound_init F.toExcCallFacts hC he rfl ?_)
  refine wpAny_bind (wpAny_pure (wpAny_pure ?_))
  refine ⟨plainId_quiet F.init.plain _, codeAny_builtin F.initEntry ?_⟩
  exact PySem.W.exc_init_tree (cls := .ref C) (t0 := t0) (dv := none) (c2 := .none) (c3 := .none) (b4 := .bool false) he hz fun h' k1 k2 _ => hq h' _ k1 k2
theorem mw_with {M : Model} {s : Shared} {i : String} {pos : Pos} {u x : Addr} {env : Env} {e : Expr} {rest : List Expr} {Q : Value → Shared → Prop}
    (h : wpAny M A (spliced (backTo pos (starEach (e :: rest) env))) (fun vs s1 => PySem.W.KxsAt i u x s1.heap ∧ wpAny M A (call (.ref u) vs) Q E s1) E s)
    (he : starEach (e :: rest) env = (false, eval e env) :: starEach rest env) (hp : (backTo pos (starEach rest env)).any (·.1) = false) :
    wpAny M A (callWith pos (.ref u) [] (backTo pos (starEach (e :: rest) env)) []) Q E s := by
  rw [he] at h ⊢
  exact PySem.W.kxs_callWith (i := i) (x := x) (by show (false || (backTo pos (starEach rest env)).any (·.1)) = false; rw [hp]; rfl) (PySem.Calls.evalArgs_plain h)
end
/-- the scope of an __init__(slf, ..) that calls super -/
structure IniG (sc : Scope) (slf : Str) : Prop where
  kind : sc.kind = .function
  co : sc.isCoroutine = false
  gen : sc.isGenerator = false
  noc : ∀ y ∈ sc.names, y.2 ≠ .cell
  sup : sc.names.lookup ("super" : Str) = some .globalImplicit
  cls : sc.names.lookup ("__class__" : Str) = some .free
  ks : sc.names.lookup slf = some .local
  ds : (slf == ("__debug__" : Str)) = false
def iniG (sc : Scope) (slf : Str) : Bool :=
  decide (sc.kind = .function) && (!sc.isCoroutine && (!sc.isGenerator && (sc.names.all (fun y => !decide (y.2 = .cell)) && (decide (sc.names.lookup ("super" : Str) = some .globalImplicit) && (decide (sc.names.lookup ("__class__" : Str) = some .free) &&
    (decide (sc.names.lookup slf = some .local) && !(slf == ("__debug__" : Str))))))))
theorem iniG_ok {sc : Scope} {slf : Str} (h : iniG sc slf = true) : IniG sc slf := by
  unfold iniG at h
  simp only [Bool.and_eq_true, Bool.not_eq_true', decide_eq_true_eq, List.all_eq_true, decide_eq_false_iff_not] at h
  obtain ⟨h1, h2, h3, h4, h5, h6, h7, h8⟩ := h
  exact ⟨h1, h2, h3, h4, h5, h6, h7, h8⟩
/-- its first statement, as it is read in env -/
def SupEv (env : Env) (st : Stmt) : Prop := ∃ (txt : Str) (j : Nat) (p0 p1 p2 p3 p4 p5 : Pos) (pl : Sem Bool),
  st = .Expr (.Call (.Attribute (.Call (.Name "super" p0) [] [] p1) "__init__" p2) [.Constant (.str txt) j p3] [] p4) p5 ∧
  eval (.Call (.Attribute (.Call (.Name "super" p0) [] [] p1) "__init__" p2) [.Constant (.str txt) j p3] [] p4) env = (do
    let ov ← attributeBase (.Call (.Name "super" p0) [] [] p1) "__init__" env (eval (.Call (.Name "super" p0) [] [] p1) env)
    standAt p2.atName
    let (f, first) ← holding [ov] (getMethod ov "__init__" pl)
    callWith p4 f first (backTo p4 (starEach [.Constant (.str txt) j p3] env)) []) ∧
  swapsWith (.Call (.Attribute (.Call (.Name "super" p0) [] [] p1) "__init__" p2) [.Constant (.str txt) j p3] [] p4) none p5.line env = pure false ∧ interactive env = false ∧
  starEach [.Constant (.str txt) j p3] env = [(false, eval (.Constant (.str txt) j p3) env)]
/-- what the text says of an error class at C over the built-in B -/
structure ErrB (prog : Program) (K : PySem.W.Frag) (st : Stmt) (qual slf : Str) (B newId initId : String) (tl : List Value) (C fI : Addr) : Prop where
  FB : ExcBaseFacts B newId initId tl
  SF : StoreFacts B tl "object.__setattr__" "object"
  KF : PySem.W.KxsFacts B initId
  q : excInitIn K C tl newId = true
  ov : excOver K C tl = true
  iC : PySem.W.findIn K (.ref C) "__init__" = some (some (.ref fI))
  tI : PySem.W.typeIn K (.ref fI) = some (.type "function")
  df : ∃ oc od kV doc pm an cda ct cc osl, K.lookup fI = some ⟨oc, od, .func (ksFn "__init__" qual (defArgs st) (defBody st) (defScope st) .none kV doc pm an (.ref cda) ct cc), osl⟩ ∧ PySem.W.codeIn K (.ref cda) qual = true ∧
    (∃ ccl cdd vs ccs file tf, K.lookup cda = some ⟨ccl, cdd, .fields vs, ccs⟩ ∧ vs[2]? = some (.str file tf) ∧ ((prog.main.file : Str) == file) = true) ∧ ∃ cl cld csl, K.lookup cc = some ⟨cl, cld, .cell (some (.ref C)), csl⟩
  ps : (defArgs st).posonlyargs ++ (defArgs st).args ≠ [] ∧ ∀ a, ((defArgs st).posonlyargs ++ (defArgs st).args).head? = some a → a.arg = slf
  sc : IniG (defScope st) slf
  su : ks_superIn K C C "__init__" = some (some (.builtin initId))
  zs : PySem.W.nsIn K mainGlobals "super" = some none
  tp : (prog.main.scope.names.lookup ("super" : Str)).isSome = false
  op : PySem.W.nsIn K cStatics "thirdparty.any" = some none
  sB : PySem.W.subIn K (.ref C) (.type B) = some true
  sS : PySem.W.mroIn K C (.ref C) = some true
  sa : PySem.W.findIn K (.ref C) "__setattr__" = some (some (.builtin "object.__setattr__"))
  kp : PySem.W.keepIn K (.ref C) = true
  ty : PySem.W.typeIn K (.ref C) = some (.type "type")
  xf : XfC K C
section
variable {prog : Program} {w : World} {A : Around} {E : Value → Shared → Prop} {R : Result → Shared → Prop} {K : PySem.W.Frag} {mg : Str → Option Value}
variable {st : Stmt} {qual slf : Str} {B newId initId : String} {tl : List Value} {C fI : Addr}
/-- the first field -/
theorem err_setB {s : Shared} {x t1 : Addr} {f : Str} {u : Value} {Q : Unit → Shared → Prop} (T : ErrB prog K st qual slf B newId initId tl C fI) (X : K.In s.heap) (hx : s.heap.get? x = some (HandSPX.excO C t1)) (nf : PySem.W.findIn K (.ref C) f = some none)
    (hq : ∀ h' tk dx, (∀ b o, b ≠ x → s.heap.get? b = some o → h'.get? b = some o) → s.heap.objs.size ≤ dx → dx ≠ x → h'.get? x = some { HandSPX.excO C t1 with dict := some dx } → h'.Ns1 dx (fun y => if y = f then some u else none) → Q () { s with heap := h', toks := tk }) :
    wpAny (model prog w) A (setAttr (.ref x) f u) Q E s := by
  have I : PySem.W.InstAt s.heap x (HandSPX.excO C t1) C none := ⟨hx, rfl, rfl, trivial⟩
  obtain ⟨cd, hc, hh⟩ := PySem.W.any_some T.xf.hdC
  refine PySem.W.set_plain X I T.sa ?_
  refine PySem.W.osa_openX T.SF X I T.ov (r := none) (by unfold PySem.W.takerIn; rw [nf]; rfl) fun b => ?_
  have hcls : PySem.W.Looks (model prog w) s.heap (classData C) cd := PySem.W.looks_clsIn X hc
  have hxs : x ≠ s.heap.objs.size := Nat.ne_of_lt (Heap.lt_size hx)
  obtain ⟨hp, g, d, t, os⟩ := s
  show wpAny _ _ (Builtin.ObjectAttr.storeInOwnDict (.ref x) (.ref C) _ f u b) _ _ _
  have own : cd.hasDict = true := hh
  clear hh
  cases cd with
  | mk nm bs mro ns qn hdct sn sb ab col del =>
    subst own
    unfold Builtin.ObjectAttr.storeInOwnDict Builtin.ObjectAttr.ownDictForStores
    repeat (first
      | with_reducible refine HandSPX.store_in_new ?hn ?hs
      | with_reducible refine wpAny_loadPart_at hx ?_
      | with_reducible refine hcls.at ?_
      | wp_step)
    case hn =>
      refine ⟨_, #[], _, (Heap.get?_update_ne _ _ _ _ hxs.symm).trans (Heap.get?_push_at rfl rfl), rfl, fun e he => absurd he (by simp), fun _ => rfl⟩
    case hs =>
      intro h1 tk n1 same
      have laid : ∀ {b : Addr} {o : Obj}, b ≠ x → hp.get? b = some o → h1.get? b = some o := fun {b o} nb eb =>
        (same.2 b (Nat.ne_of_lt (Heap.lt_size eb))).trans ((Heap.get?_update_ne _ _ _ _ nb).trans (Heap.get?_push_of_some _ eb))
      refine hq h1 tk hp.objs.size (fun b o nb eb => laid nb eb) (Nat.le_refl _) hxs.symm ?_ n1
      exact (same.2 x hxs).trans (Heap.get?_update_self _ (Heap.get?_push_of_some { cls := .type "dict", data := .dict #[] } hx) rfl)
/-- __init__ runs: super's, then what follows -/
theorem err_run {s : Shared} {e t0 : Addr} {args : Args} {vs : List (Str × Value)} {rest : List Stmt} (T : ErrB prog K st qual slf B newId initId tl C fI) (Mo : L2.Mod K mg s.heap) (he : s.heap.get? e = some (HandSPX.excO C t0)) (hKe : K.lookup e = none) (hroom : A.depth < recursionLimit)
    (hv : ∀ y ∈ vs, (defScope st).names.lookup y.1 = some .local) (hn : ((slf, Value.ref e) :: vs).reverse.lookup slf = some (.ref e))
    (bd : ∀ (kV doc pm : Value) (an : Option Addr) (cd ct : Value) (cc : Addr), BindsTo s (ksFn "__init__" qual (defArgs st) (defBody st) (defScope st) .none kV doc pm an cd ct cc) args ((slf, .ref e) :: vs))
    (ev : ∀ (L : Addr) (cd : Value) (cc : Addr), ∃ sup, defBody st = sup :: rest ∧ SupEv (ksEnv qual (defScope st) L fI cd cc) sup)
    (hq : ∀ (L : Addr) (cd : Value) (cc : Addr) (A' : Around) (h2 : Heap) (t1 : Addr) (tk : Nat), A'.handled = A.handled → h2.Ns L (fun x => ((slf, Value.ref e) :: vs).reverse.lookup x) → K.In h2 → h2.get? e = some (HandSPX.excO C t1) → (∀ b o, b ≠ e → s.heap.get? b = some o → h2.get? b = some o) → s.heap.objs.size ≤ h2.objs.size →
      wpAny (model prog w) A' (execs rest (ksEnv qual (defScope st) L fI cd cc)) (fun f s' => f = .next ∧ R (.ok (.ret .none)) s') (fun _ _ => False) { s with heap := h2, toks := tk }) :
    codeAny (model prog w) A (.call (.ref fI) args) R s := by
  obtain ⟨oc, od, kV, doc, pm, an, cda, ct, cc, osl, lf, ci, ⟨ccl, cdd, vv, ccs, file, tf, lc, vf, hf⟩, cl, cld, csl, lcc⟩ := T.df
  obtain ⟨sup, hb, txt, j, p0, p1, p2, p3, p4, p5, pl, rfl, hev, hsw, hint, hstar⟩ := ev s.heap.objs.size (.ref cda) cc
  obtain ⟨nm, N, qn, bs, bm, hdct, sn, sub, ab, col, dd, k0, k1, k2, k3, k5, hC, hT⟩ := PySem.W.excInit_of Mo.kin T.q
  have S := T.sc
  refine ks_codeAny_call_defAt (body := defBody st) (binds := (slf, .ref e) :: vs) hroom (Mo.kin _ _ lf) rfl Mo.nolimit (PySem.W.codeRec_of Mo.kin ci) rfl (bd kV doc pm an (.ref cda) ct cc) S.noc (fun y hy => ?_) (fun h0 ns0 kp0 => ?_) S.co S.gen S.kind
  · rcases List.mem_cons.mp hy with rfl | hy
    · exact S.ks
    · exact hv y hy
  · have kin0 : K.In h0 := Mo.kin.keeps kp0
    have hlt : e < s.heap.objs.size := Heap.lt_size he
    have eL : e ≠ s.heap.objs.size := Nat.ne_of_lt hlt
    obtain ⟨ar, har⟩ : ∃ ar, ((defArgs st).posonlyargs ++ (defArgs st).args).head? = some ar := by
      cases hl : (defArgs st).posonlyargs ++ (defArgs st).args with
      | nil => exact absurd hl T.ps.1
      | cons a r => exact ⟨a, rfl⟩
    have hself := T.ps.2 ar har
    show _root_.PySem.wpAt _ (A.deeper (ksEnv qual (defScope st) s.heap.objs.size fI (.ref cda) cc)) (.func (defBody st) (ksEnv qual (defScope st) s.heap.objs.size fI (.ref cda) cc)) (execs (defBody st) (ksEnv qual (defScope st) s.heap.objs.size fI (.ref cda) cc)) _ _ _
    rw [hb]
    obtain ⟨mb, nsb, hbb⟩ := Mo.blt
    refine ks_wpAt_execs_cons (ks_wpAt_Expr_any (ks_wpAt_MethodCall (pl := pl) ?_ hev) hint hsw)
    refine ks_wpAt_super_base (env := ksEnv qual (defScope st) s.heap.objs.size fI (.ref cda) cc) S.sup S.cls (by decide) rfl (kin0 _ _ lf) rfl har rfl (kin0 _ _ lc) rfl vf hf T.tp ?_
    refine PySem.W.ks_loadName_global S.kind S.sup (Calls.loadGlobal_builtin (Mo.glob.keeps kp0) (PySem.W.mg_none_of Mo.kin Mo.glob T.zs) (nsb.keeps kp0) ((hbb _ (by decide)).trans (by decide +kernel)) ⟨rfl, ?_⟩)
    refine wpAny_loadName_free S.kind S.cls rfl ⟨_, kin0 _ _ lcc, rfl⟩ ?_
    rw [hself]
    refine wpAny_loadName_local S.kind S.ks ns0 hn ?_
    refine ks_wpAny_isType_cls (kp0 _ _ hC) rfl ⟨rfl, ?_⟩
    refine ks_wpAny_call_super (kp0 _ _ hC) rfl (kp0 _ _ he) rfl (fun c z => by cases z) (PySem.W.looks_mroIn kin0 T.sS) (fun h1 so1 kp1 => ?_)
    have kin1 : K.In h1 := kin0.keeps kp1
    have eC : e ≠ C := fun z => by
      rw [z, hC] at he
      cases he
    have I1 : PySem.W.InstAt h1 e (HandSPX.excO C t0) C none := ⟨kp1 _ _ (kp0 _ _ he), rfl, rfl, trivial⟩
    cases hcl : PySem.W.clsIn K C with
    | none =>
      have z := T.su
      unfold ks_superIn at z
      rw [hcl] at z
      cases z
    | some cd =>
      have z := T.su
      unfold ks_superIn at z
      rw [hcl] at z
      refine PySem.W.kxs_getMethod T.KF so1 (PySem.W.looks_opaque kin1 T.op) (l₀ := cd.mro) ((PySem.W.looks_clsIn kin1 hcl).andThen .now) rfl kin1 z (I1.type.andThen (PySem.W.looks_subIn kin1 T.sB)) eC (by decide) ?_
      refine mw_with (i := initId) (x := e) ?_ hstar rfl
      rw [hstar]
      refine Calls.spliced_cons (Calls.Constant_str (k := j) (pos := p3) (Calls.spliced_nil ⟨Heap.get?_push_size _ rfl, ?_⟩))
      refine mw_call T.FB (e := e) (t0 := t0) (Heap.get?_push_of_some _ (kp1 _ _ (kp0 _ _ hC))) (Heap.get?_push_of_some _ (kp1 _ _ (kp0 _ _ he))) (Heap.get?_push_size _ rfl) (show 1 ≤ sizeLine by decide) (fun h2 t1 kp2 he2 => ?_)
      have kall : ∀ b o, b ≠ e → h0.get? b = some o → h2.get? b = some o := fun b o nb q => kp2 b o nb (Heap.get?_push_of_some _ (kp1 b o q))
      have kin2 : K.In h2 := fun b o q => kall b o (fun z => by
        rw [z, hKe] at q
        cases q) (kin0 b o q)
      have ns2 : h2.Ns s.heap.objs.size (fun x => ((slf, Value.ref e) :: vs).reverse.lookup x) := by
        obtain ⟨oL, es, ep, hL, r⟩ := ns0
        exact ⟨oL, es, ep, kall _ _ (Ne.symm eL) hL, r⟩
      have big : s.heap.objs.size ≤ h2.objs.size := by
        obtain ⟨oL, es, ep, hL, r⟩ := ns2
        exact Nat.le_of_lt (Heap.lt_size hL)
      exact wpAt_of_wpAny (wpAny_mono (hq s.heap.objs.size (.ref cda) cc _ h2 t1 _ rfl ns2 kin2 he2 (fun b o nb q => kall b o nb (kp0 b o q)) big) (fun f s' z => by obtain ⟨rfl, z⟩ := z; exact z) fun _ _ z => z.elim)
end
end DL

/-! DX23: errors as values: the rules. -/
namespace DL
open PySem L2 PyProof.Rows
open PySem.W (ksFn ksEnv)
/-- __init__(slf, v): super's, then self.f = v -/
structure Ini1 (st : Stmt) (qual slf v f : Str) (fI : Addr) : Prop where
  kv : (defScope st).names.lookup v = some .local
  ne : slf ≠ v
  dv : (v == ("__debug__" : Str)) = false
  ev : ∀ (L : Addr) (cd : Value) (cc : Addr), ∃ (sup : Stmt) (p6 p7 p8 p9 : Pos), defBody st = sup :: [.Assign [.Attribute (.Name slf p6) f p7] (.Name v p8) p9] ∧ SupEv (ksEnv qual (defScope st) L fI cd cc) sup ∧ swapsWith (.Name v p8) (some (.Attribute (.Name slf p6) f p7)) p9.line (ksEnv qual (defScope st) L fI cd cc) = pure false
structure Ini0 (st : Stmt) (qual : Str) (fI : Addr) : Prop where
  ev : ∀ (L : Addr) (cd : Value) (cc : Addr), ∃ (sup : Stmt), defBody st = [sup] ∧ SupEv (ksEnv qual (defScope st) L fI cd cc) sup
section
variable {k : Kx} {X : Cx} {E : XK} {st : Stmt} {qual slf v f x : Str} {B newId initId : String} {tl : List Value} {C fI : Addr} {lvl : Nat} {p pos : Pos}
theorem err_core1 {pins : List (Addr × Obj)} {s : Shared} {σ : L2.St} {H : Hp} {Q : VK} {y : V} {u : Value} {rest : List Value} {kw : List (Str × Value)} (T : ErrB X.prog X.K st qual slf B newId initId tl C fI) (J : Ini1 st qual slf v f fI) (nf : PySem.W.findIn X.K (.ref C) f = some none) (hr : Room (lvl + 1) X.A) (I : Inv X pins σ H s) (ry : RelV y u) (hz : rest.length ≤ sizeLine)
    (bd : ∀ (s : Shared) (e : Addr) (kV doc pm : Value) (an : Option Addr) (cd ct : Value) (cc : Addr), BindsTo s (ksFn "__init__" qual (defArgs st) (defBody st) (defScope st) .none kV doc pm an cd ct cc) ⟨.ref e :: rest, kw⟩ [(slf, .ref e), (v, u)])
    (hq : ∀ e dx, H e = none → H dx = none → dx ≠ e → Q (.ref e) (upd (upd H dx (exd dx [(f, y)])) e (exo e C (some dx)))) :
    wpAny (model X.prog X.w) X.A (call (.ref C) rest kw) (EP X pins σ Q) X.xe s := by
  obtain ⟨nm, N, qn, bs, bm, hdct, sn, sub, ab, col, dd, k0, k1, k2, k3, k5, hC, hT⟩ := PySem.W.excInit_of I.kIn T.q
  have Mo : L2.Mod X.K X.mg s.heap := ⟨I.kIn, I.mod.glob.keeps I.bk, let ⟨mb, b1, b2⟩ := I.mod.blt; ⟨mb, b1.keeps I.bk, b2⟩, I.nolimit⟩
  obtain ⟨hp, g, dr, tk, os⟩ := s
  have kk : ∀ b o, hp.get? b = some o → ((hp.push (PySem.W.kdv_tup rest)).push (HandSPX.excO C hp.objs.size)).get? b = some o := fun b o z => Heap.get?_push_of_some _ (Heap.get?_push_of_some _ z)
  have atE : ((hp.push (PySem.W.kdv_tup rest)).push (HandSPX.excO C hp.objs.size)).get? (hp.objs.size + 1) = some (HandSPX.excO C hp.objs.size) := by heap_get
  have Mo2 : L2.Mod X.K X.mg ((hp.push (PySem.W.kdv_tup rest)).push (HandSPX.excO C hp.objs.size)) := ⟨Mo.kin.keeps kk, Mo.glob.keeps kk, let ⟨mb, b1, b2⟩ := Mo.blt; ⟨mb, b1.keeps kk, b2⟩, Mo.nolimit.keeps kk⟩
  have noE : X.K.lookup (hp.objs.size + 1) = none := by
    cases z : X.K.lookup (hp.objs.size + 1) with
    | none => rfl
    | some o => exact absurd (Heap.lt_size (Mo.kin _ _ z)) (by show ¬ hp.objs.size + 1 < hp.objs.size; omega)
  have hne : (slf == v) = false := by simpa using J.ne
  refine wpAny_call (callK T.FB hT hC (PySem.W.looks_findIn I.kIn T.iC) (fun slf => PySem.W.bind_fn I.kIn slf T.tI) hz ?_)
  refine err_run (vs := [(v, u)]) (rest := (defBody st).tail) T Mo2 atE noE (hr.make C rest kw).depth (fun y hy => ?_) (by simp [List.lookup, hne]) (fun kV doc pm an cd ct cc => bd _ _ kV doc pm an cd ct cc) (fun L cd cc => ?_) (fun L cd cc A' h2 t1 tk2 _ ns2 kin2 he2 kp2 big => ?_)
  · simp only [List.mem_singleton] at hy
    subst hy
    exact J.kv
  · obtain ⟨sup, p6, p7, p8, p9, hb, hs, _⟩ := J.ev L cd cc
    exact ⟨sup, by rw [hb]; rfl, hs⟩
  · obtain ⟨sup, p6, p7, p8, p9, hb, hs, hsw⟩ := J.ev L cd cc
    rw [show (defBody st).tail = [.Assign [.Attribute (.Name slf p6) f p7] (.Name v p8) p9] by rw [hb]; rfl]
    have mself : (fun x => [(slf, Value.ref (hp.objs.size + 1)), (v, u)].reverse.lookup x) slf = some (.ref (hp.objs.size + 1)) := by simp [List.lookup, hne]
    have mval : (fun x => [(slf, Value.ref (hp.objs.size + 1)), (v, u)].reverse.lookup x) v = some u := by simp [List.lookup]
    refine wpAny_execs_cons (plainObj_wpAny_Assign_Attribute (wpAny_Name (wpAny_loadName_local T.sc.kind J.kv ns2 mval (wpAny_Name (wpAny_loadName_local T.sc.kind T.sc.ks ns2 mself ?_) T.sc.ds)) J.dv) hsw)
    refine err_setB T kin2 he2 nf fun h3 tk3 dx kp3 dn de hx3 n3 => wpAny_execs_nil ⟨rfl, rfl, ?_⟩
    obtain ⟨G, g1, g2⟩ := restrict h3 fun b => decide (b ≠ hp.objs.size + 1)
    have gk : ∀ {b : Addr}, b ≠ hp.objs.size + 1 → G.get? b = h3.get? b := fun {b} nb => g1 b (decide_eq_true nb)
    have ge : G.get? (hp.objs.size + 1) = none := g2 _ (by simp)
    have low : ∀ {b : Addr} {o : Obj}, hp.get? b = some o → b ≠ hp.objs.size + 1 := fun {b o} z => Nat.ne_of_lt (Nat.lt_succ_of_lt (Heap.lt_size z))
    have dn2 : hp.objs.size ≤ dx := Nat.le_trans (Nat.le_trans (by show hp.objs.size ≤ ((hp.push _).push _).objs.size; rw [Heap.size_push, Heap.size_push]; omega) big) dn
    have new : ObjOk X.prog X.w (upd H dx (exd dx [(f, y)])) G dx (exd dx [(f, y)]) := exd_ok (n3.at fun o z => (gk de).trans z) (relO_put (fs := []) ry fun _ => True.intro)
    have hE : H (hp.objs.size + 1) = none := I.hok.fresh (Nat.le_succ _)
    have hD : H dx = none := I.hok.fresh dn2
    have I2 : Inv X pins σ (upd H dx (exd dx [(f, y)])) ⟨G, g, dr, tk3, os⟩ := I.laid (t' := tk3) (h' := G) (fun b o z => (gk (low z)).trans (kp3 b o (low z) (kp2 b o (low z) (kk b o z)))) dn2 new
    have I3 := I2.laidN (h' := h3) (a := hp.objs.size + 1) (o := exo (hp.objs.size + 1) C (some dx)) (t' := tk3) (fun b o z => by
      by_cases hb : b = hp.objs.size + 1
      · rw [hb, ge] at z
        cases z
      · exact (gk hb).symm.trans z) ge (by rw [upd_ne (Ne.symm de)]; exact hE) (exo_ok hx3)
    exact ⟨.ref (hp.objs.size + 1), _, I3, rfl, hq _ _ hE hD de⟩
theorem err_core0 {pins : List (Addr × Obj)} {s : Shared} {σ : L2.St} {H : Hp} {Q : VK} (T : ErrB X.prog X.K st qual slf B newId initId tl C fI) (J : Ini0 st qual fI) (hr : Room (lvl + 1) X.A) (I : Inv X pins σ H s)
    (bd : ∀ (s : Shared) (e : Addr) (kV doc pm : Value) (an : Option Addr) (cd ct : Value) (cc : Addr), BindsTo s (ksFn "__init__" qual (defArgs st) (defBody st) (defScope st) .none kV doc pm an cd ct cc) ⟨[.ref e], []⟩ [(slf, .ref e)])
    (hq : ∀ e, H e = none → Q (.ref e) (upd H e (exo e C none))) :
    wpAny (model X.prog X.w) X.A (call (.ref C) [] []) (EP X pins σ Q) X.xe s := by
  obtain ⟨nm, N, qn, bs, bm, hdct, sn, sub, ab, col, dd, k0, k1, k2, k3, k5, hC, hT⟩ := PySem.W.excInit_of I.kIn T.q
  have Mo : L2.Mod X.K X.mg s.heap := ⟨I.kIn, I.mod.glob.keeps I.bk, let ⟨mb, b1, b2⟩ := I.mod.blt; ⟨mb, b1.keeps I.bk, b2⟩, I.nolimit⟩
  obtain ⟨hp, g, dr, tk, os⟩ := s
  have kk : ∀ b o, hp.get? b = some o → ((hp.push (PySem.W.kdv_tup [])).push (HandSPX.excO C hp.objs.size)).get? b = some o := fun b o z => Heap.get?_push_of_some _ (Heap.get?_push_of_some _ z)
  have atE : ((hp.push (PySem.W.kdv_tup [])).push (HandSPX.excO C hp.objs.size)).get? (hp.objs.size + 1) = some (HandSPX.excO C hp.objs.size) := by heap_get
  have Mo2 : L2.Mod X.K X.mg ((hp.push (PySem.W.kdv_tup [])).push (HandSPX.excO C hp.objs.size)) := ⟨Mo.kin.keeps kk, Mo.glob.keeps kk, let ⟨mb, b1, b2⟩ := Mo.blt; ⟨mb, b1.keeps kk, b2⟩, Mo.nolimit.keeps kk⟩
  have noE : X.K.lookup (hp.objs.size + 1) = none := by
    cases z : X.K.lookup (hp.objs.size + 1) with
    | none => rfl
    | some o => exact absurd (Heap.lt_size (Mo.kin _ _ z)) (by show ¬ hp.objs.size + 1 < hp.objs.size; omega)
  refine wpAny_call (callK T.FB hT hC (PySem.W.looks_findIn I.kIn T.iC) (fun slf => PySem.W.bind_fn I.kIn slf T.tI) (by decide) ?_)
  refine err_run (vs := []) (rest := []) T Mo2 atE noE (hr.make C [] []).depth (fun y hy => by cases hy) (by simp [List.lookup]) (fun kV doc pm an cd ct cc => bd _ _ kV doc pm an cd ct cc) (fun L cd cc => ?_) (fun L cd cc A' h2 t1 tk2 _ ns2 kin2 he2 kp2 big => ?_)
  · obtain ⟨sup, hb, hs⟩ := J.ev L cd cc
    exact ⟨sup, hb, hs⟩
  · refine wpAny_execs_nil ⟨rfl, rfl, ?_⟩
    have low : ∀ {b : Addr} {o : Obj}, hp.get? b = some o → b ≠ hp.objs.size + 1 := fun {b o} z => Nat.ne_of_lt (Nat.lt_succ_of_lt (Heap.lt_size z))
    have hE : H (hp.objs.size + 1) = none := I.hok.fresh (Nat.le_succ _)
    exact ⟨.ref (hp.objs.size + 1), _, I.laid (t' := tk2) (h' := h2) (fun b o z => kp2 b o (low z) (kk b o z)) (Nat.le_succ _) (exo_ok he2), rfl, hq _ hE⟩
end
end DL

/-! DX24: errors as data: made, read, asked for their class. -/
namespace DL
open PySem L2 PyProof.Rows
open PySem.W (ksFn ksEnv)
theorem nt_exo {e C : Addr} {d : Option Addr} : NT (exo e C d) := fun ps z => exo_tbl z
theorem nt_exd {e : Addr} {fs : List (Str × V)} : NT (exd e fs) := fun ps z => by
  have z' : HO.ext _ = HO.tbl ps := z
  cases z'
section
variable {k : Kx} {X : Cx} {E : XK} {st : Stmt} {qual slf v f x : Str} {B newId initId : String} {tl : List Value} {C fI : Addr} {lvl : Nat} {p pos : Pos}
/-! ### making -/
def tE1 (C : Addr) (f : Str) (ta : TE) : TE := fun σ H Q => ta σ H fun y H1 => ∀ e dx, H1 e = none → H1 dx = none → dx ≠ e → Q (.ref e) (upd (upd H1 dx (exd dx [(f, y)])) e (exo e C (some dx)))
/-- how the arguments are bound -/
def Bd1 (st : Stmt) (qual slf v : Str) (kw : Bool) : Prop := ∀ (s : Shared) (e : Addr) (u kV doc pm : Value) (an : Option Addr) (cd ct : Value) (cc : Addr),
  BindsTo s (ksFn "__init__" qual (defArgs st) (defBody st) (defScope st) .none kV doc pm an cd ct cc) (if kw = true then ⟨[.ref e], [(v, u)]⟩ else ⟨[.ref e, u], []⟩) [(slf, .ref e), (v, u)]
theorem pe_err1 {a : Expr} {ta : TE} (T : ErrB X.prog X.K st qual slf B newId initId tl C fI) (J : Ini1 st qual slf v f fI) (nf : PySem.W.findIn X.K (.ref C) f = some none) (bd : Bd1 st qual slf v false) (hr : Room (lvl + 1) X.A) (hg : Gl X x) (hm : X.mg x = some (.ref C)) (ha : PE X a ta)
    (hs : starEach [a] X.env = (false, eval a X.env) :: starEach [] X.env) (hdb : (x == ("__debug__" : Str)) = false) : PE X (.Call (.Name x p) [a] [] pos) (tE1 C f ta) := by
  refine ⟨fun pins s σ H Q I h => ?_⟩
  refine wpAny_Call_Name_kw (ld_glob I hg hm ?_ hdb)
  refine PySem.W.callWith_K (h₀ := X.base) I.ok.mod.kin T.kp ?_ hs (by rfl)
  rw [hs]
  show wpAny _ _ (spliced ((false, eval a X.env) :: backTo pos (starEach [] X.env))) _ _ s
  refine Calls.spliced_cons (thn (ha.run pins s σ H _ I h) fun u s1 ⟨y, H1, I1, ry, q1⟩ => Calls.spliced_nil ⟨I1.kIn, ?_⟩)
  exact err_core1 (rest := [u]) (kw := []) T J nf hr I1 ry (show 1 ≤ sizeLine by decide) (fun s e kV doc pm an cd ct cc => bd s e u kV doc pm an cd ct cc) q1
theorem pe_err1K {a : Expr} {ta : TE} {kp : Pos} (T : ErrB X.prog X.K st qual slf B newId initId tl C fI) (J : Ini1 st qual slf v f fI) (nf : PySem.W.findIn X.K (.ref C) f = some none) (bd : Bd1 st qual slf v true) (hr : Room (lvl + 1) X.A) (hg : Gl X x) (hm : X.mg x = some (.ref C)) (ha : PE X a ta) (hdb : (x == ("__debug__" : Str)) = false) :
    PE X (.Call (.Name x p) [] [⟨some v, a, kp⟩] pos) (tE1 C f ta) := by
  refine ⟨fun pins s σ H Q I h => ?_⟩
  refine wpAny_Call_Name_kw (ld_glob I hg hm ?_ hdb)
  refine PySem.W.callWith_KW0 (h₀ := X.base) I.ok.mod.kin T.kp rfl ?_ rfl
  have hk : PK X [⟨some v, a, kp⟩] (tCons ta tNil) := pk_cons ha pk_nil
  have h' : tCons ta tNil σ H fun vs H1 => match vs with
      | [y] => ∀ e dx, H1 e = none → H1 dx = none → dx ≠ e → Q (.ref e) (upd (upd H1 dx (exd dx [(f, y)])) e (exo e C (some dx)))
      | _ => False := h
  refine thn (hk.run pos pins s σ H _ I h') fun ws s2 ⟨zs, H2, I2, rz, q2⟩ => ⟨I2.kIn, ?_⟩
  match zs, rz, q2 with
  | [], _, q2 => exact q2.elim
  | [y], rz, q2 =>
    cases rz with
    | @cons _ u _ _ ry rr =>
      cases rr
      exact err_core1 (rest := []) (kw := [(v, u)]) T J nf hr I2 ry (by decide) (fun s e kV doc pm an cd ct cc => bd s e u kV doc pm an cd ct cc) q2
  | _ :: _ :: _, _, q2 => exact q2.elim
def tE0 (C : Addr) : TE := fun σ H Q => ∀ e, H e = none → Q (.ref e) (upd H e (exo e C none))
def Bd0 (st : Stmt) (qual slf : Str) : Prop := ∀ (s : Shared) (e : Addr) (kV doc pm : Value) (an : Option Addr) (cd ct : Value) (cc : Addr),
  BindsTo s (ksFn "__init__" qual (defArgs st) (defBody st) (defScope st) .none kV doc pm an cd ct cc) ⟨[.ref e], []⟩ [(slf, .ref e)]
theorem pe_err0 (T : ErrB X.prog X.K st qual slf B newId initId tl C fI) (J : Ini0 st qual fI) (bd : Bd0 st qual slf) (hr : Room (lvl + 1) X.A) (hg : Gl X x) (hm : X.mg x = some (.ref C)) (hdb : (x == ("__debug__" : Str)) = false) :
    PE X (.Call (.Name x p) [] [] pos) (tE0 C) := by
  refine ⟨fun pins s σ H Q I h => ?_⟩
  refine wpAny_Call_Name_kw (ld_glob I hg hm ?_ hdb)
  refine PySem.W.callWith_KW0 (kws := []) (h₀ := X.base) I.ok.mod.kin T.kp rfl ?_ rfl
  have hk : PK X [] tNil := pk_nil
  refine thn (hk.run pos pins s σ H (fun vs H1 => vs = [] ∧ H1 = H) I ⟨rfl, rfl⟩) fun ws s2 ⟨zs, H2, I2, rz, ez, eH⟩ => ⟨I2.kIn, ?_⟩
  subst ez eH
  cases rz
  exact err_core0 T J hr I2 bd h
/-! ### the rules -/
def err1D (c : Nat) (d : D) : M D := pure (.err c [d])
theorem j_err_of {a : Expr} {ma : DEnv → M D} {e0 : Expr} {c : Nat} (h : PE X e0 (tE1 (k.cl c) f (dE k X.K E ma))) (hf : k.xf c = [f]) : JE k X E e0 (eUn (err1D c) ma) := by
  refine PE.imp h fun s H Q h => ?_
  obtain ⟨e, G, L, μ, sg, w, gd⟩ := h
  refine ⟨e, G, L, μ, sg, w, Good.mono (Good.bind gd) fun d1 m1 G1 H1 L1 st1 w1 q1 y r1 a dx ha hd ne => ?_⟩
  have w2 := w1.new (o := exd dx [(f, y)]) hd nt_exd
  have s2 := w1.newS (o := exd dx [(f, y)]) hd
  have ha2 : upd H1 dx (exd dx [(f, y)]) a = none := by rw [upd_ne (Ne.symm ne)]; exact ha
  have w3 := w2.new (o := exo a (k.cl c) (some dx)) ha2 nt_exo
  have s3 := w2.newS (o := exo a (k.cl c) (some dx)) ha2
  refine q1 _ _ _ (s2.trans s3) w3 _ (.err (dx := dx) (vs := [y]) upd_same ?_ (by rw [hf]; rfl) ?_)
  · rw [upd_ne ne, upd_same, hf]
    rfl
  · exact RpA.mono (s2.trans s3).g (s2.trans s3).l _ _ (.cons r1 .nil)
theorem j_err0 {c : Nat} (h : PE X (.Call (.Name x p) [] [] pos) (tE0 (k.cl c))) (hf : k.xf c = []) : JE k X E (.Call (.Name x p) [] [] pos) (eC (.err c [])) := by
  refine PE.imp h fun s H Q h => ?_
  obtain ⟨e, G, L, μ, sg, w, gd⟩ := h
  intro a ha
  exact gd _ _ _ (w.newS ha) (w.new ha nt_exo) _ (.err0 hf upd_same)
/-! ### e.f -/
structure XA (k : Kx) (K : PySem.W.Frag) (f : Str) (c i : Nat) : Prop where
  xf : XfC K (k.cl c)
  no : PySem.W.findIn K (.ref (k.cl c)) f = some none
  ix : ∀ vs : List V, (k.xf c).length = vs.length → ((k.xf c).zip vs).lookup f = vs[i]?
theorem xa_one {K : PySem.W.Frag} {c : Nat} (xf : XfC K (k.cl c)) (no : PySem.W.findIn K (.ref (k.cl c)) f = some none) (hf : k.xf c = [f]) : XA k K f c 0 := ⟨xf, no, fun vs hl => by
  rw [hf] at hl ⊢
  match vs, hl with
  | [v], _ => simp [List.lookup]⟩
theorem xa_nil {K : PySem.W.Frag} {n : Str} : ∀ q ∈ ([] : List (Nat × Nat)), XA k K n q.1 q.2 := fun _ h => nomatch h
theorem xa_cons {K : PySem.W.Frag} {n : Str} {c i : Nat} {r : List (Nat × Nat)} (h : XA k K n c i) (hr : ∀ q ∈ r, XA k K n q.1 q.2) : ∀ q ∈ (c, i) :: r, XA k K n q.1 q.2 := fun q hq => by
  rcases List.mem_cons.mp hq with rfl | hq
  · exact h
  · exact hr q hq
def tXat (K : PySem.W.Frag) (f : Str) (te : TE) : TE := fun σ H Q => te σ H fun x H1 => ∃ (a C dx : Addr) (fs : List (Str × V)) (v : V), x = .ref a ∧ H1 a = some (exo a C (some dx)) ∧ H1 dx = some (exd dx fs) ∧ XfC K C ∧ PySem.W.findIn K (.ref C) f = some none ∧ fs.lookup f = some v ∧ Q v H1
theorem pe_xat {e : Expr} {te : TE} {n : Str} (he : PE X e te) (hb : attributeBase e n X.env (eval e X.env) = eval e X.env := by rfl) : PE X (.Attribute e n pos) (tXat X.K n te) := by
  refine ⟨fun pins s σ H Q I h => ?_⟩
  refine attr_of hb (thn (he.run pins s σ H _ I h) fun u s1 hh => ?_)
  obtain ⟨x, H1, I1, rx, a, C, dx, fs, v, ex, ea, ed, T, hno, l, q⟩ := hh
  subst ex
  obtain rfl : u = Value.ref a := rx
  obtain ⟨t1, ha⟩ := exo_at I1.hok ea
  obtain ⟨mA, hns, hr⟩ := exd_at I1.hok ed
  obtain ⟨od, ho, hl⟩ := lookIn_ns hns
  obtain ⟨u, hu, ru⟩ := RelO.some_of (v := v) (o := mA n) (by rw [← l]; exact hr n)
  have J : PySem.W.InstAt s1.heap a _ C (some od) := ⟨ha, rfl, rfl, ho⟩
  exact HandSPX.exc_get I1.kIn J T.ga T.gg T.exC (PySem.W.findObj_own T.hdC hno rfl (by rw [hl, hu])) (handed_of ru) ⟨v, H1, I1.tok _, ru, q⟩
def xatD (tab : List (Nat × Nat)) (d : D) : M D := match d with
  | .err c ds => match tab.lookup c with
    | some i => match ds[i]? with
      | some x => pure x
      | none => M.bad
    | none => M.bad
  | _ => M.bad
theorem lookup_mem {tab : List (Nat × Nat)} {c i : Nat} (h : tab.lookup c = some i) : (c, i) ∈ tab := by
  induction tab with
  | nil => cases h
  | cons p r ih =>
    rw [List.lookup_cons] at h
    by_cases hc : c == p.1
    · rw [hc] at h
      cases h
      rw [beq_iff_eq.mp hc]
      exact List.mem_cons_self ..
    · rw [Bool.eq_false_iff.mpr hc] at h
      exact List.mem_cons_of_mem _ (ih h)
theorem j_xat {a : Expr} {ma : DEnv → M D} {n : Str} {tab : List (Nat × Nat)} (F : ∀ q ∈ tab, XA k X.K n q.1 q.2) (ha : JE k X E a ma) (hb : attributeBase a n X.env (eval a X.env) = eval a X.env := by rfl) : JE k X E (.Attribute a n pos) (eUn (xatD tab) ma) := by
  refine PE.imp (pe_xat ha hb) fun s H Q h => ?_
  obtain ⟨e, G, L, μ, sg, w, gd⟩ := h
  refine ⟨e, G, L, μ, sg, w, Good.mono (Good.bind gd) fun d1 m1 G1 H1 L1 st1 w1 q1 y r1 => ?_⟩
  cases d1 with
  | err c ds =>
    have q2 : Good k X.K E G1 H1 L1 ((match tab.lookup c with | some i => (match ds[i]? with | some x => (pure x : M D) | none => M.bad) | none => M.bad) m1) (QV k X.K Q) := q1
    cases ht : tab.lookup c with
    | none => rw [ht] at q2; exact False.elim q2
    | some i =>
      rw [ht] at q2
      simp only at q2
      cases hd : ds[i]? with
      | none => rw [hd] at q2; exact False.elim q2
      | some x =>
        rw [hd] at q2
        obtain ⟨xf, no, ix⟩ := F _ (lookup_mem ht)
        cases r1 with
        | @err _ a dx vs _ h1 h2 hl ra =>
          obtain ⟨u, hu, ru⟩ := ra.get hd
          exact ⟨a, k.cl c, dx, _, u, rfl, w1.ext _ _ h1, w1.ext _ _ h2, xf, no, (ix vs hl).trans hu, Good.ret q2 w1 _ ru⟩
        | err0 h0 h1 => simp at hd
  | _ => exact False.elim q1
/-! ### isinstance(e, C) -/
def rIsX (K : PySem.W.Frag) (cv : Value) : List V → Hp → VK → Prop := fun xs H Q => ∃ (a C : Addr) (dx : Option Addr) (c : V) (b : Bool), xs = [.ref a, c] ∧ H a = some (exo a C dx) ∧ (∀ d, dx = some d → ∃ fs, H d = some (exd d fs)) ∧ ExcC K C ∧ (∀ u, RelV c u → u = cv) ∧ PySem.W.kitOne K (.ref C) cv = some b ∧ Q (.bl b) H
theorem exo_inst {pins : List (Addr × Obj)} {s : Shared} {σ : L2.St} {H : Hp} {a C : Addr} {dx : Option Addr} (I : Inv X pins σ H s) (ha : H a = some (exo a C dx)) (hd : ∀ d, dx = some d → ∃ fs, H d = some (exd d fs)) : ∃ oe od, PySem.W.InstAt s.heap a oe C od := by
  obtain ⟨t1, h1⟩ := exo_at I.hok ha
  cases dx with
  | none => exact ⟨_, none, h1, rfl, rfl, trivial⟩
  | some d =>
    obtain ⟨fs, h2⟩ := hd d rfl
    obtain ⟨mA, hns, _⟩ := exd_at I.hok h2
    obtain ⟨od, ho, _⟩ := lookIn_ns hns
    exact ⟨_, some od, h1, rfl, rfl, ho⟩
theorem call_isX (cv : Value) : CallR X (.builtin "isinstance") (rIsX X.K cv) := by
  intro pins s σ H xs us Q I r h
  obtain ⟨a, C, dx, c, b, rfl, ha, hd, T, hcv, e, q⟩ := h
  obtain ⟨u1, u2, rfl, r1, r2⟩ := r.two
  cases (show u1 = Value.ref a from r1)
  have ec := hcv _ r2
  subst ec
  obtain ⟨oe, od, J⟩ := exo_inst I ha hd
  obtain ⟨cd, hc, _⟩ := PySem.W.any_some T.hd
  exact PySem.W.kia_one (PySem.W.kitx_exc (by rw [hc]; rfl) T.hg T.hk T.hs T.ha T.hn T.ht T.hm) I.kIn J e (fun z => nomatch z) fun tk => ⟨.bl b, H, I.kept (t' := tk) fun _ _ z => z, rfl, q⟩
theorem xi_nil {K : PySem.W.Frag} {u : Value} : ∀ q ∈ ([] : List (Nat × Bool)), ExcC K (k.cl q.1) ∧ PySem.W.kitOne K (.ref (k.cl q.1)) u = some q.2 := fun _ h => nomatch h
theorem xi_cons {K : PySem.W.Frag} {u : Value} {c : Nat} {b : Bool} {r : List (Nat × Bool)} (h1 : ExcC K (k.cl c)) (h2 : PySem.W.kitOne K (.ref (k.cl c)) u = some b) (hr : ∀ q ∈ r, ExcC K (k.cl q.1) ∧ PySem.W.kitOne K (.ref (k.cl q.1)) u = some q.2) : ∀ q ∈ (c, b) :: r, ExcC K (k.cl q.1) ∧ PySem.W.kitOne K (.ref (k.cl q.1)) u = some q.2 := fun q hq => by
  rcases List.mem_cons.mp hq with rfl | hq
  · exact ⟨h1, h2⟩
  · exact hr q hq
def isxD (tab : List (Nat × Bool)) (d : D) : M D := match d with
  | .err c _ => match tab.lookup c with
    | some b => pure (.bl b)
    | none => M.bad
  | _ => M.bad
theorem lookup_memB {tab : List (Nat × Bool)} {c : Nat} {b : Bool} (h : tab.lookup c = some b) : (c, b) ∈ tab := by
  induction tab with
  | nil => cases h
  | cons p r ih =>
    rw [List.lookup_cons] at h
    by_cases hc : c == p.1
    · rw [hc] at h
      cases h
      rw [beq_iff_eq.mp hc]
      exact List.mem_cons_self ..
    · rw [Bool.eq_false_iff.mpr hc] at h
      exact List.mem_cons_of_mem _ (ih h)
theorem j_isx {a : Expr} {ma : DEnv → M D} {pc : Pos} {cn : Str} {tab : List (Nat × Bool)} {u : Value} {c : V} (F : ∀ q ∈ tab, ExcC X.K (k.cl q.1) ∧ PySem.W.kitOne X.K (.ref (k.cl q.1)) u = some q.2) (one : ∀ w, RelV c w → w = u) (hg : Gl X "isinstance") (hm : X.mg "isinstance" = none)
    (ha : JE k X E a ma) (hc : PE X (.Name cn pc) (tC c)) (hs1 : starEach [.Name cn pc] X.env = [(false, eval (.Name cn pc) X.env)] := by rfl) (he : starEach [a, .Name cn pc] X.env = (false, eval a X.env) :: starEach [.Name cn pc] X.env := by rfl) (hpl : (backTo pos (starEach [.Name cn pc] X.env)).any (·.1) = false := by rfl) :
    JE k X E (.Call (.Name "isinstance" p) [a, .Name cn pc] [] pos) (eUn (isxD tab) ma) := by
  refine PE.imp (pe_callB (call_isX u) hg hm (by decide +kernel) (pa_cons ha (pa_cons hc pa_nil hs1) he) (by decide) (by decide) he hpl) fun s H Q h => ?_
  obtain ⟨e, G, L, μ, sg, w, gd⟩ := h
  refine ⟨e, G, L, μ, sg, w, Good.mono (Good.bind gd) fun d1 m1 G1 H1 L1 st1 w1 q1 y r1 => ?_⟩
  cases d1 with
  | err c' ds =>
    have q2 : Good k X.K E G1 H1 L1 ((match tab.lookup c' with | some b => (pure (.bl b) : M D) | none => M.bad) m1) (QV k X.K Q) := q1
    cases ht : tab.lookup c' with
    | none => rw [ht] at q2; exact False.elim q2
    | some b =>
      rw [ht] at q2
      obtain ⟨T, e1⟩ := F _ (lookup_memB ht)
      cases r1 with
      | @err _ a dx vs _ h1 h2 hl ra => exact ⟨a, k.cl c', some dx, c, b, rfl, w1.ext _ _ h1, fun d ed => (by cases ed; exact ⟨_, w1.ext _ _ h2⟩), T, one, e1, Good.ret q2 w1 _ (.bl _)⟩
      | @err0 _ a h0 h1 => exact ⟨a, k.cl c', none, c, b, rfl, w1.ext _ _ h1, fun d ed => (by cases ed), T, one, e1, Good.ret q2 w1 _ (.bl _)⟩
  | _ => exact False.elim q1
end
end DL

/-! DX25: errors with two fields, stored as a pair. -/
namespace DL
open PySem L2 PyProof.Rows
open PySem.W (ksFn ksEnv)
section
variable {prog : Program} {w : World} {A : Around} {E : Value → Shared → Prop} {R : Result → Shared → Prop} {K : PySem.W.Frag} {mg : Str → Option Value}
variable {st : Stmt} {qual slf : Str} {B newId initId : String} {tl : List Value} {C fI : Addr}
/-- a further field -/
theorem err_setB2 {s : Shared} {x t1 dx : Addr} {f f1 : Str} {u u1 : Value} {Q : Unit → Shared → Prop} (T : ErrB prog K st qual slf B newId initId tl C fI) (X : K.In s.heap) (hx : s.heap.get? x = some { HandSPX.excO C t1 with dict := some dx }) (hns : s.heap.Ns1 dx (fun y => if y = f1 then some u1 else none)) (nf : PySem.W.findIn K (.ref C) f = some none)
    (hq : ∀ h' tk, (∀ b o, b ≠ dx → s.heap.get? b = some o → h'.get? b = some o) → h'.Ns1 dx (fun y => if y = f then some u else if y = f1 then some u1 else none) → Q () { s with heap := h', toks := tk }) :
    wpAny (model prog w) A (setAttr (.ref x) f u) Q E s := by
  obtain ⟨od, ho, _⟩ := lookIn_ns hns
  have I : PySem.W.InstAt s.heap x { HandSPX.excO C t1 with dict := some dx } C (some od) := ⟨hx, rfl, rfl, ho⟩
  obtain ⟨cd, hc, hh⟩ := PySem.W.any_some T.xf.hdC
  refine PySem.W.set_plain X I T.sa ?_
  refine PySem.W.osa_openX T.SF X I T.ov (r := none) (by unfold PySem.W.takerIn; rw [nf]; rfl) fun b => ?_
  have hcls : PySem.W.Looks (model prog w) s.heap (classData C) cd := PySem.W.looks_clsIn X hc
  obtain ⟨hp, g, d, t, os⟩ := s
  show wpAny _ _ (Builtin.ObjectAttr.storeInOwnDict (.ref x) (.ref C) _ f u b) _ _ _
  have own : cd.hasDict = true := hh
  clear hh
  have hw : Within (fun y => if y = f1 then some u1 else none) [f1] := Within.cons f1 u1 Within.nil
  have hz : ([f1] : List Str).length ≤ 1000 := show 1 ≤ 1000 by decide
  cases cd with
  | mk nm bs mro ns qn hdct sn sb ab col del =>
    subst own
    unfold Builtin.ObjectAttr.storeInOwnDict Builtin.ObjectAttr.ownDictForStores
    repeat (first
      | refine OEX.store_in_old hns hw hz ?_
      | with_reducible refine wpAny_loadPart_at hx ?_
      | with_reducible refine hcls.at ?_
      | wp_step)
    intro h1 tk n1 same
    exact hq h1 tk (fun b o nb eb => (same.2 b nb).trans eb) n1
end
/-- __init__(slf, a, b): super's, then self.f, self.g = a, b -/
structure Ini2 (st : Stmt) (qual slf a b f g : Str) (fI : Addr) : Prop where
  ka : (defScope st).names.lookup a = some .local
  kb : (defScope st).names.lookup b = some .local
  na : slf ≠ a
  nb : slf ≠ b
  nab : a ≠ b
  nfg : f ≠ g
  da : (a == ("__debug__" : Str)) = false
  db : (b == ("__debug__" : Str)) = false
  ev : ∀ (L : Addr) (cd : Value) (cc : Addr), ∃ (sup : Stmt) (i j : Nat) (p0 p1 p2 p3 p4 p5 p6 p7 p8 : Pos), defBody st = sup :: [.Assign [.Tuple [.Attribute (.Name slf p0) f p1, .Attribute (.Name slf p2) g p3] i p4] (.Tuple [.Name a p5, .Name b p6] j p7) p8] ∧ SupEv (ksEnv qual (defScope st) L fI cd cc) sup ∧
    swapsWithSole [.Tuple [.Attribute (.Name slf p0) f p1, .Attribute (.Name slf p2) g p3] i p4] (.Tuple [.Name a p5, .Name b p6] j p7) p8.line (ksEnv qual (defScope st) L fI cd cc) = pure false ∧ swappedStores [.Tuple [.Attribute (.Name slf p0) f p1, .Attribute (.Name slf p2) g p3] i p4] (.Tuple [.Name a p5, .Name b p6] j p7) (ksEnv qual (defScope st) L fI cd cc) = pure none ∧
    (assignEach [.Tuple [.Attribute (.Name slf p0) f p1, .Attribute (.Name slf p2) g p3] i p4] (ksEnv qual (defScope st) L fI cd cc)).map (·.2) = [assign (.Tuple [.Attribute (.Name slf p0) f p1, .Attribute (.Name slf p2) g p3] i p4) (ksEnv qual (defScope st) L fI cd cc)] ∧
    assignEach [.Attribute (.Name slf p0) f p1, .Attribute (.Name slf p2) g p3] (ksEnv qual (defScope st) L fI cd cc) = [(false, assign (.Attribute (.Name slf p0) f p1) (ksEnv qual (defScope st) L fI cd cc)), (false, assign (.Attribute (.Name slf p2) g p3) (ksEnv qual (defScope st) L fI cd cc))] ∧
    starEach [.Name a p5, .Name b p6] (ksEnv qual (defScope st) L fI cd cc) = [(false, eval (.Name a p5) (ksEnv qual (defScope st) L fI cd cc)), (false, eval (.Name b p6) (ksEnv qual (defScope st) L fI cd cc))]
section
variable {k : Kx} {X : Cx} {E : XK} {st : Stmt} {qual slf a b f f2 x : Str} {B newId initId : String} {tl : List Value} {C fI : Addr} {lvl : Nat} {p pos : Pos}
theorem err_core2 {pins : List (Addr × Obj)} {s : Shared} {σ : L2.St} {H : Hp} {Q : VK} {y y2 : V} {u u2 : Value} {rest : List Value} {kw : List (Str × Value)} (T : ErrB X.prog X.K st qual slf B newId initId tl C fI) (J : Ini2 st qual slf a b f f2 fI) (nf : PySem.W.findIn X.K (.ref C) f = some none) (nf2 : PySem.W.findIn X.K (.ref C) f2 = some none) (hc : X.calm = true) (hr : Room (lvl + 1) X.A) (I : Inv X pins σ H s) (ry : RelV y u) (ry2 : RelV y2 u2) (hz : rest.length ≤ sizeLine)
    (bd : ∀ (s : Shared) (e : Addr) (kV doc pm : Value) (an : Option Addr) (cd ct : Value) (cc : Addr), BindsTo s (ksFn "__init__" qual (defArgs st) (defBody st) (defScope st) .none kV doc pm an cd ct cc) ⟨.ref e :: rest, kw⟩ [(slf, .ref e), (a, u), (b, u2)])
    (hq : ∀ e dx, H e = none → H dx = none → dx ≠ e → Q (.ref e) (upd (upd H dx (exd dx [(f, y), (f2, y2)])) e (exo e C (some dx)))) :
    wpAny (model X.prog X.w) X.A (call (.ref C) rest kw) (EP X pins σ Q) X.xe s := by
  obtain ⟨nm, N, qn, bs, bm, hdct, sn, sub, ab, col, dd, k0, k1, k2, k3, k5, hC, hT⟩ := PySem.W.excInit_of I.kIn T.q
  have Mo : L2.Mod X.K X.mg s.heap := ⟨I.kIn, I.mod.glob.keeps I.bk, let ⟨mb, b1, b2⟩ := I.mod.blt; ⟨mb, b1.keeps I.bk, b2⟩, I.nolimit⟩
  have hh : X.A.handled = none := I.ok.hd hc
  obtain ⟨hp, g, dr, tk, os⟩ := s
  have kk : ∀ b o, hp.get? b = some o → ((hp.push (PySem.W.kdv_tup rest)).push (HandSPX.excO C hp.objs.size)).get? b = some o := fun b o z => Heap.get?_push_of_some _ (Heap.get?_push_of_some _ z)
  have atE : ((hp.push (PySem.W.kdv_tup rest)).push (HandSPX.excO C hp.objs.size)).get? (hp.objs.size + 1) = some (HandSPX.excO C hp.objs.size) := by heap_get
  have Mo2 : L2.Mod X.K X.mg ((hp.push (PySem.W.kdv_tup rest)).push (HandSPX.excO C hp.objs.size)) := ⟨Mo.kin.keeps kk, Mo.glob.keeps kk, let ⟨mb, b1, b2⟩ := Mo.blt; ⟨mb, b1.keeps kk, b2⟩, Mo.nolimit.keeps kk⟩
  have noE : X.K.lookup (hp.objs.size + 1) = none := by
    cases z : X.K.lookup (hp.objs.size + 1) with
    | none => rfl
    | some o => exact absurd (Heap.lt_size (Mo.kin _ _ z)) (by show ¬ hp.objs.size + 1 < hp.objs.size; omega)
  have e1 : (slf == a) = false := by simpa using J.na
  have e2 : (slf == b) = false := by simpa using J.nb
  have e3 : (a == b) = false := by simpa using J.nab
  refine wpAny_call (callK T.FB hT hC (PySem.W.looks_findIn I.kIn T.iC) (fun slf => PySem.W.bind_fn I.kIn slf T.tI) hz ?_)
  refine err_run (vs := [(a, u), (b, u2)]) (rest := (defBody st).tail) T Mo2 atE noE (hr.make C rest kw).depth (fun y hy => ?_) (by simp [List.lookup, e1, e2]) (fun kV doc pm an cd ct cc => bd _ _ kV doc pm an cd ct cc) (fun L cd cc => ?_) (fun L cd cc A' h2 t1 tk2 hA ns2 kin2 he2 kp2 big => ?_)
  · simp only [List.mem_cons, List.not_mem_nil, or_false] at hy
    rcases hy with rfl | rfl
    · exact J.ka
    · exact J.kb
  · obtain ⟨sup, i, j, p0, p1, p2, p3, p4, p5, p6, p7, p8, hb, hs, _⟩ := J.ev L cd cc
    exact ⟨sup, by rw [hb]; rfl, hs⟩
  · obtain ⟨sup, i, j, p0, p1, p2, p3, p4, p5, p6, p7, p8, hb, hs, sw, sws, ae, ae2, se⟩ := J.ev L cd cc
    rw [show (defBody st).tail = [.Assign [.Tuple [.Attribute (.Name slf p0) f p1, .Attribute (.Name slf p2) f2 p3] i p4] (.Tuple [.Name a p5, .Name b p6] j p7) p8] by rw [hb]; rfl]
    have hA' : A'.handled = none := hA.trans hh
    have mself : (fun x => [(slf, Value.ref (hp.objs.size + 1)), (a, u), (b, u2)].reverse.lookup x) slf = some (.ref (hp.objs.size + 1)) := by simp [List.lookup, e1, e2]
    have ma : (fun x => [(slf, Value.ref (hp.objs.size + 1)), (a, u), (b, u2)].reverse.lookup x) a = some u := by simp [List.lookup, e3]
    have mb : (fun x => [(slf, Value.ref (hp.objs.size + 1)), (a, u), (b, u2)].reverse.lookup x) b = some u2 := by simp [List.lookup]
    refine wpAny_execs_cons (wpAny_Assign_stores (wpAny_Tuple_spliced ?_) sw sws)
    rw [se]
    refine Calls.spliced_cons (wpAny_Name (wpAny_loadName_local T.sc.kind J.ka ns2 ma ?_) J.da)
    refine Calls.spliced_cons (wpAny_Name (wpAny_loadName_local T.sc.kind J.kb ns2 mb ?_) J.db)
    refine Calls.spliced_nil ⟨show 2 ≤ sizeLine by decide, ?_⟩
    rw [ae]
    refine assign_Tuple_tuple (items := #[u, u2]) hA' ⟨_, Heap.get?_push_size _ rfl, rfl, _, rfl⟩ (by rw [ae2]; rfl) (by rw [ae2]; rfl) fun h3 hx3 => ?_
    rw [ae2]
    have up3 : ∀ b o, h2.get? b = some o → h3.get? b = some o := fun b o z => hx3 b o (Nat.ne_of_lt (Heap.lt_size (Heap.get?_push_of_some { cls := .type "tuple", data := .seq #[u, u2] } z))) (Heap.get?_push_of_some _ z)
    have ns3 := ns2.keeps up3
    have kin3 : X.K.In h3 := kin2.keeps up3
    have he3 := up3 _ _ he2
    have big3 : h2.objs.size ≤ h3.objs.size := by
      have q := Heap.lt_size (hx3 h2.objs.size _ (by rw [Heap.size_push]; exact Nat.ne_of_lt (Nat.lt_succ_self _)) (Heap.get?_push_size _ rfl))
      exact Nat.le_of_lt q
    show wpAny _ _ (assignInOrder [assign (.Attribute (.Name slf p0) f p1) _, assign (.Attribute (.Name slf p2) f2 p3) _] [u, u2]) _ _ _
    refine assignInOrder_cons ?_
    rw [assign_Attribute]
    refine wpAny_bind (wpAny_holding (wpAny_Name (wpAny_loadName_local T.sc.kind T.sc.ks ns3 mself (wpAny_bind (wpAny_standAt (wpAny_bind (wpAny_holding ?_))))) T.sc.ds))
    refine err_setB T kin3 he3 nf fun h4 tk4 dx kp4 dn de hx4 n4 => wpAny_release ?_
    have eL : hp.objs.size + 1 ≠ L := fun z => by
      obtain ⟨oL, es, ep, hL, r⟩ := ns2
      rw [← z, he2] at hL
      cases hL
      exact absurd r.1 (by simp)
    have ns4 : h4.Ns L (fun x => [(slf, Value.ref (hp.objs.size + 1)), (a, u), (b, u2)].reverse.lookup x) := by
      obtain ⟨oL, es, ep, hL, r⟩ := ns3
      exact ⟨oL, es, ep, kp4 _ _ (Ne.symm eL) hL, r⟩
    have kin4 : X.K.In h4 := fun b o q => kp4 b o (fun z => by
      rw [z, noE] at q
      cases q) (kin3 b o q)
    refine assignInOrder_cons ?_
    rw [assign_Attribute]
    refine wpAny_bind (wpAny_holding (wpAny_Name (wpAny_loadName_local T.sc.kind T.sc.ks ns4 mself (wpAny_bind (wpAny_standAt (wpAny_bind (wpAny_holding ?_))))) T.sc.ds))
    refine err_setB2 T kin4 hx4 n4 nf2 fun h5 tk5 kp5 n5 => wpAny_release (assignInOrder_nil (wpAny_execs_nil ⟨rfl, rfl, ?_⟩))
    have hx5 := kp5 _ _ (Ne.symm de) hx4
    obtain ⟨G, g1, g2⟩ := restrict h5 fun b => decide (b ≠ hp.objs.size + 1)
    have gk : ∀ {b : Addr}, b ≠ hp.objs.size + 1 → G.get? b = h5.get? b := fun {b} nb => g1 b (decide_eq_true nb)
    have ge : G.get? (hp.objs.size + 1) = none := g2 _ (by simp)
    have low : ∀ {b : Addr} {o : Obj}, hp.get? b = some o → b ≠ hp.objs.size + 1 := fun {b o} z => Nat.ne_of_lt (Nat.lt_succ_of_lt (Heap.lt_size z))
    have dn2 : hp.objs.size ≤ dx := Nat.le_trans (Nat.le_trans (Nat.le_trans (by show hp.objs.size ≤ ((hp.push _).push _).objs.size; rw [Heap.size_push, Heap.size_push]; omega) big) big3) dn
    have nd : ∀ {b : Addr} {o : Obj}, hp.get? b = some o → b ≠ dx := fun {b o} z => Nat.ne_of_lt (Nat.lt_of_lt_of_le (Heap.lt_size z) dn2)
    have new : ObjOk X.prog X.w (upd H dx (exd dx [(f, y), (f2, y2)])) G dx (exd dx [(f, y), (f2, y2)]) := exd_ok (n5.at fun o z => (gk de).trans z) fun n => by
      rw [lookup_put, lookup_put]
      by_cases q1 : n = f
      · subst q1
        rw [if_pos rfl, if_neg J.nfg, if_pos rfl]
        exact ry
      · by_cases q2 : n = f2
        · subst q2
          rw [if_neg q1, if_pos rfl, if_pos rfl]
          exact ry2
        · rw [if_neg q1, if_neg q2, if_neg q2, if_neg q1]
          exact True.intro
    have hE : H (hp.objs.size + 1) = none := I.hok.fresh (Nat.le_succ _)
    have hD : H dx = none := I.hok.fresh dn2
    have I2 : Inv X pins σ (upd H dx (exd dx [(f, y), (f2, y2)])) ⟨G, g, dr, tk5, os⟩ := I.laid (t' := tk5) (h' := G) (fun b o z => (gk (low z)).trans (kp5 b o (nd z) (kp4 b o (low z) (up3 b o (kp2 b o (low z) (kk b o z)))))) dn2 new
    have I3 := I2.laidN (h' := h5) (a := hp.objs.size + 1) (o := exo (hp.objs.size + 1) C (some dx)) (t' := tk5) (fun b o z => by
      by_cases hb : b = hp.objs.size + 1
      · rw [hb, ge] at z
        cases z
      · exact (gk hb).symm.trans z) ge (by rw [upd_ne (Ne.symm de)]; exact hE) (exo_ok hx5)
    exact ⟨.ref (hp.objs.size + 1), _, I3, rfl, hq _ _ hE hD de⟩
end
end DL

/-! DX26: errors with two fields as data; isinstance against three built-in classes; repr of data with dicts anywhere. -/
namespace DL
open PySem L2 PyProof.Rows
open PySem.W (ksFn ksEnv)
section
variable {k : Kx} {X : Cx} {E : XK} {st : Stmt} {qual slf a b f f2 x : Str} {B newId initId : String} {tl : List Value} {C fI : Addr} {lvl : Nat} {p pos : Pos}
def tE2 (C : Addr) (f f2 : Str) (ts : TA) : TE := fun σ H Q => ts σ H fun vs H1 => match vs with
  | [y, y2] => ∀ e dx, H1 e = none → H1 dx = none → dx ≠ e → Q (.ref e) (upd (upd H1 dx (exd dx [(f, y), (f2, y2)])) e (exo e C (some dx)))
  | _ => False
/-- the second field's keyword first -/
def tE2S (C : Addr) (f f2 : Str) (ts : TA) : TE := fun σ H Q => ts σ H fun vs H1 => match vs with
  | [y2, y] => ∀ e dx, H1 e = none → H1 dx = none → dx ≠ e → Q (.ref e) (upd (upd H1 dx (exd dx [(f, y), (f2, y2)])) e (exo e C (some dx)))
  | _ => False
def Bd2 (st : Stmt) (qual slf a b : Str) (kw : Bool) : Prop := ∀ (s : Shared) (e : Addr) (u u2 kV doc pm : Value) (an : Option Addr) (cd ct : Value) (cc : Addr),
  BindsTo s (ksFn "__init__" qual (defArgs st) (defBody st) (defScope st) .none kV doc pm an cd ct cc) (if kw = true then ⟨[.ref e], [(b, u2), (a, u)]⟩ else ⟨[.ref e, u, u2], []⟩) [(slf, .ref e), (a, u), (b, u2)]
theorem pe_err2 {e1 e2 : Expr} {ts : TA} (T : ErrB X.prog X.K st qual slf B newId initId tl C fI) (J : Ini2 st qual slf a b f f2 fI) (nf : PySem.W.findIn X.K (.ref C) f = some none) (nf2 : PySem.W.findIn X.K (.ref C) f2 = some none) (hc : X.calm = true) (bd : Bd2 st qual slf a b false) (hr : Room (lvl + 1) X.A) (hg : Gl X x) (hm : X.mg x = some (.ref C)) (ha : PA X [e1, e2] ts)
    (hs : starEach [e1, e2] X.env = (false, eval e1 X.env) :: starEach [e2] X.env) (hpl : (backTo pos (starEach [e2] X.env)).any (·.1) = false) (hdb : (x == ("__debug__" : Str)) = false) : PE X (.Call (.Name x p) [e1, e2] [] pos) (tE2 C f f2 ts) := by
  refine ⟨fun pins s σ H Q I h => ?_⟩
  refine wpAny_Call_Name_kw (ld_glob I hg hm ?_ hdb)
  refine PySem.W.callWith_K (h₀ := X.base) I.ok.mod.kin T.kp (thn (ha.run pos pins s σ H _ I h) fun us s1 ⟨vs, H1, I1, r, q⟩ => ⟨I1.kIn, ?_⟩) hs hpl
  match vs, r, q with
  | [y, y2], r, q =>
    obtain ⟨u, u2, rfl, r1, r2⟩ := r.two
    exact err_core2 (rest := [u, u2]) (kw := []) T J nf nf2 hc hr I1 r1 r2 (show 2 ≤ sizeLine by decide) (fun s e kV doc pm an cd ct cc => bd s e u u2 kV doc pm an cd ct cc) q
  | [], _, q => exact False.elim q
  | [_], _, q => exact False.elim q
  | _ :: _ :: _ :: _, _, q => exact False.elim q
theorem pe_err2K {e1 e2 : Expr} {ts : TA} {k1 k2 : Pos} (T : ErrB X.prog X.K st qual slf B newId initId tl C fI) (J : Ini2 st qual slf a b f f2 fI) (nf : PySem.W.findIn X.K (.ref C) f = some none) (nf2 : PySem.W.findIn X.K (.ref C) f2 = some none) (hc : X.calm = true) (bd : Bd2 st qual slf a b true) (hr : Room (lvl + 1) X.A) (hg : Gl X x) (hm : X.mg x = some (.ref C)) (hk : PK X [⟨some b, e2, k2⟩, ⟨some a, e1, k1⟩] ts) (hdb : (x == ("__debug__" : Str)) = false) :
    PE X (.Call (.Name x p) [] [⟨some b, e2, k2⟩, ⟨some a, e1, k1⟩] pos) (tE2S C f f2 ts) := by
  refine ⟨fun pins s σ H Q I h => ?_⟩
  refine wpAny_Call_Name_kw (ld_glob I hg hm ?_ hdb)
  refine PySem.W.callWith_KW0 (h₀ := X.base) I.ok.mod.kin T.kp rfl ?_ rfl
  refine thn (hk.run pos pins s σ H _ I h) fun ws s2 ⟨zs, H2, I2, rz, q2⟩ => ⟨I2.kIn, ?_⟩
  match zs, rz, q2 with
  | [y2, y], rz, q2 =>
    obtain ⟨u2, u, rfl, r2, r1⟩ := rz.two
    exact err_core2 (rest := []) (kw := [(b, u2), (a, u)]) T J nf nf2 hc hr I2 r1 r2 (by decide) (fun s e kV doc pm an cd ct cc => bd s e u u2 kV doc pm an cd ct cc) q2
  | [], _, q => exact False.elim q
  | [_], _, q => exact False.elim q
  | _ :: _ :: _ :: _, _, q => exact False.elim q
theorem PK.imp {kws : List Keyword} {t t' : TA} (h : PK X kws t) (g : ∀ σ H Q, t' σ H Q → t σ H Q) : PK X kws t' := ⟨fun pos pins s σ H Q I z => h.run pos pins s σ H Q I (g _ _ _ z)⟩
theorem jk_nil : PK X [] (dA k X.K E aNil) := by
  refine PK.imp pk_nil fun s H Q h => ?_
  obtain ⟨e, G, L, μ, sg, w, gd⟩ := h
  exact Good.ret gd w [] .nil
theorem jk_cons {nm : Option Str} {kp : Pos} {e0 : Expr} {kws : List Keyword} {ma : DEnv → M D} {ms : DEnv → M (List D)} (ha : JE k X E e0 ma) (hr : PK X kws (dA k X.K E ms)) : PK X (⟨nm, e0, kp⟩ :: kws) (dA k X.K E (aCons ma ms)) := by
  refine PK.imp (pk_cons ha hr) fun s H Q h => ?_
  obtain ⟨e, G, L, μ, sg, w, gd⟩ := h
  refine ⟨e, G, L, μ, sg, w, Good.mono (Good.bind gd) fun d1 m1 G1 H1 L1 st1 w1 q1 x r1 => ?_⟩
  refine ⟨e, G1, L1, m1, sg.mono st1.g st1.l, w1, Good.mono (Good.bind q1) fun d2 m2 G2 H2 L2 st2 w2 q2 xs r2 => ?_⟩
  exact Good.ret q2 w2 _ (.cons (Rp.mono st2.g st2.l _ _ r1) r2)
def err2D (c : Nat) : List D → M D
  | [d, d2] => pure (.err c [d, d2])
  | _ => M.bad
def err2S (c : Nat) : List D → M D
  | [d2, d] => pure (.err c [d, d2])
  | _ => M.bad
theorem err2_good {c : Nat} {d d2 : D} {y y2 : V} {G1 H1 : Hp} {L1 : Lam} {m1 : Store} {Q : VK} (hf : k.xf c = [f, f2]) (w1 : Wd k X.K G1 H1 L1 m1) (r1 : Rp k X.K G1 L1 y d) (r2 : Rp k X.K G1 L1 y2 d2) (q1 : Good k X.K E G1 H1 L1 ((pure (.err c [d, d2]) : M D) m1) (QV k X.K Q)) :
    ∀ e dx, H1 e = none → H1 dx = none → dx ≠ e → Q (.ref e) (upd (upd H1 dx (exd dx [(f, y), (f2, y2)])) e (exo e (k.cl c) (some dx))) := by
  intro a dx ha hd ne
  have w2 := w1.new (o := exd dx [(f, y), (f2, y2)]) hd nt_exd
  have s2 := w1.newS (o := exd dx [(f, y), (f2, y2)]) hd
  have ha2 : upd H1 dx (exd dx [(f, y), (f2, y2)]) a = none := by rw [upd_ne (Ne.symm ne)]; exact ha
  have w3 := w2.new (o := exo a (k.cl c) (some dx)) ha2 nt_exo
  have s3 := w2.newS (o := exo a (k.cl c) (some dx)) ha2
  refine q1 _ _ _ (s2.trans s3) w3 _ (.err (dx := dx) (vs := [y, y2]) upd_same ?_ (by rw [hf]; rfl) ?_)
  · rw [upd_ne ne, upd_same, hf]
    rfl
  · exact RpA.mono (s2.trans s3).g (s2.trans s3).l _ _ (.cons r1 (.cons r2 .nil))
theorem j_err2 {e0 : Expr} {ms : DEnv → M (List D)} {c : Nat} (h : PE X e0 (tE2 (k.cl c) f f2 (dA k X.K E ms))) (hf : k.xf c = [f, f2]) : JE k X E e0 (eCallB (err2D c) ms) := by
  refine PE.imp h fun s H Q h => ?_
  obtain ⟨e, G, L, μ, sg, w, gd⟩ := h
  refine ⟨e, G, L, μ, sg, w, Good.mono (Good.bind gd) fun ds m1 G1 H1 L1 st1 w1 q1 vs r => ?_⟩
  match ds, r, q1 with
  | [d, d2], r, q1 =>
    obtain ⟨y, y2, rfl, r1, r2⟩ := two_of (H := H1) r
    exact err2_good hf w1 r1 r2 q1
  | [], _, q => exact False.elim q
  | [_], _, q => exact False.elim q
  | _ :: _ :: _ :: _, _, q => exact False.elim q
theorem j_err2S {e0 : Expr} {ms : DEnv → M (List D)} {c : Nat} (h : PE X e0 (tE2S (k.cl c) f f2 (dA k X.K E ms))) (hf : k.xf c = [f, f2]) : JE k X E e0 (eCallB (err2S c) ms) := by
  refine PE.imp h fun s H Q h => ?_
  obtain ⟨e, G, L, μ, sg, w, gd⟩ := h
  refine ⟨e, G, L, μ, sg, w, Good.mono (Good.bind gd) fun ds m1 G1 H1 L1 st1 w1 q1 vs r => ?_⟩
  match ds, r, q1 with
  | [d2, d], r, q1 =>
    obtain ⟨y2, y, rfl, r2, r1⟩ := two_of (H := H1) r
    exact err2_good hf w1 r1 r2 q1
  | [], _, q => exact False.elim q
  | [_], _, q => exact False.elim q
  | _ :: _ :: _ :: _, _, q => exact False.elim q
theorem xa_two0 {K : PySem.W.Frag} {c : Nat} (xf : XfC K (k.cl c)) (no : PySem.W.findIn K (.ref (k.cl c)) f = some none) (hf : k.xf c = [f, f2]) : XA k K f c 0 := ⟨xf, no, fun vs hl => by
  rw [hf] at hl ⊢
  match vs, hl with
  | [v, v2], _ => simp [List.lookup]⟩
theorem xa_two1 {K : PySem.W.Frag} {c : Nat} (xf : XfC K (k.cl c)) (no : PySem.W.findIn K (.ref (k.cl c)) f2 = some none) (hf : k.xf c = [f, f2]) (ne : (f2 == f) = false) : XA k K f2 c 1 := ⟨xf, no, fun vs hl => by
  rw [hf] at hl ⊢
  match vs, hl with
  | [v, v2], _ => simp [List.lookup, ne]⟩
/-! ### isinstance against a tuple of three built-in classes -/
def rIsXT (K : PySem.W.Frag) : List V → Hp → VK → Prop := fun xs H Q => ∃ (a C tp : Addr) (dx : Option Addr) (cs : List V) (us : List Value) (b : Bool), xs = [.ref a, .ref tp] ∧ H a = some (exo a C dx) ∧ (∀ d, dx = some d → ∃ fs, H d = some (exd d fs)) ∧ H tp = some (.tup cs) ∧ Paired ClsV cs us ∧ ExcC K C ∧ PySem.W.kitAny K (.ref C) us = some b ∧ Q (.bl b) H
theorem call_isXT : CallR X (.builtin "isinstance") (rIsXT X.K) := by
  intro pins s σ H xs us Q I r h
  obtain ⟨a, C, tp, dx, cs, ws, b, rfl, ha, hd, hT, kk, T, e, q⟩ := h
  obtain ⟨u1, u2, rfl, r1, r2⟩ := r.two
  cases (show u1 = Value.ref a from r1)
  cases (show u2 = Value.ref tp from r2)
  obtain ⟨oe, od, J⟩ := exo_inst I ha hd
  obtain ⟨cd, hc, _⟩ := PySem.W.any_some T.hd
  obtain ⟨_, its, rv, o, h1, h2, n, h3⟩ := (show ObjOk X.prog X.w H s.heap tp (.tup cs) from I.hok tp _ hT)
  have e3 := ClsV.all kk rv
  subst e3
  obtain ⟨oc, od', dt, sl'⟩ := o
  simp only at h2 h3
  subst h2 h3
  exact PySem.W.kia_tup (PySem.W.kitx_exc (by rw [hc]; rfl) T.hg T.hk T.hs T.ha T.hn T.ht T.hm) I.kIn J h1 e (fun z => nomatch z) fun tk => ⟨.bl b, H, I.kept (t' := tk) fun _ _ z => z, rfl, q⟩
theorem xt_nil {K : PySem.W.Frag} {us : List Value} : ∀ q ∈ ([] : List (Nat × Bool)), ExcC K (k.cl q.1) ∧ PySem.W.kitAny K (.ref (k.cl q.1)) us = some q.2 := fun _ h => nomatch h
theorem xt_cons {K : PySem.W.Frag} {us : List Value} {c : Nat} {b : Bool} {r : List (Nat × Bool)} (h1 : ExcC K (k.cl c)) (h2 : PySem.W.kitAny K (.ref (k.cl c)) us = some b) (hr : ∀ q ∈ r, ExcC K (k.cl q.1) ∧ PySem.W.kitAny K (.ref (k.cl q.1)) us = some q.2) : ∀ q ∈ (c, b) :: r, ExcC K (k.cl q.1) ∧ PySem.W.kitAny K (.ref (k.cl q.1)) us = some q.2 := fun q hq => by
  rcases List.mem_cons.mp hq with rfl | hq
  · exact ⟨h1, h2⟩
  · exact hr q hq
theorem kit_no3 {K : PySem.W.Frag} {t u1 u2 u3 : Value} (h1 : PySem.W.kitOne K t u1 = some false) (h2 : PySem.W.kitOne K t u2 = some false) (h3 : PySem.W.kitOne K t u3 = some false) : PySem.W.kitAny K t [u1, u2, u3] = some false :=
  kitAny_cons h1 (fun _ => kitAny_cons h2 (fun _ => kitAny_cons h3 (fun _ => kitAny_nil) fun z => by cases z) fun z => by cases z) fun z => by cases z
theorem j_isx3 {a : Expr} {ma : DEnv → M D} {p1 p2 p3 p4 : Pos} {kk : Nat} {x1 x2 x3 : Str} {t1 t2 t3 : String} {tab : List (Nat × Bool)} (F : ∀ q ∈ tab, ExcC X.K (k.cl q.1) ∧ PySem.W.kitAny X.K (.ref (k.cl q.1)) [.type t1, .type t2, .type t3] = some q.2) (hg : Gl X "isinstance") (hm : X.mg "isinstance" = none)
    (h1 : PE X (.Name x1 p1) (tC (.ty t1))) (h2 : PE X (.Name x2 p2) (tC (.ty t2))) (h3 : PE X (.Name x3 p3) (tC (.ty t3))) (ha : JE k X E a ma)
    (s3 : starEach [.Name x3 p3] X.env = [(false, eval (.Name x3 p3) X.env)] := by rfl) (s2 : starEach [.Name x2 p2, .Name x3 p3] X.env = (false, eval (.Name x2 p2) X.env) :: starEach [.Name x3 p3] X.env := by rfl)
    (s1 : starEach [.Name x1 p1, .Name x2 p2, .Name x3 p3] X.env = (false, eval (.Name x1 p1) X.env) :: starEach [.Name x2 p2, .Name x3 p3] X.env := by rfl)
    (st : starEach [.Tuple [.Name x1 p1, .Name x2 p2, .Name x3 p3] kk p4] X.env = [(false, eval (.Tuple [.Name x1 p1, .Name x2 p2, .Name x3 p3] kk p4) X.env)] := by rfl)
    (he : starEach [a, .Tuple [.Name x1 p1, .Name x2 p2, .Name x3 p3] kk p4] X.env = (false, eval a X.env) :: starEach [.Tuple [.Name x1 p1, .Name x2 p2, .Name x3 p3] kk p4] X.env := by rfl)
    (hpl : (backTo pos (starEach [.Tuple [.Name x1 p1, .Name x2 p2, .Name x3 p3] kk p4] X.env)).any (·.1) = false := by rfl) :
    JE k X E (.Call (.Name "isinstance" p) [a, .Tuple [.Name x1 p1, .Name x2 p2, .Name x3 p3] kk p4] [] pos) (eUn (isxD tab) ma) := by
  refine PE.imp (pe_callB call_isXT hg hm (by decide +kernel) (pa_cons ha (pa_cons (pe_tup (pa_cons h1 (pa_cons h2 (pa_cons h3 pa_nil s3) s2) s1)) pa_nil st) he) (by decide) (by decide) he hpl) fun s H Q h => ?_
  obtain ⟨e, G, L, μ, sg, w, gd⟩ := h
  refine ⟨e, G, L, μ, sg, w, Good.mono (Good.bind gd) fun d1 m1 G1 H1 L1 st1 w1 q1 y r1 => ⟨by show 3 ≤ sizeLine; decide, fun tp htp => ?_⟩⟩
  have w2 := w1.junk (o := .tup [V.ty t1, V.ty t2, V.ty t3]) htp
  have kp : Paired ClsV [V.ty t1, V.ty t2, V.ty t3] [.type t1, .type t2, .type t3] := .cons (.ty _) (.cons (.ty _) (.cons (.ty _) .nil))
  have q1' := Good.up q1 (junkS (G := G1) (L := L1) (o := .tup [V.ty t1, V.ty t2, V.ty t3]) htp)
  cases d1 with
  | err c' ds =>
    have q2 : Good k X.K E G1 (upd H1 tp (.tup [V.ty t1, V.ty t2, V.ty t3])) L1 ((match tab.lookup c' with | some b => (pure (.bl b) : M D) | none => M.bad) m1) (QV k X.K Q) := q1'
    cases ht : tab.lookup c' with
    | none => rw [ht] at q2; exact False.elim q2
    | some b =>
      rw [ht] at q2
      obtain ⟨T, e1⟩ := F _ (lookup_memB ht)
      cases r1 with
      | @err _ a dx vs _ h1 h2 hl ra => exact ⟨a, k.cl c', tp, some dx, _, _, b, rfl, w2.ext _ _ h1, fun d ed => (by cases ed; exact ⟨_, w2.ext _ _ h2⟩), upd_same, kp, T, e1, Good.ret q2 w2 _ (.bl _)⟩
      | @err0 _ a h0 h1 => exact ⟨a, k.cl c', tp, none, _, _, b, rfl, w2.ext _ _ h1, fun d ed => (by cases ed), upd_same, kp, T, e1, Good.ret q2 w2 _ (.bl _)⟩
  | _ => exact False.elim q1'
end
end DL

/-! DX27: repr of data with dicts anywhere. -/
namespace DL
open PySem L2 PyProof.Rows
mutual
def toPX : D → Option PyData
  | .non => some .none
  | .bl b => some (.bool b)
  | .int i => some (.int i)
  | .str s => some (.str s)
  | .lst ds => (toPXs ds).map .list
  | .tup ds => (toPXs ds).map .tuple
  | .dct ks ds => (toPXs ds).map fun xs => .dict ((ks.map keyPD).zip xs)
  | _ => none
def toPXs : List D → Option (List PyData)
  | [] => some []
  | d :: ds => match toPX d, toPXs ds with
    | some x, some xs => some (x :: xs)
    | _, _ => none
end
theorem toPXs_cons {d : D} {ds : List D} {xs : List PyData} (h : toPXs (d :: ds) = some xs) : ∃ y ys, xs = y :: ys ∧ toPX d = some y ∧ toPXs ds = some ys := by
  rw [toPXs] at h
  cases e1 : toPX d with
  | none => rw [e1] at h; cases h
  | some y =>
    cases e2 : toPXs ds with
    | none => rw [e1, e2] at h; cases h
    | some ys =>
      rw [e1, e2] at h
      cases h
      exact ⟨y, ys, rfl, rfl, rfl⟩
theorem toPXs_len : ∀ {ds : List D} {xs : List PyData}, toPXs ds = some xs → xs.length = ds.length
  | [], _, h => by rw [toPXs] at h; cases h; rfl
  | d :: ds, xs, h => by
    obtain ⟨y, ys, rfl, _, e2⟩ := toPXs_cons h
    simp [toPXs_len e2]
section
variable {k : Kx} {X : Cx} {E : XK}
section
variable {pins : List (Addr × Obj)} {σ : L2.St} {H G : Hp} {L : Lam} {s : Shared}
theorem no_sys (hsy : SysD X.base) (I : Inv X pins σ H s) {a : Addr} {o : Obj} {vs : Array Value} {n : Nat} (ho : s.heap.get? a = some o) (hd : o.data = .seq vs n) : a ≠ sysModules := by
  rintro rfl
  obtain ⟨mm, o', es, ep, e, d, _⟩ := hsy
  have z := I.bk _ _ e
  rw [ho] at z
  cases z
  rw [hd] at d
  cases d
mutual
theorem rd2 (hsy : SysD X.base) (I : Inv X pins σ H s) (e : Same G H) : ∀ (d : D) (v : V) (u : Value) (x : PyData), Rp k X.K G L v d → RelV v u → toPX d = some x → ∃ as, Reads s.heap u x as ∧ sysModules ∉ as
  | .non, _, _, _, h, r, t => by
    cases h
    cases r
    rw [toPX] at t
    cases t
    exact ⟨_, Reads.none, by simp⟩
  | .bl b, _, _, _, h, r, t => by
    cases h
    cases r
    rw [toPX] at t
    cases t
    exact ⟨_, Reads.bool b, by simp⟩
  | .int i, _, _, _, h, r, t => by
    cases h
    obtain ⟨n, rfl⟩ := r
    rw [toPX] at t
    cases t
    exact ⟨_, Reads.int i n, by simp⟩
  | .str i, _, _, _, h, r, t => by
    cases h
    obtain ⟨n, rfl⟩ := r
    rw [toPX] at t
    cases t
    exact ⟨_, Reads.str i n, by simp⟩
  | .lst ds, _, _, _, h, r, t => by
    cases h with
    | lst hs ha =>
      cases r
      rw [toPX] at t
      cases e2 : toPXs ds with
      | none => rw [e2] at t; cases t
      | some ys =>
        rw [e2] at t
        cases t
        obtain ⟨its, rv, ⟨o, n, ho, hc, _, hd⟩, _⟩ := I.list (e.seq hs)
        obtain ⟨as, hr, hn⟩ := rd2A hsy I e ds _ its ys ha rv e2
        exact ⟨_, Reads.list ho hc hd hr, fun z => by
          rcases List.mem_cons.mp z with z | z
          · exact no_sys hsy I ho hd z.symm
          · exact hn z⟩
  | .tup ds, _, _, _, h, r, t => by
    cases h with
    | tup hs ha =>
      cases r
      rw [toPX] at t
      cases e2 : toPXs ds with
      | none => rw [e2] at t; cases t
      | some ys =>
        rw [e2] at t
        cases t
        obtain ⟨its, rv, ⟨o, ho, hc, n, hd⟩, _⟩ := I.tuple (sqT_mono e hs)
        obtain ⟨as, hr, hn⟩ := rd2A hsy I e ds _ its ys ha rv e2
        exact ⟨_, Reads.tuple ho hc hd hr, hn⟩
  | .dct ks ds, _, _, _, h, r, t => by
    cases h with
    | dct hs hl ha =>
      cases r
      rw [toPX] at t
      cases e2 : toPXs ds with
      | none => rw [e2] at t; cases t
      | some ys =>
        rw [e2] at t
        cases t
        obtain ⟨_, hsm, ws, rk, o, es, ep, ho, ex, hd, _, pr, _⟩ := dk_of I.hok (e _ _ hs)
        obtain ⟨r1, r2⟩ := pairs_reads (h := s.heap) hl rk pr
        obtain ⟨bs, r3, hn⟩ := rd2A hsy I e ds _ _ ys ha r2 e2
        have hlk : (ks.map keyPD).length = ys.length := by rw [List.length_map, hl, ha.len, toPXs_len e2]
        refine ⟨_, Reads.dict ho ex.1 hd (by rw [List.map_fst_zip (by omega)]; exact r1) (by rw [List.map_snd_zip (by omega)]; exact r3), fun z => ?_⟩
        rcases List.mem_append.mp z with z | z
        · rcases List.mem_cons.mp z with z | z
          · rw [← z] at hsm
            simp at hsm
          · cases z
        · exact hn z
  | .loc _, _, _, _, _, _, t => by simp only [toPX] at t; cases t
  | .obj _ _, _, _, _, _, _, t => by simp only [toPX] at t; cases t
  | .cls _, _, _, _, _, _, t => by simp only [toPX] at t; cases t
  | .fdc _ _, _, _, _, _, _, t => by simp only [toPX] at t; cases t
  | .err _ _, _, _, _, _, _, t => by simp only [toPX] at t; cases t
theorem rd2A (hsy : SysD X.base) (I : Inv X pins σ H s) (e : Same G H) : ∀ (ds : List D) (vs : List V) (us : List Value) (xs : List PyData), RpA k X.K G L vs ds → Vals vs us → toPXs ds = some xs → ∃ as, ReadsAll s.heap us xs as ∧ sysModules ∉ as
  | [], _, _, _, h, r, t => by
    cases h
    cases r
    rw [toPXs] at t
    cases t
    exact ⟨_, ReadsAll.nil, by simp⟩
  | d :: ds, _, _, _, h, r, t => by
    cases h with
    | cons h1 h2 =>
      cases r with
      | cons r1 r2 =>
        obtain ⟨y, ys, rfl, e1, e2⟩ := toPXs_cons t
        obtain ⟨as, q1, n1⟩ := rd2 hsy I e d _ _ y h1 r1 e1
        obtain ⟨bs, q2, n2⟩ := rd2A hsy I e ds _ _ ys h2 r2 e2
        exact ⟨_, ReadsAll.cons q1 q2, fun z => (List.mem_append.mp z).elim n1 n2⟩
end
end
def rRepr3 (k : Kx) (K : PySem.W.Frag) : List V → Hp → VK → Prop := fun xs H Q => ∃ (v : V) (d : D) (x : PyData) (G : Hp) (L : Lam), xs = [v] ∧ Same G H ∧ Rp k K G L v d ∧ toPX d = some x ∧ x.showable = true ∧ x.shown.length ≤ sizeLine ∧ x.depth ≤ 64 ∧ Q (.str x.shown) H
theorem cr_repr3 (hsy : SysD X.base) (hgd : X.A.guards = some []) (hu : X.A.units + 66 < cLine) : CallR X (.builtin "repr") (rRepr3 k X.K) := by
  intro pins s σ H xs us Q I r h
  obtain ⟨v, d, x, G, L, rfl, ex, rp, tx, sh, sz, dep, q⟩ := h
  cases r with
  | @cons _ u _ _ rx r0 =>
    cases r0
    obtain ⟨as, rd, hn⟩ := rd2 hsy I ex d v u x rp rx tx
    cases rd with
    | none => exact PySem.P.repr_of_none ⟨.str _, H, I.tok _, ⟨_, rfl⟩, q⟩
    | bool b => exact PySem.P.repr_of_bool ⟨.str _, H, I.tok _, ⟨_, rfl⟩, by cases b <;> exact q⟩
    | int i t => exact PySem.P.repr_of_int (of_decide_eq_true sh) ⟨.str _, H, I.tok _, ⟨_, rfl⟩, q⟩
    | str z t => exact PySem.P.repr_of_str ⟨.str _, H, I.tok _, ⟨_, rfl⟩, q⟩ sz
    | list h1 h2 h3 h4 => exact repr_of_reads' (.list h1 h2 h3 h4) sh (fun _ => hn) hgd (by omega) (fun _ _ e => e) (fun h' t tk kp => ⟨.str _, H, I.kept kp, ⟨_, rfl⟩, q⟩) sz
    | tuple h1 h2 h3 h4 => exact repr_of_reads' (.tuple h1 h2 h3 h4) sh (fun _ => hn) hgd (by omega) (fun _ _ e => e) (fun h' t tk kp => ⟨.str _, H, I.kept kp, ⟨_, rfl⟩, q⟩) sz
    | dict h1 h2 h3 h4 h5 => exact repr_of_reads' (.dict h1 h2 h3 h4 h5) sh (fun _ => hn) hgd (by omega) (fun _ _ e => e) (fun h' t tk kp => ⟨.str _, H, I.kept kp, ⟨_, rfl⟩, q⟩) sz
/-- repr of data, dicts anywhere -/
def rpxD : List D → M D
  | [d] => match toPX d with
    | some x => if (x.showable && (decide (x.shown.length ≤ 100000) && decide (x.depth ≤ 64))) = true then pure (.str x.shown) else M.bad
    | none => reprD [d]
  | _ => M.bad
def rRpx (k : Kx) (K : PySem.W.Frag) : List V → Hp → VK → Prop := fun xs H Q => rRepr K xs H Q ∨ rRepr3 k K xs H Q
theorem cr_rpx (hsy : SysD X.base) (hgd : X.A.guards = some []) (hu : X.A.units + 66 < cLine) : CallR X (.builtin "repr") (rRpx k X.K) := CallR.or (cr_repr hgd hu) (cr_repr3 hsy hgd hu)
theorem rpx_cl : ClD k X.K E (rRpx k X.K) rpxD := by
  intro xs ds G H L μ Q r w g
  match ds, r, g with
  | [d], r, g =>
    have g' : Good k X.K E G H L ((match toPX d with | some x => if (x.showable && (decide (x.shown.length ≤ 100000) && decide (x.depth ≤ 64))) = true then (pure (.str x.shown) : M D) else M.bad | none => reprD [d]) μ) (QV k X.K Q) := g
    cases hd : toPX d with
    | none =>
      rw [hd] at g'
      exact .inl (repr_cl xs [d] G H L μ Q r w g')
    | some x =>
      rw [hd] at g'
      obtain ⟨hc, q'⟩ := good_ite g'
      simp only [Bool.and_eq_true, decide_eq_true_eq] at hc
      obtain ⟨v, rfl, rx⟩ := one_of (H := H) r
      exact .inr ⟨v, d, x, G, L, rfl, w.ext, rx, hd, hc.1, size_of hc.2.1, hc.2.2, Good.ret q' w _ (.str _)⟩
  | [], r, g => exact False.elim g
  | _ :: _ :: _, r, g => exact False.elim g
theorem f_rpx (hsy : SysD X.base) (hgd : X.A.guards = some []) (hu : X.A.units + 66 < cLine) : FunD k X E (.builtin "repr") rpxD := ⟨_, cr_rpx hsy hgd hu, rpx_cl⟩
end
end DL

namespace LW
open PySem L2 DL
def b_source : DEnv → M Out := (sSeq (sSet 2 (eC (.int 0))) (sSeq (sIf (tB' (eOp ltD (eVar 1) (eCallB lenD (aCons (eVar 0) aNil)))) (sSet 2 (eOp ixD (eVar 0) (eVar 1))) sNil) (sSeq (sSet 3 (eCallB maxD (aCons (eVar 2) (aCons (eOp subD (eUn negD (eC (.int 1))) (eVar 2)) aNil)))) (sSeq (sSet 4 (eOp modD (eCallB intD (aCons (eOp addD (eOp addD (eOp mulD (eOp modD (eCallB intD (aCons (eVar 3) aNil)) (eC (.int 2147483629))) (eC (.int 16807))) (eOp mulD (eC (.int 104729)) (eVar 1))) (eC (.int 11))) aNil)) (eC (.int 2147483647)))) (sSeq (sIf (tB' (eOp ltD (eVar 3) (eOp powD (eC (.int 10)) (eC (.int 18))))) (sSet 3 (eC (.int 0))) sNil) (sRet (eLstM (aCons (eVar 3) (aCons (eVar 4) aNil)))))))))
def d_source : List D → M D := fnD 5 b_source
def b_draw : DEnv → M Out := (sSeq (sIf (tB' (eOp gtD (eOp ixD (eVar 0) (eC (.int 0))) (eC (.int 0)))) (sSeq (sSet 2 (eOp modD (eCallB intD (aCons (eOp ixD (eVar 0) (eC (.int 0))) aNil)) (eVar 1))) (sSeq (sSetIx (eVar 0) (eC (.int 0)) (eOp fdvD (eOp ixD (eVar 0) (eC (.int 0))) (eVar 1))) (sRet (eVar 2)))) sNil) (sSeq (sSetIx (eVar 0) (eC (.int 1)) (eOp modD (eCallB intD (aCons (eOp addD (eOp mulD (eOp ixD (eVar 0) (eC (.int 1))) (eC (.int 48271))) (eC (.int 11))) aNil)) (eC (.int 2147483647)))) (sRet (eOp modD (eCallB intD (aCons (eOp fdvD (eOp modD (eCallB intD (aCons (eOp mulD (eOp ixD (eVar 0) (eC (.int 1))) (eOp ixD (eVar 0) (eC (.int 1)))) aNil)) (eC (.int 2147483629))) (eC (.int 64))) aNil)) (eVar 1)))))
def d_draw : List D → M D := fnD 3 b_draw
def b_pick : DEnv → M Out := (sRet (eOp ixD (eVar 1) (eCallB (callN 2 d_draw) (aCons (eVar 0) (aCons (eCallB lenD (aCons (eVar 1) aNil)) aNil)))))
def d_pick : List D → M D := fnD 2 b_pick
def b_made : DEnv → M Out := (sSeq (sSet 2 (eLst (aCons (eUn (err1D 1) (eVar 0)) (aCons (eUn (err1D 2) (eVar 0)) (aCons (eUn (err1D 3) (eVar 0)) (aCons (eUn (err1D 4) (eVar 0)) (aCons (eUn (err1D 5) (eVar 0)) aNil))))))) (sSeq (sSet 2 (eOp addD (eVar 2) (eLst (aCons (eUn (err1D 6) (eVar 0)) (aCons (eUn (err1D 7) (eVar 0)) (aCons (eUn (err1D 8) (eVar 0)) (aCons (eUn (err1D 9) (eVar 0)) aNil))))))) (sSeq (sSet 2 (eOp addD (eVar 2) (eLst (aCons (eUn (err1D 10) (eVar 0)) (aCons (eUn (err1D 11) (eVar 0)) (aCons (eUn (err1D 12) (eVar 0)) (aCons (eUn (err1D 13) (eVar 0)) (aCons (eUn (err1D 14) (eVar 0)) aNil)))))))) (sRet (eOp addD (eVar 2) (eLst (aCons (eUn (err1D 16) (eVar 0)) (aCons (eCallB (err2D 15) (aCons (eVar 0) (aCons (eVar 1) aNil))) aNil))))))))
def d_made : List D → M D := fnD 3 b_made
def b_named : DEnv → M Out := (sSeq (sSet 2 (eLst (aCons (eUn (err1D 1) (eVar 0)) (aCons (eUn (err1D 2) (eVar 0)) (aCons (eUn (err1D 3) (eVar 0)) (aCons (eUn (err1D 4) (eVar 0)) aNil)))))) (sSeq (sSet 2 (eOp addD (eVar 2) (eLst (aCons (eUn (err1D 5) (eVar 0)) (aCons (eUn (err1D 6) (eVar 0)) (aCons (eUn (err1D 7) (eVar 0)) aNil)))))) (sSeq (sSet 2 (eOp addD (eVar 2) (eLst (aCons (eUn (err1D 8) (eVar 0)) (aCons (eUn (err1D 9) (eVar 0)) (aCons (eUn (err1D 10) (eVar 0)) aNil)))))) (sSeq (sSet 2 (eOp addD (eVar 2) (eLst (aCons (eUn (err1D 11) (eVar 0)) (aCons (eUn (err1D 12) (eVar 0)) (aCons (eUn (err1D 13) (eVar 0)) (aCons (eUn (err1D 14) (eVar 0)) aNil))))))) (sRet (eOp addD (eVar 2) (eLst (aCons (eUn (err1D 16) (eVar 0)) (aCons (eCallB (err2S 15) (aCons (eVar 1) (aCons (eVar 0) aNil))) aNil)))))))))
def d_named : List D → M D := fnD 3 b_named
def c_kept_1 : DEnv → M D := (eComp (iSeqD (eSlice (eVar 0) pNone (pSome (eC (.int 9))))) (gNm 2) tYesD (eUn (xatD [(1, 0), (2, 0), (3, 0), (4, 0), (5, 0), (6, 0), (7, 0), (8, 0), (9, 0)]) (eVar 2)) [2])
def b_kept : DEnv → M Out := (sSeq (sSet 1 (eOp addD c_kept_1 (eLst (aCons (eUn (xatD [(10, 0)]) (eOp ixD (eVar 0) (eC (.int 9)))) (aCons (eUn (xatD [(11, 0)]) (eOp ixD (eVar 0) (eC (.int 10)))) (aCons (eUn (xatD [(12, 0)]) (eOp ixD (eVar 0) (eC (.int 11)))) (aCons (eUn (xatD [(13, 0), (15, 1)]) (eOp ixD (eVar 0) (eC (.int 12)))) aNil))))))) (sRet (eOp addD (eVar 1) (eLst (aCons (eUn (xatD [(14, 0)]) (eOp ixD (eVar 0) (eC (.int 13)))) (aCons (eUn (xatD [(16, 0)]) (eOp ixD (eVar 0) (eC (.int 14)))) (aCons (eUn (xatD [(15, 0)]) (eOp ixD (eVar 0) (eC (.int 15)))) aNil)))))))
def d_kept : List D → M D := fnD 3 b_kept
def b_kinds : DEnv → M Out := (sSeq (sSet 1 (eLst (aCons (eUn (isxD [(1, true), (2, false), (3, false), (4, false), (5, false), (6, false), (7, false), (8, false), (9, false), (10, false), (11, false), (12, false), (13, false), (14, false), (15, false), (16, false)]) (eVar 0)) (aCons (eUn (isxD [(1, false), (2, true), (3, false), (4, false), (5, false), (6, false), (7, false), (8, false), (9, false), (10, false), (11, false), (12, false), (13, false), (14, false), (15, false), (16, false)]) (eVar 0)) (aCons (eUn (isxD [(1, false), (2, false), (3, true), (4, false), (5, false), (6, false), (7, false), (8, false), (9, false), (10, false), (11, false), (12, false), (13, false), (14, false), (15, false), (16, false)]) (eVar 0)) aNil))))) (sSeq (sSet 1 (eOp addD (eVar 1) (eLst (aCons (eUn (isxD [(1, false), (2, false), (3, false), (4, true), (5, false), (6, false), (7, false), (8, false), (9, false), (10, false), (11, false), (12, false), (13, false), (14, false), (15, false), (16, false)]) (eVar 0)) (aCons (eUn (isxD [(1, false), (2, false), (3, false), (4, false), (5, true), (6, false), (7, false), (8, false), (9, false), (10, false), (11, false), (12, false), (13, false), (14, false), (15, false), (16, false)]) (eVar 0)) (aCons (eUn (isxD [(1, false), (2, false), (3, false), (4, false), (5, false), (6, true), (7, false), (8, false), (9, false), (10, false), (11, false), (12, false), (13, false), (14, false), (15, false), (16, false)]) (eVar 0)) aNil)))))) (sSeq (sSet 1 (eOp addD (eVar 1) (eLst (aCons (eUn (isxD [(1, false), (2, false), (3, false), (4, false), (5, false), (6, false), (7, true), (8, false), (9, false), (10, false), (11, false), (12, false), (13, false), (14, false), (15, false), (16, false)]) (eVar 0)) (aCons (eUn (isxD [(1, false), (2, false), (3, false), (4, false), (5, false), (6, false), (7, false), (8, true), (9, false), (10, false), (11, false), (12, false), (13, false), (14, false), (15, false), (16, false)]) (eVar 0)) aNil))))) (sSeq (sSet 1 (eOp addD (eVar 1) (eLst (aCons (eUn (isxD [(1, false), (2, false), (3, false), (4, false), (5, false), (6, false), (7, false), (8, false), (9, true), (10, false), (11, false), (12, false), (13, false), (14, false), (15, false), (16, false)]) (eVar 0)) (aCons (eUn (isxD [(1, false), (2, false), (3, false), (4, false), (5, false), (6, false), (7, false), (8, false), (9, false), (10, true), (11, false), (12, false), (13, false), (14, false), (15, false), (16, false)]) (eVar 0)) aNil))))) (sSeq (sSet 1 (eOp addD (eVar 1) (eLst (aCons (eUn (isxD [(1, false), (2, false), (3, false), (4, false), (5, false), (6, false), (7, false), (8, false), (9, false), (10, false), (11, true), (12, false), (13, false), (14, false), (15, false), (16, false)]) (eVar 0)) (aCons (eUn (isxD [(1, false), (2, false), (3, false), (4, false), (5, false), (6, false), (7, false), (8, false), (9, false), (10, false), (11, false), (12, true), (13, false), (14, false), (15, false), (16, false)]) (eVar 0)) (aCons (eUn (isxD [(1, false), (2, false), (3, false), (4, false), (5, false), (6, false), (7, false), (8, false), (9, false), (10, false), (11, false), (12, false), (13, true), (14, false), (15, false), (16, false)]) (eVar 0)) aNil)))))) (sRet (eOp addD (eVar 1) (eLst (aCons (eUn (isxD [(1, false), (2, false), (3, false), (4, false), (5, false), (6, false), (7, false), (8, false), (9, false), (10, false), (11, false), (12, false), (13, false), (14, true), (15, false), (16, false)]) (eVar 0)) (aCons (eUn (isxD [(1, false), (2, false), (3, false), (4, false), (5, false), (6, false), (7, false), (8, false), (9, false), (10, false), (11, false), (12, false), (13, false), (14, false), (15, false), (16, true)]) (eVar 0)) (aCons (eUn (isxD [(1, false), (2, false), (3, false), (4, false), (5, false), (6, false), (7, false), (8, false), (9, false), (10, false), (11, false), (12, false), (13, false), (14, false), (15, true), (16, false)]) (eVar 0)) aNil)))))))))))
def d_kinds : List D → M D := fnD 2 b_kinds
def c_law_1 : DEnv → M D := (eComp (iRg1 (aCons (eC (.int 16)) aNil)) (gNm 8) tYesD (eOp eqD (eVar 8) (eVar 7)) [8])
def lb_law_1 : DEnv → M Out := (sSeq (sIf (tB' (eOp neD (eCallB (callN 1 d_kinds) (aCons (eOp ixD (eVar 4) (eVar 7)) aNil)) c_law_1)) (sRet (eC (.bl false))) sNil) (sSeq (sIf (tB' (eUn (isxD [(1, false), (2, false), (3, false), (4, false), (5, false), (6, false), (7, false), (8, false), (9, false), (10, false), (11, false), (12, false), (13, false), (14, false), (15, false), (16, false)]) (eOp ixD (eVar 4) (eVar 7)))) (sRet (eC (.bl false))) sNil) (sIf (tNotD (tB' (eUn (isxD [(1, true), (2, true), (3, true), (4, true), (5, true), (6, true), (7, true), (8, true), (9, true), (10, true), (11, true), (12, true), (13, true), (14, true), (15, true), (16, true)]) (eOp ixD (eVar 4) (eVar 7))))) (sRet (eC (.bl false))) sNil)))
def l_law_1 : DEnv → M Out := (sFor (iRg1 (aCons (eC (.int 16)) aNil)) (gNm 7) lb_law_1)
def lb_law_2 : DEnv → M Out := (sSeq (sIf (tOrD (tB' (eOp neD (eCallB rpxD (aCons (eCallB (callN 1 d_kept) (aCons (eVar 4) aNil)) aNil)) (eCallB rpxD (aCons (eRep (aCons (eVar 5) aNil) (eC (.int 16))) aNil)))) (tB' (eOp neD (eCallB rpxD (aCons (eUn (xatD [(13, 0), (15, 1)]) (eOp ixD (eVar 4) (eC (.int 15)))) aNil)) (eCallB rpxD (aCons (eVar 6) aNil))))) (sRet (eC (.bl false))) sNil) l_law_1)
def l_law_2 : DEnv → M Out := (sFor (iSeqD (eLst (aCons (eCallB (callN 2 d_made) (aCons (eVar 5) (aCons (eVar 6) aNil))) (aCons (eCallB (callN 2 d_named) (aCons (eVar 5) (aCons (eVar 6) aNil))) aNil)))) (gNm 4) lb_law_2)
def lb_law_3 : DEnv → M Out := (sSeq (sSet 3 (eCallB (callN 2 d_source) (aCons (eVar 0) (aCons (eVar 2) aNil)))) (sSeq (sParA 5 6 (aCons (eCallB (callN 2 d_pick) (aCons (eVar 3) (aCons (eVar 1) aNil))) (aCons (eCallB (callN 2 d_pick) (aCons (eVar 3) (aCons (eVar 1) aNil))) aNil))) l_law_2))
def l_law_3 : DEnv → M Out := (sFor (iRg1 (aCons (eCallB maxD (aCons (eC (.int 1)) (aCons (eCallB minD (aCons (eCallB lenD (aCons (eVar 0) aNil)) (aCons (eC (.int 12)) aNil))) aNil))) aNil)) (gNm 2) lb_law_3)
def b_law : DEnv → M Out := (sSeq (sSet 1 (eLst (aCons (eC .non) (aCons (eC (.bl true)) (aCons (eC (.int 5)) (aCons (eUn negD (eC (.int 1))) (aCons (eC (.str "a")) (aCons (eLst (aCons (eC (.int 1)) aNil)) (aCons (eTup (aCons (eC (.int 2)) aNil)) (aCons (eDict (qCons (eC (.str "a")) (eLst (aCons (eC (.int 1)) aNil)) qNil)) (aCons (eOp powD (eC (.int 10)) (eC (.int 20))) aNil))))))))))) (sSeq l_law_3 (sRet (eC (.bl true)))))
def d_law : List D → M D := fnD 9 b_law
/-! ### the script's cells -/
theorem draw_ok {m : Store} {n : Nat} {k : Int} (h : SrcAt m n) (hk : 0 < k) (hk2 : k < 2 ^ 100) :
    ∃ r m', d_draw [.loc n, .int k] m = .ok (.int r) m' ∧ Chg n m m' ∧ 0 ≤ r ∧ r < k := by
  obtain ⟨a, s, h⟩ := h
  have hl := (List.getElem?_eq_some_iff.mp h).1
  have sq : seqD (.loc n) m = .ok [.int a, .int s] m := seq_loc h
  have i0 : ixD (.loc n) (.int 0) m = .ok (.int a) m := ix_seq sq (by decide) rfl
  have i1 : ixD (.loc n) (.int 1) m = .ok (.int s) m := ix_seq sq (by decide) rfl
  by_cases ha : 0 < a
  · refine ⟨a % k, m.set n (some (.lst [.int (a / k), .int s])), fn_any ?_ (by simp), ⟨_, _, rfl⟩, Int.emod_nonneg _ (by omega), Int.emod_lt_of_pos _ hk⟩
    simp [b_draw, startD, i0, ha, mod_int m hk, fdv_int m hk hk2, sSetIx, setIx, h, ixN]
  · have hs : 0 ≤ (s * 48271 + 11) % 2147483647 ∧ (s * 48271 + 11) % 2147483647 < 2147483647 := ⟨Int.emod_nonneg _ (by decide), Int.emod_lt_of_pos _ (by decide)⟩
    generalize hs' : (s * 48271 + 11) % 2147483647 = s' at hs
    have h2 : (m.set n (some (.lst [.int a, .int s'])))[n]? = some (some (.lst [.int a, .int s'])) := by simp [hl]
    have j1 : ixD (.loc n) (.int 1) (m.set n (some (.lst [.int a, .int s']))) = .ok (.int s') (m.set n (some (.lst [.int a, .int s']))) := ix_seq (seq_loc h2) (by decide) rfl
    refine ⟨s' * s' % 2147483629 / 64 % k, m.set n (some (.lst [.int a, .int s'])), fn_any ?_ (by simp), ⟨_, _, rfl⟩, Int.emod_nonneg _ (by omega), Int.emod_lt_of_pos _ hk⟩
    have c1 : CM s 48271 := .inr ⟨by decide, by decide⟩
    have c2 : CM s' s' := .inl ⟨by omega, by omega⟩
    simp [b_draw, startD, i0, i1, ha, mod_int m (show (0 : Int) < 2147483647 by decide), sSetIx, setIx, h, ixN, mul_int _ c1, hs', j1, mul_int _ c2, mod_int _ (show (0 : Int) < 2147483629 by decide), fdv_int _ (show (0 : Int) < 64 by decide) (by decide), mod_int _ hk]
theorem source_ok {m : Store} {ns : List Int} {t : Nat} : ∃ a s : Int, d_source [.lst (ils ns), .int t] m = .ok (.loc m.length) (m ++ [some (.lst [.int a, .int s])]) := by
  have c1 : ∀ x, CM x 16807 := fun x => .inr ⟨by decide, by decide⟩
  have c2 : CM 104729 (t : Int) := .inl ⟨by decide, by decide⟩
  have c3 : CPw 10 18 := ⟨by decide, by decide, by decide⟩
  have p1 : (0 : Int) < 2147483629 := by decide
  have p2 : (0 : Int) < 2147483647 := by decide
  by_cases ht : t < ns.length
  · have e : ixD (.lst (ils ns)) (.int t) m = .ok (.int ns[t]) m := ix_seq rfl (by omega) (by simp [ils, ht])
    generalize hq : (if ns[t] < -1 - ns[t] then -1 - ns[t] else ns[t]) = q
    by_cases hc : q < 1000000000000000000
    · refine ⟨0, (q % 2147483629 * 16807 + 104729 * t + 11) % 2147483647, fn_new ?_ (by simp [D.und])⟩
      simp [b_source, startD, ht, e, hq, mod_int _ p1, mul_int _ (c1 _), mul_int _ c2, mod_int _ p2, pow_int _ c3, hc, newM]
    · refine ⟨q, (q % 2147483629 * 16807 + 104729 * t + 11) % 2147483647, fn_new ?_ (by simp [D.und])⟩
      simp [b_source, startD, ht, e, hq, mod_int _ p1, mul_int _ (c1 _), mul_int _ c2, mod_int _ p2, pow_int _ c3, hc, newM]
  · refine ⟨0, (0 % 2147483629 * 16807 + 104729 * t + 11) % 2147483647, fn_new ?_ (by simp [D.und])⟩
    simp [b_source, startD, ht, mod_int _ p1, mul_int _ (c1 _), mul_int _ c2, mod_int _ p2, pow_int _ c3, newM]
theorem src_new (m : Store) (a s : Int) : SrcAt (m ++ [some (.lst [.int a, .int s])]) m.length := ⟨a, s, by simp⟩
theorem pick_ok {m : Store} {n : Nat} {ds : List D} (h : SrcAt m n) (h0 : 0 < ds.length) (h1 : ds.length < 100000) :
    ∃ d m', d_pick [.loc n, .lst ds] m = .ok d m' ∧ Chg n m m' ∧ d ∈ ds := by
  obtain ⟨r, m', e, c, r0, r1⟩ := draw_ok (k := (ds.length : Int)) h (by omega) (by omega)
  have hr : r.toNat < ds.length := by omega
  refine ⟨ds[r.toNat], m', fn_any ?_ c.len, c, List.getElem_mem _⟩
  have e2 : ixD (.lst ds) (.int r) m' = .ok ds[r.toNat] m' := ix_seq rfl r0 (by simp [hr])
  simp [b_pick, startD, e, e2]
section law
abbrev esL (d e : D) : List D := [.err 1 [d], .err 2 [d], .err 3 [d], .err 4 [d], .err 5 [d], .err 6 [d], .err 7 [d], .err 8 [d], .err 9 [d], .err 10 [d], .err 11 [d], .err 12 [d], .err 13 [d], .err 14 [d], .err 16 [d], .err 15 [d, e]]
theorem made_ok (d e : D) (m : Store) : d_made [d, e] m = .ok (.lst (esL d e)) m := fn_pure (by simp [b_made, startD, err1D, err2D])
theorem named_ok (d e : D) (m : Store) : d_named [d, e] m = .ok (.lst (esL d e)) m := fn_pure (by simp [b_named, startD, err1D, err2S])
theorem es_ix {d e x : D} {j : Nat} (m : Store) (h : (esL d e)[j]? = some x) : ixD (.lst (esL d e)) (.int j) m = .ok x m := ix_seq rfl (by omega) (by simpa using h)
theorem kept1_ok (d e : D) (m : Store) : c_kept_1 [some (.lst (esL d e)), none, none] m = .ok (.lst [d, d, d, d, d, d, d, d, d]) m := by
  have hi : iSeqD (eSlice (eVar 0) pNone (pSome (eC (.int 9)))) [some (.lst (esL d e)), none, none] m = .ok ⟨[1, 2, 3, 4, 5, 6, 7, 8, 9].map fun c : Nat => D.err c [d], []⟩ m := rfl
  exact eComp_on (f := fun _ => d) hi (by decide) fun c hc => ⟨_, rfl, by
    simp only [List.mem_cons, List.not_mem_nil, or_false] at hc
    rcases hc with rfl | rfl | rfl | rfl | rfl | rfl | rfl | rfl | rfl <;> rfl⟩
theorem kept_ok (d e : D) (m : Store) : d_kept [.lst (esL d e)] m = .ok (.lst [d, d, d, d, d, d, d, d, d, d, d, d, d, d, d, d]) m := by
  refine fn_pure ?_
  have s1 : sSet 1 (eOp addD c_kept_1 (eLst (aCons (eUn (xatD [(10, 0)]) (eOp ixD (eVar 0) (eC (.int 9)))) (aCons (eUn (xatD [(11, 0)]) (eOp ixD (eVar 0) (eC (.int 10)))) (aCons (eUn (xatD [(12, 0)]) (eOp ixD (eVar 0) (eC (.int 11)))) (aCons (eUn (xatD [(13, 0), (15, 1)]) (eOp ixD (eVar 0) (eC (.int 12)))) aNil)))))) [some (.lst (esL d e)), none, none] m = .ok (.nx [some (.lst (esL d e)), some (.lst [d, d, d, d, d, d, d, d, d, d, d, d, d]), none]) m := by
    have k := kept1_ok d e m
    have r : eLst (aCons (eUn (xatD [(10, 0)]) (eOp ixD (eVar 0) (eC (.int 9)))) (aCons (eUn (xatD [(11, 0)]) (eOp ixD (eVar 0) (eC (.int 10)))) (aCons (eUn (xatD [(12, 0)]) (eOp ixD (eVar 0) (eC (.int 11)))) (aCons (eUn (xatD [(13, 0), (15, 1)]) (eOp ixD (eVar 0) (eC (.int 12)))) aNil)))) [some (.lst (esL d e)), none, none] m = .ok (.lst [d, d, d, d]) m := rfl
    rw [sSet_ap, eOp_ap, k]
    simp only [thn_ok]
    rw [r]
    simp
  refine sq_of s1 ?_
  have r : eLst (aCons (eUn (xatD [(14, 0)]) (eOp ixD (eVar 0) (eC (.int 13)))) (aCons (eUn (xatD [(16, 0)]) (eOp ixD (eVar 0) (eC (.int 14)))) (aCons (eUn (xatD [(15, 0)]) (eOp ixD (eVar 0) (eC (.int 15)))) aNil))) [some (.lst (esL d e)), some (.lst [d, d, d, d, d, d, d, d, d, d, d, d, d]), none] m = .ok (.lst [d, d, d]) m := rfl
  rw [sRet_ap, eOp_ap]
  show ((Res.ok (D.lst [d, d, d, d, d, d, d, d, d, d, d, d, d]) m).thn _).thn _ = _
  simp only [thn_ok]
  rw [r]
  simp
def kindsL (a : Nat) : List D := (List.range 16).map fun j : Nat => D.bl (decide (j = a))
theorem es_get {d e x : D} {j : Nat} (h : (esL d e)[j]? = some x) : j < 16 ∧ ∀ m, d_kinds [x] m = .ok (.lst (kindsL j)) m ∧
    isxD [(1, false), (2, false), (3, false), (4, false), (5, false), (6, false), (7, false), (8, false), (9, false), (10, false), (11, false), (12, false), (13, false), (14, false), (15, false), (16, false)] x m = .ok (.bl false) m ∧
    isxD [(1, true), (2, true), (3, true), (4, true), (5, true), (6, true), (7, true), (8, true), (9, true), (10, true), (11, true), (12, true), (13, true), (14, true), (15, true), (16, true)] x m = .ok (.bl true) m := by
  have hj : j < 16 := (List.getElem?_eq_some_iff.mp h).1
  refine ⟨hj, fun m => ?_⟩
  have c : j = 0 ∨ j = 1 ∨ j = 2 ∨ j = 3 ∨ j = 4 ∨ j = 5 ∨ j = 6 ∨ j = 7 ∨ j = 8 ∨ j = 9 ∨ j = 10 ∨ j = 11 ∨ j = 12 ∨ j = 13 ∨ j = 14 ∨ j = 15 := by omega
  rcases c with rfl | rfl | rfl | rfl | rfl | rfl | rfl | rfl | rfl | rfl | rfl | rfl | rfl | rfl | rfl | rfl <;> (cases h; exact ⟨fn_pure rfl, rfl, rfl⟩)
abbrev objs : List D := [.non, .bl true, .int 5, .int (-1), .str "a", .lst [.int 1], .tup [.int 2], .dct [.inr "a"] [.lst [.int 1]], .int 100000000000000000000]
theorem rpx_ok {d : D} {x : PyData} (h : toPX d = some x) (c : (x.showable && (decide (x.shown.length ≤ 100000) && decide (x.depth ≤ 64))) = true) (m : Store) : rpxD [d] m = .ok (.str x.shown) m := by
  show (match toPX d with | some x => if (x.showable && (decide (x.shown.length ≤ 100000) && decide (x.depth ≤ 64))) = true then (pure (.str x.shown) : M D) else M.bad | none => reprD [d]) m = _
  rw [h]
  simp only
  rw [if_pos c]
  rfl
/-- its text, alone and in a list of sixteen -/
def Tx (d : D) : Prop := (∃ x, SeqAt.shaped (.str x) = true ∧ ∀ m, rpxD [d] m = .ok (.str x) m) ∧ ∃ y, SeqAt.shaped (.str y) = true ∧ ∀ m, rpxD [.lst [d, d, d, d, d, d, d, d, d, d, d, d, d, d, d, d]] m = .ok (.str y) m
theorem tx_of {d : D} {x y : PyData} (h : toPX d = some x) (c : (x.showable && (decide (x.shown.length ≤ 100000) && decide (x.depth ≤ 64))) = true) (s : SeqAt.shaped (.str x.shown) = true)
    (h' : toPX (.lst [d, d, d, d, d, d, d, d, d, d, d, d, d, d, d, d]) = some y) (c' : (y.showable && (decide (y.shown.length ≤ 100000) && decide (y.depth ≤ 64))) = true) (s' : SeqAt.shaped (.str y.shown) = true) : Tx d := ⟨⟨_, s, rpx_ok h c⟩, _, s', rpx_ok h' c'⟩
theorem objs_tx {d : D} (h : d ∈ objs) : Tx d := by
  simp only [objs, List.mem_cons, List.not_mem_nil, or_false] at h
  rcases h with rfl | rfl | rfl | rfl | rfl | rfl | rfl | rfl | rfl
  all_goals exact tx_of rfl (by decide +kernel) (by decide +kernel) rfl (by decide +kernel) (by decide +kernel)
end law
section law
abbrev en (ns : List Int) (t : Nat) (x3 x4 x5 x6 x7 : Option D) : DEnv := [some (.lst (ils ns)), some (.lst objs), some (.int t), x3, x4, x5, x6, x7, none]
theorem cmp_ok {ns : List Int} {t : Nat} {x3 x4 x5 x6 : Option D} {j : Nat} (m : Store) : c_law_1 (en ns t x3 x4 x5 x6 (some (.int j))) m = .ok (.lst (kindsL j)) m := by
  have hi : iRg1 (aCons (eC (.int 16)) aNil) (en ns t x3 x4 x5 x6 (some (.int j))) m = .ok ⟨rngI 0 16, []⟩ m := iRg1_nat (s := 16) (by omega) (by simp)
  rw [rngI_eq] at hi
  have := eComp_on (it := iRg1 (aCons (eC (.int 16)) aNil)) (g := gNm 8) (elt := eOp eqD (eVar 8) (eVar 7)) (vs := [8]) (e := en ns t x3 x4 x5 x6 (some (.int j))) (m := m) (xs := List.range 16) (h := fun i : Nat => D.int i) (f := fun i : Nat => D.bl (decide (i = j))) hi (by simp) fun i hi => ⟨_, rfl, by
    have e : ((i : Int) == (j : Int)) = decide (i = j) := by
      by_cases q : i = j
      · simp [q]
      · have : ¬ ((i : Int) = (j : Int)) := by omega
        simp [q, this]
    simp [wipeD, e]⟩
  exact this
theorem ne_kinds (j : Nat) (m : Store) : neD (.lst (kindsL j)) (.lst (kindsL j)) m = .ok (.bl false) m := by
  refine Pln.ne (pln_seq (c := 40) (e := 0) (fun d hd => ?_) (by simp [kindsL]) (by decide)).1 m
  simp only [kindsL, List.mem_map] at hd
  obtain ⟨i, _, rfl⟩ := hd
  exact ⟨rfl, by simp [wdD], by simp [dpD]⟩
theorem inner_ok {ns : List Int} {t : Nat} {x3 x5 x6 : Option D} {d e x : D} {j : Nat} (h : (esL d e)[j]? = some x) (m : Store) : lb_law_1 (en ns t x3 (some (.lst (esL d e))) x5 x6 (some (.int j))) m = .ok (.nx (en ns t x3 (some (.lst (esL d e))) x5 x6 (some (.int j)))) m := by
  obtain ⟨hj, hk⟩ := es_get h
  obtain ⟨k1, k2, k3⟩ := hk m
  have c := cmp_ok (ns := ns) (t := t) (x3 := x3) (x4 := some (.lst (esL d e))) (x5 := x5) (x6 := x6) (j := j) m
  have n1 := ne_kinds j m
  have ix : eOp ixD (eVar 4) (eVar 7) (en ns t x3 (some (.lst (esL d e))) x5 x6 (some (.int j))) m = .ok x m := by
    rw [eOp_ap]
    show ((Res.ok (D.lst (esL d e)) m).thn _) = _
    simp only [thn_ok]
    show ((Res.ok (D.int j) m).thn _) = _
    simp only [thn_ok]
    exact es_ix m h
  generalize en ns t x3 (some (.lst (esL d e))) x5 x6 (some (.int j)) = E at c ix ⊢
  refine sq_of (e1 := E) (m1 := m) ?_ (sq_of (e1 := E) (m1 := m) ?_ ?_)
  · rw [sIf_ap, tB_ap, eOp_ap, eCallB_ap, aCons_ap, ix]
    have k0 : callN 1 d_kinds [x] m = .ok (.lst (kindsL j)) m := (callN_ap m d_kinds rfl).trans k1
    simp only [thn_ok, aNil_ap, k0, c, n1, asB_bl]
    rfl
  · rw [sIf_ap, tB_ap, eUn_ap, ix]
    simp only [thn_ok, k2, asB_bl]
    rfl
  · rw [sIf_ap, tNot_ap, tB_ap, eUn_ap, ix]
    simp only [thn_ok, k3, asB_bl]
    rfl
theorem loop1 {ns : List Int} {t : Nat} {x3 x5 x6 x7 : Option D} {d e : D} (m : Store) : ∃ y7, l_law_1 (en ns t x3 (some (.lst (esL d e))) x5 x6 x7) m = .ok (.nx (en ns t x3 (some (.lst (esL d e))) x5 x6 y7)) m := by
  have hi : iRg1 (aCons (eC (.int 16)) aNil) (en ns t x3 (some (.lst (esL d e))) x5 x6 x7) m = .ok ⟨rngI 0 16, []⟩ m := iRg1_nat (s := 16) (by omega) (by simp)
  obtain ⟨e', m', hf, y7, rfl, rfl⟩ := forL_chg (src := rngI 0 16) (g := gNm 7) (b := lb_law_1) (fun _ E s => ∃ y7, E = en ns t x3 (some (.lst (esL d e))) x5 x6 y7 ∧ s = m) (rngI 0 16) (en ns t x3 (some (.lst (esL d e))) x5 x6 x7) m ⟨x7, rfl, rfl⟩ (by
    rintro j x E s hj ⟨y7, rfl, rfl⟩
    obtain ⟨hj2, rfl⟩ := rng_get hj
    exact ⟨_, _, _, _, rfl, .inl (inner_ok (List.getElem?_eq_getElem (show j < (esL d e).length from hj2)) s), _, rfl, rfl⟩)
  exact ⟨y7, fr_of hi hf⟩
theorem ne_str {x : Str} (h : SeqAt.shaped (.str x) = true) (m : Store) : neD (.str x) (.str x) m = .ok (.bl false) m := ne_self m (x := .str x) rfl h
theorem outer_ok {ns : List Int} {t : Nat} {x3 x7 : Option D} {d e : D} (hd : Tx d) (he : Tx e) (m : Store) : ∃ y7, lb_law_2 (en ns t x3 (some (.lst (esL d e))) (some d) (some e) x7) m = .ok (.nx (en ns t x3 (some (.lst (esL d e))) (some d) (some e) y7)) m := by
  obtain ⟨y7, lp⟩ := loop1 (ns := ns) (t := t) (x3 := x3) (x5 := some d) (x6 := some e) (x7 := x7) (d := d) (e := e) m
  refine ⟨y7, sq_of ?_ lp⟩
  obtain ⟨_, x, sx, hx⟩ := hd
  obtain ⟨⟨y, sy, hy⟩, _⟩ := he
  have kp := kept_ok d e m
  have hx := hx m
  have hy := hy m
  have a1 : eCallB rpxD (aCons (eCallB (callN 1 d_kept) (aCons (eVar 4) aNil)) aNil) (en ns t x3 (some (.lst (esL d e))) (some d) (some e) x7) m = .ok (.str x) m := by simp [kp, hx]
  have a2 : eCallB rpxD (aCons (eRep (aCons (eVar 5) aNil) (eC (.int 16))) aNil) (en ns t x3 (some (.lst (esL d e))) (some d) (some e) x7) m = .ok (.str x) m := by
    have r : eRep (aCons (eVar 5) aNil) (eC (.int 16)) (en ns t x3 (some (.lst (esL d e))) (some d) (some e) x7) m = .ok (.lst [d, d, d, d, d, d, d, d, d, d, d, d, d, d, d, d]) m := by simp [eRep, szL, repW, mkLst, List.replicate]
    rw [eCallB_ap, aCons_ap, r]
    simp [hx]
  have ix : ∀ m, ixD (.lst (esL d e)) (.int 15) m = .ok (.err 15 [d, e]) m := fun m => es_ix (j := 15) m rfl
  have xt : ∀ m, xatD [(13, 0), (15, 1)] (.err 15 [d, e]) m = .ok e m := fun m => rfl
  have b1 : eCallB rpxD (aCons (eUn (xatD [(13, 0), (15, 1)]) (eOp ixD (eVar 4) (eC (.int 15)))) aNil) (en ns t x3 (some (.lst (esL d e))) (some d) (some e) x7) m = .ok (.str y) m := by
    simp [ix, xt, hy]
  have b2 : eCallB rpxD (aCons (eVar 6) aNil) (en ns t x3 (some (.lst (esL d e))) (some d) (some e) x7) m = .ok (.str y) m := by simp [hy]
  rw [sIf_ap, tOr_ap, tB_ap, eOp_ap, a1]
  simp only [thn_ok, a2, ne_str sx, asB_bl, tB_ap, eOp_ap, b1, b2, ne_str sy]
  rfl
theorem loop2 {ns : List Int} {t : Nat} {x3 x4 x7 : Option D} {d e : D} (hd : Tx d) (he : Tx e) (m : Store) : ∃ y4 y7, l_law_2 (en ns t x3 x4 (some d) (some e) x7) m = .ok (.nx (en ns t x3 y4 (some d) (some e) y7)) m := by
  have hi : iSeqD (eLst (aCons (eCallB (callN 2 d_made) (aCons (eVar 5) (aCons (eVar 6) aNil))) (aCons (eCallB (callN 2 d_named) (aCons (eVar 5) (aCons (eVar 6) aNil))) aNil))) (en ns t x3 x4 (some d) (some e) x7) m = .ok ⟨[.lst (esL d e), .lst (esL d e)], []⟩ m := by simp [made_ok, named_ok]
  obtain ⟨e', m', hf, y4, y7, rfl, rfl⟩ := forL_chg (src := [.lst (esL d e), .lst (esL d e)]) (g := gNm 4) (b := lb_law_2) (fun _ E s => ∃ y4 y7, E = en ns t x3 y4 (some d) (some e) y7 ∧ s = m) [.lst (esL d e), .lst (esL d e)] (en ns t x3 x4 (some d) (some e) x7) m ⟨x4, x7, rfl, rfl⟩ (by
    rintro j x E s hj ⟨y4, y7, rfl, rfl⟩
    have q : x = .lst (esL d e) := by
      have := List.mem_of_getElem? hj
      simpa using this
    subst q
    obtain ⟨z7, h⟩ := outer_ok (ns := ns) (t := t) (x3 := x3) (x7 := y7) hd he s
    exact ⟨_, _, _, _, rfl, .inl h, _, _, rfl, rfl⟩)
  exact ⟨y4, y7, fr_of hi hf⟩
theorem turn_ok {ns : List Int} {t : Nat} {m : Store} {x3 x4 x5 x6 x7 : Option D} : ∃ y3 y4 y5 y6 y7 m', lb_law_3 (en ns t x3 x4 x5 x6 x7) m = .ok (.nx (en ns t y3 y4 y5 y6 y7)) m' := by
  obtain ⟨a, s, e0⟩ := source_ok (m := m) (ns := ns) (t := t)
  have h0 := src_new m a s
  obtain ⟨d, m1, e1, c1, hd⟩ := pick_ok (ds := objs) h0 (by decide) (by decide)
  have h1 := c1.src h0
  obtain ⟨e, m2, e2, c2, he⟩ := pick_ok (ds := objs) h1 (by decide) (by decide)
  obtain ⟨y4, y7, lp⟩ := loop2 (ns := ns) (t := t) (x3 := some (.loc m.length)) (x4 := x4) (x7 := x7) (objs_tx hd) (objs_tx he) m2
  refine ⟨_, _, _, _, _, m2, sq_of (e1 := en ns t (some (.loc m.length)) x4 x5 x6 x7) (m1 := m ++ [some (.lst [.int a, .int s])]) (by simp [e0]) (sq_of (e1 := en ns t (some (.loc m.length)) x4 (some d) (some e) x7) (m1 := m2) ?_ lp)⟩
  simp [sParA, e1, e2]
theorem law_true : ∀ ns : List Int, ns.length ≤ 63 → ∃ m', d_law [.lst (ns.map .int)] [] = .ok (.bl true) m' := by
  intro ns hn
  have hr : iRg1 (aCons (eCallB maxD (aCons (eC (.int 1)) (aCons (eCallB minD (aCons (eCallB lenD (aCons (eVar 0) aNil)) (aCons (eC (.int 12)) aNil))) aNil))) aNil) [some (.lst (ils ns)), some (.lst objs), none, none, none, none, none, none, none] [] = .ok ⟨rngI 0 (if (if (12 : Int) < ns.length then 12 else (ns.length : Int)) > 1 then (if (12 : Int) < ns.length then 12 else (ns.length : Int)) else 1).toNat, []⟩ [] := by
    refine iRg1_ap _ _ _ (by simp) ?_ ?_
    · split <;> split <;> omega
    · split <;> split <;> omega
  generalize (if (if (12 : Int) < ns.length then 12 else (ns.length : Int)) > 1 then (if (12 : Int) < ns.length then 12 else (ns.length : Int)) else 1).toNat = k at hr
  obtain ⟨e', m', hf, y2, y3, y4, y5, y6, y7, rfl⟩ := forL_chg (src := rngI 0 k) (g := gNm 2) (b := lb_law_3) (fun _ e _ => ∃ y2 y3 y4 y5 y6 y7, e = [some (.lst (ils ns)), some (.lst objs), y2, y3, y4, y5, y6, y7, none]) (rngI 0 k) [some (.lst (ils ns)), some (.lst objs), none, none, none, none, none, none, none] [] ⟨none, none, none, none, none, none, rfl⟩ (by
    rintro j d e m' hj ⟨y2, y3, y4, y5, y6, y7, rfl⟩
    obtain ⟨hjl, rfl⟩ := rng_get hj
    obtain ⟨z3, z4, z5, z6, z7, m2, hb⟩ := turn_ok (ns := ns) (t := j) (m := m') (x3 := y3) (x4 := y4) (x5 := y5) (x6 := y6) (x7 := y7)
    exact ⟨_, _, _, _, rfl, .inl hb, _, _, _, _, _, _, rfl⟩)
  have hb : b_law (startD 9 [.lst (ils ns)]) [] = .ok (.rt (.bl true)) m' := by
    have q := fr_of (b := lb_law_3) hr hf
    have c3 : CPw 10 20 := ⟨by decide, by decide, by decide⟩
    have pw : ∀ m, powD (.int 10) (.int 20) m = .ok (.int 100000000000000000000) m := fun m => by
      have := pow_int m c3
      simpa using this
    have dc : ∀ (E : DEnv) (m : Store), eDict (qCons (eC (.str "a")) (eLst (aCons (eC (.int 1)) aNil)) qNil) E m = .ok (.dct [.inr "a"] [.lst [.int 1]]) m := fun E m => rfl
    refine sq_of (e1 := [some (.lst (ils ns)), some (.lst objs), none, none, none, none, none, none, none]) (m1 := []) ?_ (sq_of (e1 := [some (.lst (ils ns)), some (.lst objs), y2, y3, y4, y5, y6, y7, none]) (m1 := m') q (by simp))
    simp [startD, pw, dc, objs]
  have e : (ns.map D.int) = ils ns := rfl
  rw [e]
  by_cases ht : (trimOk [] m' && (D.bl true).und 0) = true
  · exact ⟨_, by simp only [d_law, fnD, scopeM, runB, bind_ap, hb, thn_ok, pure_ap]; exact if_pos ht⟩
  · exact ⟨_, by simp only [d_law, fnD, scopeM, runB, bind_ap, hb, thn_ok, pure_ap]; exact if_neg ht⟩
end law
end LW
namespace LW
open PySem L2 DL PyProof.Rows
def top (i : Nat) : Stmt := PySem.Challenge.pw_leastreads_k41_classes_of_errors.main.body.getD i (.Pass ⟨0, 0, 0, 0⟩)
abbrev s_source : Stmt := (top 19)
abbrev s_draw : Stmt := (top 20)
abbrev s_pick : Stmt := (top 21)
abbrev s_made : Stmt := (top 22)
abbrev s_named : Stmt := (top 23)
abbrev s_kept : Stmt := (top 24)
abbrev s_kinds : Stmt := (top 25)
abbrev s_law : Stmt := (top 26)
abbrev s_E1 : Stmt := (inClass (top 2) 0)
abbrev s_E2 : Stmt := (inClass (top 3) 0)
abbrev s_E3 : Stmt := (inClass (top 4) 0)
abbrev s_E4 : Stmt := (inClass (top 5) 0)
abbrev s_E5 : Stmt := (inClass (top 6) 0)
abbrev s_E6 : Stmt := (inClass (top 7) 0)
abbrev s_E7 : Stmt := (inClass (top 8) 0)
abbrev s_E8 : Stmt := (inClass (top 9) 0)
abbrev s_E9 : Stmt := (inClass (top 10) 0)
abbrev s_E10 : Stmt := (inClass (top 11) 0)
abbrev s_E11 : Stmt := (inClass (top 12) 0)
abbrev s_E12 : Stmt := (inClass (top 13) 0)
abbrev s_E13 : Stmt := (inClass (top 14) 0)
abbrev s_E14 : Stmt := (inClass (top 15) 0)
abbrev s_E15 : Stmt := (inClass (top 16) 0)
abbrev s_E16 : Stmt := (inClass (top 17) 0)
structure Txt (P : Program) (k : Kx) (ad ca ta : Nat → Addr) (K : PySem.W.Frag) (mg : Str → Option Value) : Prop where
  f_source : FA K "_law_source" "_law_source" s_source ["_law_script", "_law_turn"] (ad 0)
  m_source : mg "_law_source" = some (.ref (ad 0))
  f_draw : FA K "_law_draw" "_law_draw" s_draw ["_law_source_here", "_law_amount"] (ad 1)
  m_draw : mg "_law_draw" = some (.ref (ad 1))
  f_pick : FA K "_law_pick" "_law_pick" s_pick ["_law_source_here", "_law_items"] (ad 2)
  m_pick : mg "_law_pick" = some (.ref (ad 2))
  f_made : FA K "_law_made" "_law_made" s_made ["_law_one", "_law_two"] (ad 3)
  m_made : mg "_law_made" = some (.ref (ad 3))
  f_named : FA K "_law_named" "_law_named" s_named ["_law_one", "_law_two"] (ad 4)
  m_named : mg "_law_named" = some (.ref (ad 4))
  f_kept : FA K "_law_kept" "_law_kept" s_kept ["_law_made_here"] (ad 5)
  m_kept : mg "_law_kept" = some (.ref (ad 5))
  f_kinds : FA K "_law_kinds" "_law_kinds" s_kinds ["_law_error"] (ad 6)
  m_kinds : mg "_law_kinds" = some (.ref (ad 6))
  f_law : FA K "law" "law" s_law ["_law_script"] (ad 7)
  m_law : mg "law" = some (.ref (ad 7))
  ge_0 : mg "LeastError" = some (.ref (k.cl 0))
  xf_1 : k.xf 1 = [("value" : Str)]
  nfe_1 : PySem.W.findIn K (.ref (k.cl 1)) "value" = some none
  xfc_1 : XfC K (k.cl 1)
  exc_1 : ExcC K (k.cl 1)
  em_1 : ∃ fI, ErrB P K s_E1 "InvalidSum.__init__" "self" "Exception" "Exception.__new__" "Exception.__init__" ESX.exTail (k.cl 1) fI ∧ Ini1 s_E1 "InvalidSum.__init__" "self" "value" "value" fI
  ge_1 : mg "InvalidSum" = some (.ref (k.cl 1))
  xf_2 : k.xf 2 = [("value" : Str)]
  nfe_2 : PySem.W.findIn K (.ref (k.cl 2)) "value" = some none
  xfc_2 : XfC K (k.cl 2)
  exc_2 : ExcC K (k.cl 2)
  em_2 : ∃ fI, ErrB P K s_E2 "InvalidData.__init__" "self" "Exception" "Exception.__new__" "Exception.__init__" ESX.exTail (k.cl 2) fI ∧ Ini1 s_E2 "InvalidData.__init__" "self" "value" "value" fI
  ge_2 : mg "InvalidData" = some (.ref (k.cl 2))
  xf_3 : k.xf 3 = [("value" : Str)]
  nfe_3 : PySem.W.findIn K (.ref (k.cl 3)) "value" = some none
  xfc_3 : XfC K (k.cl 3)
  exc_3 : ExcC K (k.cl 3)
  em_3 : ∃ fI, ErrB P K s_E3 "InvalidSpots.__init__" "self" "Exception" "Exception.__new__" "Exception.__init__" ESX.exTail (k.cl 3) fI ∧ Ini1 s_E3 "InvalidSpots.__init__" "self" "value" "value" fI
  ge_3 : mg "InvalidSpots" = some (.ref (k.cl 3))
  xf_4 : k.xf 4 = [("value" : Str)]
  nfe_4 : PySem.W.findIn K (.ref (k.cl 4)) "value" = some none
  xfc_4 : XfC K (k.cl 4)
  exc_4 : ExcC K (k.cl 4)
  em_4 : ∃ fI, ErrB P K s_E4 "InvalidPieces.__init__" "self" "Exception" "Exception.__new__" "Exception.__init__" ESX.exTail (k.cl 4) fI ∧ Ini1 s_E4 "InvalidPieces.__init__" "self" "value" "value" fI
  ge_4 : mg "InvalidPieces" = some (.ref (k.cl 4))
  xf_5 : k.xf 5 = [("value" : Str)]
  nfe_5 : PySem.W.findIn K (.ref (k.cl 5)) "value" = some none
  xfc_5 : XfC K (k.cl 5)
  exc_5 : ExcC K (k.cl 5)
  em_5 : ∃ fI, ErrB P K s_E5 "InvalidCost.__init__" "self" "Exception" "Exception.__new__" "Exception.__init__" ESX.exTail (k.cl 5) fI ∧ Ini1 s_E5 "InvalidCost.__init__" "self" "value" "value" fI
  ge_5 : mg "InvalidCost" = some (.ref (k.cl 5))
  xf_6 : k.xf 6 = [("value" : Str)]
  nfe_6 : PySem.W.findIn K (.ref (k.cl 6)) "value" = some none
  xfc_6 : XfC K (k.cl 6)
  exc_6 : ExcC K (k.cl 6)
  em_6 : ∃ fI, ErrB P K s_E6 "InvalidWishes.__init__" "self" "Exception" "Exception.__new__" "Exception.__init__" ESX.exTail (k.cl 6) fI ∧ Ini1 s_E6 "InvalidWishes.__init__" "self" "value" "value" fI
  ge_6 : mg "InvalidWishes" = some (.ref (k.cl 6))
  xf_7 : k.xf 7 = [("value" : Str)]
  nfe_7 : PySem.W.findIn K (.ref (k.cl 7)) "value" = some none
  xfc_7 : XfC K (k.cl 7)
  exc_7 : ExcC K (k.cl 7)
  em_7 : ∃ fI, ErrB P K s_E7 "InvalidStored.__init__" "self" "Exception" "Exception.__new__" "Exception.__init__" ESX.exTail (k.cl 7) fI ∧ Ini1 s_E7 "InvalidStored.__init__" "self" "value" "value" fI
  ge_7 : mg "InvalidStored" = some (.ref (k.cl 7))
  xf_8 : k.xf 8 = [("value" : Str)]
  nfe_8 : PySem.W.findIn K (.ref (k.cl 8)) "value" = some none
  xfc_8 : XfC K (k.cl 8)
  exc_8 : ExcC K (k.cl 8)
  em_8 : ∃ fI, ErrB P K s_E8 "InvalidPlacing.__init__" "self" "Exception" "Exception.__new__" "Exception.__init__" ESX.exTail (k.cl 8) fI ∧ Ini1 s_E8 "InvalidPlacing.__init__" "self" "value" "value" fI
  ge_8 : mg "InvalidPlacing" = some (.ref (k.cl 8))
  xf_9 : k.xf 9 = [("value" : Str)]
  nfe_9 : PySem.W.findIn K (.ref (k.cl 9)) "value" = some none
  xfc_9 : XfC K (k.cl 9)
  exc_9 : ExcC K (k.cl 9)
  em_9 : ∃ fI, ErrB P K s_E9 "InvalidNumber.__init__" "self" "Exception" "Exception.__new__" "Exception.__init__" ESX.exTail (k.cl 9) fI ∧ Ini1 s_E9 "InvalidNumber.__init__" "self" "value" "value" fI
  ge_9 : mg "InvalidNumber" = some (.ref (k.cl 9))
  xf_10 : k.xf 10 = [("place" : Str)]
  nfe_10 : PySem.W.findIn K (.ref (k.cl 10)) "place" = some none
  xfc_10 : XfC K (k.cl 10)
  exc_10 : ExcC K (k.cl 10)
  em_10 : ∃ fI, ErrB P K s_E10 "InvalidTable.__init__" "self" "Exception" "Exception.__new__" "Exception.__init__" ESX.exTail (k.cl 10) fI ∧ Ini1 s_E10 "InvalidTable.__init__" "self" "place" "place" fI
  ge_10 : mg "InvalidTable" = some (.ref (k.cl 10))
  xf_11 : k.xf 11 = [("other" : Str)]
  nfe_11 : PySem.W.findIn K (.ref (k.cl 11)) "other" = some none
  xfc_11 : XfC K (k.cl 11)
  exc_11 : ExcC K (k.cl 11)
  em_11 : ∃ fI, ErrB P K s_E11 "InvalidOperand.__init__" "self" "Exception" "Exception.__new__" "Exception.__init__" ESX.exTail (k.cl 11) fI ∧ Ini1 s_E11 "InvalidOperand.__init__" "self" "other" "other" fI
  ge_11 : mg "InvalidOperand" = some (.ref (k.cl 11))
  xf_12 : k.xf 12 = [("limit" : Str)]
  nfe_12 : PySem.W.findIn K (.ref (k.cl 12)) "limit" = some none
  xfc_12 : XfC K (k.cl 12)
  exc_12 : ExcC K (k.cl 12)
  em_12 : ∃ fI, ErrB P K s_E12 "LimitExceeded.__init__" "self" "Exception" "Exception.__new__" "Exception.__init__" ESX.exTail (k.cl 12) fI ∧ Ini1 s_E12 "LimitExceeded.__init__" "self" "limit" "limit" fI
  ge_12 : mg "LimitExceeded" = some (.ref (k.cl 12))
  xf_13 : k.xf 13 = [("blind" : Str)]
  nfe_13 : PySem.W.findIn K (.ref (k.cl 13)) "blind" = some none
  xfc_13 : XfC K (k.cl 13)
  exc_13 : ExcC K (k.cl 13)
  em_13 : ∃ fI, ErrB P K s_E13 "Lost.__init__" "self" "Exception" "Exception.__new__" "Exception.__init__" ESX.exTail (k.cl 13) fI ∧ Ini1 s_E13 "Lost.__init__" "self" "blind" "blind" fI
  ge_13 : mg "Lost" = some (.ref (k.cl 13))
  xf_14 : k.xf 14 = [("found" : Str)]
  nfe_14 : PySem.W.findIn K (.ref (k.cl 14)) "found" = some none
  xfc_14 : XfC K (k.cl 14)
  exc_14 : ExcC K (k.cl 14)
  em_14 : ∃ fI, ErrB P K s_E14 "Unsure.__init__" "self" "Exception" "Exception.__new__" "Exception.__init__" ESX.exTail (k.cl 14) fI ∧ Ini1 s_E14 "Unsure.__init__" "self" "found" "found" fI
  ge_14 : mg "Unsure" = some (.ref (k.cl 14))
  xf_15 : k.xf 15 = [("group" : Str), "blind"]
  nf2_15 : PySem.W.findIn K (.ref (k.cl 15)) "blind" = some none
  nfe_15 : PySem.W.findIn K (.ref (k.cl 15)) "group" = some none
  xfc_15 : XfC K (k.cl 15)
  exc_15 : ExcC K (k.cl 15)
  em_15 : ∃ fI, ErrB P K s_E15 "Unseen.__init__" "self" "Exception" "Exception.__new__" "Exception.__init__" ESX.exTail (k.cl 15) fI ∧ Ini2 s_E15 "Unseen.__init__" "self" "group" "blind" "group" "blind" fI
  ge_15 : mg "Unseen" = some (.ref (k.cl 15))
  xf_16 : k.xf 16 = [("blocks" : Str)]
  nfe_16 : PySem.W.findIn K (.ref (k.cl 16)) "blocks" = some none
  xfc_16 : XfC K (k.cl 16)
  exc_16 : ExcC K (k.cl 16)
  em_16 : ∃ fI, ErrB P K s_E16 "NoWay.__init__" "self" "Exception" "Exception.__new__" "Exception.__init__" ESX.exTail (k.cl 16) fI ∧ Ini1 s_E16 "NoWay.__init__" "self" "blocks" "blocks" fI
  ge_16 : mg "NoWay" = some (.ref (k.cl 16))
  kx_1_0 : PySem.W.kitOne K (.ref (k.cl 1)) (.ref (k.cl 0)) = some true
  kx_1_1 : PySem.W.kitOne K (.ref (k.cl 1)) (.ref (k.cl 1)) = some true
  kx_1_10 : PySem.W.kitOne K (.ref (k.cl 1)) (.ref (k.cl 10)) = some false
  kx_1_11 : PySem.W.kitOne K (.ref (k.cl 1)) (.ref (k.cl 11)) = some false
  kx_1_12 : PySem.W.kitOne K (.ref (k.cl 1)) (.ref (k.cl 12)) = some false
  kx_1_13 : PySem.W.kitOne K (.ref (k.cl 1)) (.ref (k.cl 13)) = some false
  kx_1_14 : PySem.W.kitOne K (.ref (k.cl 1)) (.ref (k.cl 14)) = some false
  kx_1_15 : PySem.W.kitOne K (.ref (k.cl 1)) (.ref (k.cl 15)) = some false
  kx_1_16 : PySem.W.kitOne K (.ref (k.cl 1)) (.ref (k.cl 16)) = some false
  kx_1_2 : PySem.W.kitOne K (.ref (k.cl 1)) (.ref (k.cl 2)) = some false
  kx_1_3 : PySem.W.kitOne K (.ref (k.cl 1)) (.ref (k.cl 3)) = some false
  kx_1_4 : PySem.W.kitOne K (.ref (k.cl 1)) (.ref (k.cl 4)) = some false
  kx_1_5 : PySem.W.kitOne K (.ref (k.cl 1)) (.ref (k.cl 5)) = some false
  kx_1_6 : PySem.W.kitOne K (.ref (k.cl 1)) (.ref (k.cl 6)) = some false
  kx_1_7 : PySem.W.kitOne K (.ref (k.cl 1)) (.ref (k.cl 7)) = some false
  kx_1_8 : PySem.W.kitOne K (.ref (k.cl 1)) (.ref (k.cl 8)) = some false
  kx_1_9 : PySem.W.kitOne K (.ref (k.cl 1)) (.ref (k.cl 9)) = some false
  kx_1_LookupError : PySem.W.kitOne K (.ref (k.cl 1)) (.type "LookupError") = some false
  kx_1_RuntimeError : PySem.W.kitOne K (.ref (k.cl 1)) (.type "RuntimeError") = some false
  kx_1_ValueError : PySem.W.kitOne K (.ref (k.cl 1)) (.type "ValueError") = some false
  kx_10_0 : PySem.W.kitOne K (.ref (k.cl 10)) (.ref (k.cl 0)) = some true
  kx_10_1 : PySem.W.kitOne K (.ref (k.cl 10)) (.ref (k.cl 1)) = some false
  kx_10_10 : PySem.W.kitOne K (.ref (k.cl 10)) (.ref (k.cl 10)) = some true
  kx_10_11 : PySem.W.kitOne K (.ref (k.cl 10)) (.ref (k.cl 11)) = some false
  kx_10_12 : PySem.W.kitOne K (.ref (k.cl 10)) (.ref (k.cl 12)) = some false
  kx_10_13 : PySem.W.kitOne K (.ref (k.cl 10)) (.ref (k.cl 13)) = some false
  kx_10_14 : PySem.W.kitOne K (.ref (k.cl 10)) (.ref (k.cl 14)) = some false
  kx_10_15 : PySem.W.kitOne K (.ref (k.cl 10)) (.ref (k.cl 15)) = some false
  kx_10_16 : PySem.W.kitOne K (.ref (k.cl 10)) (.ref (k.cl 16)) = some false
  kx_10_2 : PySem.W.kitOne K (.ref (k.cl 10)) (.ref (k.cl 2)) = some false
  kx_10_3 : PySem.W.kitOne K (.ref (k.cl 10)) (.ref (k.cl 3)) = some false
  kx_10_4 : PySem.W.kitOne K (.ref (k.cl 10)) (.ref (k.cl 4)) = some false
  kx_10_5 : PySem.W.kitOne K (.ref (k.cl 10)) (.ref (k.cl 5)) = some false
  kx_10_6 : PySem.W.kitOne K (.ref (k.cl 10)) (.ref (k.cl 6)) = some false
  kx_10_7 : PySem.W.kitOne K (.ref (k.cl 10)) (.ref (k.cl 7)) = some false
  kx_10_8 : PySem.W.kitOne K (.ref (k.cl 10)) (.ref (k.cl 8)) = some false
  kx_10_9 : PySem.W.kitOne K (.ref (k.cl 10)) (.ref (k.cl 9)) = some false
  kx_10_LookupError : PySem.W.kitOne K (.ref (k.cl 10)) (.type "LookupError") = some false
  kx_10_RuntimeError : PySem.W.kitOne K (.ref (k.cl 10)) (.type "RuntimeError") = some false
  kx_10_ValueError : PySem.W.kitOne K (.ref (k.cl 10)) (.type "ValueError") = some false
  kx_11_0 : PySem.W.kitOne K (.ref (k.cl 11)) (.ref (k.cl 0)) = some true
  kx_11_1 : PySem.W.kitOne K (.ref (k.cl 11)) (.ref (k.cl 1)) = some false
  kx_11_10 : PySem.W.kitOne K (.ref (k.cl 11)) (.ref (k.cl 10)) = some false
  kx_11_11 : PySem.W.kitOne K (.ref (k.cl 11)) (.ref (k.cl 11)) = some true
  kx_11_12 : PySem.W.kitOne K (.ref (k.cl 11)) (.ref (k.cl 12)) = some false
  kx_11_13 : PySem.W.kitOne K (.ref (k.cl 11)) (.ref (k.cl 13)) = some false
  kx_11_14 : PySem.W.kitOne K (.ref (k.cl 11)) (.ref (k.cl 14)) = some false
  kx_11_15 : PySem.W.kitOne K (.ref (k.cl 11)) (.ref (k.cl 15)) = some false
  kx_11_16 : PySem.W.kitOne K (.ref (k.cl 11)) (.ref (k.cl 16)) = some false
  kx_11_2 : PySem.W.kitOne K (.ref (k.cl 11)) (.ref (k.cl 2)) = some false
  kx_11_3 : PySem.W.kitOne K (.ref (k.cl 11)) (.ref (k.cl 3)) = some false
  kx_11_4 : PySem.W.kitOne K (.ref (k.cl 11)) (.ref (k.cl 4)) = some false
  kx_11_5 : PySem.W.kitOne K (.ref (k.cl 11)) (.ref (k.cl 5)) = some false
  kx_11_6 : PySem.W.kitOne K (.ref (k.cl 11)) (.ref (k.cl 6)) = some false
  kx_11_7 : PySem.W.kitOne K (.ref (k.cl 11)) (.ref (k.cl 7)) = some false
  kx_11_8 : PySem.W.kitOne K (.ref (k.cl 11)) (.ref (k.cl 8)) = some false
  kx_11_9 : PySem.W.kitOne K (.ref (k.cl 11)) (.ref (k.cl 9)) = some false
  kx_11_LookupError : PySem.W.kitOne K (.ref (k.cl 11)) (.type "LookupError") = some false
  kx_11_RuntimeError : PySem.W.kitOne K (.ref (k.cl 11)) (.type "RuntimeError") = some false
  kx_11_ValueError : PySem.W.kitOne K (.ref (k.cl 11)) (.type "ValueError") = some false
  kx_12_0 : PySem.W.kitOne K (.ref (k.cl 12)) (.ref (k.cl 0)) = some true
  kx_12_1 : PySem.W.kitOne K (.ref (k.cl 12)) (.ref (k.cl 1)) = some false
  kx_12_10 : PySem.W.kitOne K (.ref (k.cl 12)) (.ref (k.cl 10)) = some false
  kx_12_11 : PySem.W.kitOne K (.ref (k.cl 12)) (.ref (k.cl 11)) = some false
  kx_12_12 : PySem.W.kitOne K (.ref (k.cl 12)) (.ref (k.cl 12)) = some true
  kx_12_13 : PySem.W.kitOne K (.ref (k.cl 12)) (.ref (k.cl 13)) = some false
  kx_12_14 : PySem.W.kitOne K (.ref (k.cl 12)) (.ref (k.cl 14)) = some false
  kx_12_15 : PySem.W.kitOne K (.ref (k.cl 12)) (.ref (k.cl 15)) = some false
  kx_12_16 : PySem.W.kitOne K (.ref (k.cl 12)) (.ref (k.cl 16)) = some false
  kx_12_2 : PySem.W.kitOne K (.ref (k.cl 12)) (.ref (k.cl 2)) = some false
  kx_12_3 : PySem.W.kitOne K (.ref (k.cl 12)) (.ref (k.cl 3)) = some false
  kx_12_4 : PySem.W.kitOne K (.ref (k.cl 12)) (.ref (k.cl 4)) = some false
  kx_12_5 : PySem.W.kitOne K (.ref (k.cl 12)) (.ref (k.cl 5)) = some false
  kx_12_6 : PySem.W.kitOne K (.ref (k.cl 12)) (.ref (k.cl 6)) = some false
  kx_12_7 : PySem.W.kitOne K (.ref (k.cl 12)) (.ref (k.cl 7)) = some false
  kx_12_8 : PySem.W.kitOne K (.ref (k.cl 12)) (.ref (k.cl 8)) = some false
  kx_12_9 : PySem.W.kitOne K (.ref (k.cl 12)) (.ref (k.cl 9)) = some false
  kx_12_LookupError : PySem.W.kitOne K (.ref (k.cl 12)) (.type "LookupError") = some false
  kx_12_RuntimeError : PySem.W.kitOne K (.ref (k.cl 12)) (.type "RuntimeError") = some false
  kx_12_ValueError : PySem.W.kitOne K (.ref (k.cl 12)) (.type "ValueError") = some false
  kx_13_0 : PySem.W.kitOne K (.ref (k.cl 13)) (.ref (k.cl 0)) = some true
  kx_13_1 : PySem.W.kitOne K (.ref (k.cl 13)) (.ref (k.cl 1)) = some false
  kx_13_10 : PySem.W.kitOne K (.ref (k.cl 13)) (.ref (k.cl 10)) = some false
  kx_13_11 : PySem.W.kitOne K (.ref (k.cl 13)) (.ref (k.cl 11)) = some false
  kx_13_12 : PySem.W.kitOne K (.ref (k.cl 13)) (.ref (k.cl 12)) = some false
  kx_13_13 : PySem.W.kitOne K (.ref (k.cl 13)) (.ref (k.cl 13)) = some true
  kx_13_14 : PySem.W.kitOne K (.ref (k.cl 13)) (.ref (k.cl 14)) = some false
  kx_13_15 : PySem.W.kitOne K (.ref (k.cl 13)) (.ref (k.cl 15)) = some false
  kx_13_16 : PySem.W.kitOne K (.ref (k.cl 13)) (.ref (k.cl 16)) = some false
  kx_13_2 : PySem.W.kitOne K (.ref (k.cl 13)) (.ref (k.cl 2)) = some false
  kx_13_3 : PySem.W.kitOne K (.ref (k.cl 13)) (.ref (k.cl 3)) = some false
  kx_13_4 : PySem.W.kitOne K (.ref (k.cl 13)) (.ref (k.cl 4)) = some false
  kx_13_5 : PySem.W.kitOne K (.ref (k.cl 13)) (.ref (k.cl 5)) = some false
  kx_13_6 : PySem.W.kitOne K (.ref (k.cl 13)) (.ref (k.cl 6)) = some false
  kx_13_7 : PySem.W.kitOne K (.ref (k.cl 13)) (.ref (k.cl 7)) = some false
  kx_13_8 : PySem.W.kitOne K (.ref (k.cl 13)) (.ref (k.cl 8)) = some false
  kx_13_9 : PySem.W.kitOne K (.ref (k.cl 13)) (.ref (k.cl 9)) = some false
  kx_13_LookupError : PySem.W.kitOne K (.ref (k.cl 13)) (.type "LookupError") = some false
  kx_13_RuntimeError : PySem.W.kitOne K (.ref (k.cl 13)) (.type "RuntimeError") = some false
  kx_13_ValueError : PySem.W.kitOne K (.ref (k.cl 13)) (.type "ValueError") = some false
  kx_14_0 : PySem.W.kitOne K (.ref (k.cl 14)) (.ref (k.cl 0)) = some true
  kx_14_1 : PySem.W.kitOne K (.ref (k.cl 14)) (.ref (k.cl 1)) = some false
  kx_14_10 : PySem.W.kitOne K (.ref (k.cl 14)) (.ref (k.cl 10)) = some false
  kx_14_11 : PySem.W.kitOne K (.ref (k.cl 14)) (.ref (k.cl 11)) = some false
  kx_14_12 : PySem.W.kitOne K (.ref (k.cl 14)) (.ref (k.cl 12)) = some false
  kx_14_13 : PySem.W.kitOne K (.ref (k.cl 14)) (.ref (k.cl 13)) = some false
  kx_14_14 : PySem.W.kitOne K (.ref (k.cl 14)) (.ref (k.cl 14)) = some true
  kx_14_15 : PySem.W.kitOne K (.ref (k.cl 14)) (.ref (k.cl 15)) = some false
  kx_14_16 : PySem.W.kitOne K (.ref (k.cl 14)) (.ref (k.cl 16)) = some false
  kx_14_2 : PySem.W.kitOne K (.ref (k.cl 14)) (.ref (k.cl 2)) = some false
  kx_14_3 : PySem.W.kitOne K (.ref (k.cl 14)) (.ref (k.cl 3)) = some false
  kx_14_4 : PySem.W.kitOne K (.ref (k.cl 14)) (.ref (k.cl 4)) = some false
  kx_14_5 : PySem.W.kitOne K (.ref (k.cl 14)) (.ref (k.cl 5)) = some false
  kx_14_6 : PySem.W.kitOne K (.ref (k.cl 14)) (.ref (k.cl 6)) = some false
  kx_14_7 : PySem.W.kitOne K (.ref (k.cl 14)) (.ref (k.cl 7)) = some false
  kx_14_8 : PySem.W.kitOne K (.ref (k.cl 14)) (.ref (k.cl 8)) = some false
  kx_14_9 : PySem.W.kitOne K (.ref (k.cl 14)) (.ref (k.cl 9)) = some false
  kx_14_LookupError : PySem.W.kitOne K (.ref (k.cl 14)) (.type "LookupError") = some false
  kx_14_RuntimeError : PySem.W.kitOne K (.ref (k.cl 14)) (.type "RuntimeError") = some false
  kx_14_ValueError : PySem.W.kitOne K (.ref (k.cl 14)) (.type "ValueError") = some false
  kx_15_0 : PySem.W.kitOne K (.ref (k.cl 15)) (.ref (k.cl 0)) = some true
  kx_15_1 : PySem.W.kitOne K (.ref (k.cl 15)) (.ref (k.cl 1)) = some false
  kx_15_10 : PySem.W.kitOne K (.ref (k.cl 15)) (.ref (k.cl 10)) = some false
  kx_15_11 : PySem.W.kitOne K (.ref (k.cl 15)) (.ref (k.cl 11)) = some false
  kx_15_12 : PySem.W.kitOne K (.ref (k.cl 15)) (.ref (k.cl 12)) = some false
  kx_15_13 : PySem.W.kitOne K (.ref (k.cl 15)) (.ref (k.cl 13)) = some false
  kx_15_14 : PySem.W.kitOne K (.ref (k.cl 15)) (.ref (k.cl 14)) = some false
  kx_15_15 : PySem.W.kitOne K (.ref (k.cl 15)) (.ref (k.cl 15)) = some true
  kx_15_16 : PySem.W.kitOne K (.ref (k.cl 15)) (.ref (k.cl 16)) = some false
  kx_15_2 : PySem.W.kitOne K (.ref (k.cl 15)) (.ref (k.cl 2)) = some false
  kx_15_3 : PySem.W.kitOne K (.ref (k.cl 15)) (.ref (k.cl 3)) = some false
  kx_15_4 : PySem.W.kitOne K (.ref (k.cl 15)) (.ref (k.cl 4)) = some false
  kx_15_5 : PySem.W.kitOne K (.ref (k.cl 15)) (.ref (k.cl 5)) = some false
  kx_15_6 : PySem.W.kitOne K (.ref (k.cl 15)) (.ref (k.cl 6)) = some false
  kx_15_7 : PySem.W.kitOne K (.ref (k.cl 15)) (.ref (k.cl 7)) = some false
  kx_15_8 : PySem.W.kitOne K (.ref (k.cl 15)) (.ref (k.cl 8)) = some false
  kx_15_9 : PySem.W.kitOne K (.ref (k.cl 15)) (.ref (k.cl 9)) = some false
  kx_15_LookupError : PySem.W.kitOne K (.ref (k.cl 15)) (.type "LookupError") = some false
  kx_15_RuntimeError : PySem.W.kitOne K (.ref (k.cl 15)) (.type "RuntimeError") = some false
  kx_15_ValueError : PySem.W.kitOne K (.ref (k.cl 15)) (.type "ValueError") = some false
  kx_16_0 : PySem.W.kitOne K (.ref (k.cl 16)) (.ref (k.cl 0)) = some true
  kx_16_1 : PySem.W.kitOne K (.ref (k.cl 16)) (.ref (k.cl 1)) = some false
  kx_16_10 : PySem.W.kitOne K (.ref (k.cl 16)) (.ref (k.cl 10)) = some false
  kx_16_11 : PySem.W.kitOne K (.ref (k.cl 16)) (.ref (k.cl 11)) = some false
  kx_16_12 : PySem.W.kitOne K (.ref (k.cl 16)) (.ref (k.cl 12)) = some false
  kx_16_13 : PySem.W.kitOne K (.ref (k.cl 16)) (.ref (k.cl 13)) = some false
  kx_16_14 : PySem.W.kitOne K (.ref (k.cl 16)) (.ref (k.cl 14)) = some false
  kx_16_15 : PySem.W.kitOne K (.ref (k.cl 16)) (.ref (k.cl 15)) = some false
  kx_16_16 : PySem.W.kitOne K (.ref (k.cl 16)) (.ref (k.cl 16)) = some true
  kx_16_2 : PySem.W.kitOne K (.ref (k.cl 16)) (.ref (k.cl 2)) = some false
  kx_16_3 : PySem.W.kitOne K (.ref (k.cl 16)) (.ref (k.cl 3)) = some false
  kx_16_4 : PySem.W.kitOne K (.ref (k.cl 16)) (.ref (k.cl 4)) = some false
  kx_16_5 : PySem.W.kitOne K (.ref (k.cl 16)) (.ref (k.cl 5)) = some false
  kx_16_6 : PySem.W.kitOne K (.ref (k.cl 16)) (.ref (k.cl 6)) = some false
  kx_16_7 : PySem.W.kitOne K (.ref (k.cl 16)) (.ref (k.cl 7)) = some false
  kx_16_8 : PySem.W.kitOne K (.ref (k.cl 16)) (.ref (k.cl 8)) = some false
  kx_16_9 : PySem.W.kitOne K (.ref (k.cl 16)) (.ref (k.cl 9)) = some false
  kx_16_LookupError : PySem.W.kitOne K (.ref (k.cl 16)) (.type "LookupError") = some false
  kx_16_RuntimeError : PySem.W.kitOne K (.ref (k.cl 16)) (.type "RuntimeError") = some false
  kx_16_ValueError : PySem.W.kitOne K (.ref (k.cl 16)) (.type "ValueError") = some false
  kx_2_0 : PySem.W.kitOne K (.ref (k.cl 2)) (.ref (k.cl 0)) = some true
  kx_2_1 : PySem.W.kitOne K (.ref (k.cl 2)) (.ref (k.cl 1)) = some false
  kx_2_10 : PySem.W.kitOne K (.ref (k.cl 2)) (.ref (k.cl 10)) = some false
  kx_2_11 : PySem.W.kitOne K (.ref (k.cl 2)) (.ref (k.cl 11)) = some false
  kx_2_12 : PySem.W.kitOne K (.ref (k.cl 2)) (.ref (k.cl 12)) = some false
  kx_2_13 : PySem.W.kitOne K (.ref (k.cl 2)) (.ref (k.cl 13)) = some false
  kx_2_14 : PySem.W.kitOne K (.ref (k.cl 2)) (.ref (k.cl 14)) = some false
  kx_2_15 : PySem.W.kitOne K (.ref (k.cl 2)) (.ref (k.cl 15)) = some false
  kx_2_16 : PySem.W.kitOne K (.ref (k.cl 2)) (.ref (k.cl 16)) = some false
  kx_2_2 : PySem.W.kitOne K (.ref (k.cl 2)) (.ref (k.cl 2)) = some true
  kx_2_3 : PySem.W.kitOne K (.ref (k.cl 2)) (.ref (k.cl 3)) = some false
  kx_2_4 : PySem.W.kitOne K (.ref (k.cl 2)) (.ref (k.cl 4)) = some false
  kx_2_5 : PySem.W.kitOne K (.ref (k.cl 2)) (.ref (k.cl 5)) = some false
  kx_2_6 : PySem.W.kitOne K (.ref (k.cl 2)) (.ref (k.cl 6)) = some false
  kx_2_7 : PySem.W.kitOne K (.ref (k.cl 2)) (.ref (k.cl 7)) = some false
  kx_2_8 : PySem.W.kitOne K (.ref (k.cl 2)) (.ref (k.cl 8)) = some false
  kx_2_9 : PySem.W.kitOne K (.ref (k.cl 2)) (.ref (k.cl 9)) = some false
  kx_2_LookupError : PySem.W.kitOne K (.ref (k.cl 2)) (.type "LookupError") = some false
  kx_2_RuntimeError : PySem.W.kitOne K (.ref (k.cl 2)) (.type "RuntimeError") = some false
  kx_2_ValueError : PySem.W.kitOne K (.ref (k.cl 2)) (.type "ValueError") = some false
  kx_3_0 : PySem.W.kitOne K (.ref (k.cl 3)) (.ref (k.cl 0)) = some true
  kx_3_1 : PySem.W.kitOne K (.ref (k.cl 3)) (.ref (k.cl 1)) = some false
  kx_3_10 : PySem.W.kitOne K (.ref (k.cl 3)) (.ref (k.cl 10)) = some false
  kx_3_11 : PySem.W.kitOne K (.ref (k.cl 3)) (.ref (k.cl 11)) = some false
  kx_3_12 : PySem.W.kitOne K (.ref (k.cl 3)) (.ref (k.cl 12)) = some false
  kx_3_13 : PySem.W.kitOne K (.ref (k.cl 3)) (.ref (k.cl 13)) = some false
  kx_3_14 : PySem.W.kitOne K (.ref (k.cl 3)) (.ref (k.cl 14)) = some false
  kx_3_15 : PySem.W.kitOne K (.ref (k.cl 3)) (.ref (k.cl 15)) = some false
  kx_3_16 : PySem.W.kitOne K (.ref (k.cl 3)) (.ref (k.cl 16)) = some false
  kx_3_2 : PySem.W.kitOne K (.ref (k.cl 3)) (.ref (k.cl 2)) = some false
  kx_3_3 : PySem.W.kitOne K (.ref (k.cl 3)) (.ref (k.cl 3)) = some true
  kx_3_4 : PySem.W.kitOne K (.ref (k.cl 3)) (.ref (k.cl 4)) = some false
  kx_3_5 : PySem.W.kitOne K (.ref (k.cl 3)) (.ref (k.cl 5)) = some false
  kx_3_6 : PySem.W.kitOne K (.ref (k.cl 3)) (.ref (k.cl 6)) = some false
  kx_3_7 : PySem.W.kitOne K (.ref (k.cl 3)) (.ref (k.cl 7)) = some false
  kx_3_8 : PySem.W.kitOne K (.ref (k.cl 3)) (.ref (k.cl 8)) = some false
  kx_3_9 : PySem.W.kitOne K (.ref (k.cl 3)) (.ref (k.cl 9)) = some false
  kx_3_LookupError : PySem.W.kitOne K (.ref (k.cl 3)) (.type "LookupError") = some false
  kx_3_RuntimeError : PySem.W.kitOne K (.ref (k.cl 3)) (.type "RuntimeError") = some false
  kx_3_ValueError : PySem.W.kitOne K (.ref (k.cl 3)) (.type "ValueError") = some false
  kx_4_0 : PySem.W.kitOne K (.ref (k.cl 4)) (.ref (k.cl 0)) = some true
  kx_4_1 : PySem.W.kitOne K (.ref (k.cl 4)) (.ref (k.cl 1)) = some false
  kx_4_10 : PySem.W.kitOne K (.ref (k.cl 4)) (.ref (k.cl 10)) = some false
  kx_4_11 : PySem.W.kitOne K (.ref (k.cl 4)) (.ref (k.cl 11)) = some false
  kx_4_12 : PySem.W.kitOne K (.ref (k.cl 4)) (.ref (k.cl 12)) = some false
  kx_4_13 : PySem.W.kitOne K (.ref (k.cl 4)) (.ref (k.cl 13)) = some false
  kx_4_14 : PySem.W.kitOne K (.ref (k.cl 4)) (.ref (k.cl 14)) = some false
  kx_4_15 : PySem.W.kitOne K (.ref (k.cl 4)) (.ref (k.cl 15)) = some false
  kx_4_16 : PySem.W.kitOne K (.ref (k.cl 4)) (.ref (k.cl 16)) = some false
  kx_4_2 : PySem.W.kitOne K (.ref (k.cl 4)) (.ref (k.cl 2)) = some false
  kx_4_3 : PySem.W.kitOne K (.ref (k.cl 4)) (.ref (k.cl 3)) = some false
  kx_4_4 : PySem.W.kitOne K (.ref (k.cl 4)) (.ref (k.cl 4)) = some true
  kx_4_5 : PySem.W.kitOne K (.ref (k.cl 4)) (.ref (k.cl 5)) = some false
  kx_4_6 : PySem.W.kitOne K (.ref (k.cl 4)) (.ref (k.cl 6)) = some false
  kx_4_7 : PySem.W.kitOne K (.ref (k.cl 4)) (.ref (k.cl 7)) = some false
  kx_4_8 : PySem.W.kitOne K (.ref (k.cl 4)) (.ref (k.cl 8)) = some false
  kx_4_9 : PySem.W.kitOne K (.ref (k.cl 4)) (.ref (k.cl 9)) = some false
  kx_4_LookupError : PySem.W.kitOne K (.ref (k.cl 4)) (.type "LookupError") = some false
  kx_4_RuntimeError : PySem.W.kitOne K (.ref (k.cl 4)) (.type "RuntimeError") = some false
  kx_4_ValueError : PySem.W.kitOne K (.ref (k.cl 4)) (.type "ValueError") = some false
  kx_5_0 : PySem.W.kitOne K (.ref (k.cl 5)) (.ref (k.cl 0)) = some true
  kx_5_1 : PySem.W.kitOne K (.ref (k.cl 5)) (.ref (k.cl 1)) = some false
  kx_5_10 : PySem.W.kitOne K (.ref (k.cl 5)) (.ref (k.cl 10)) = some false
  kx_5_11 : PySem.W.kitOne K (.ref (k.cl 5)) (.ref (k.cl 11)) = some false
  kx_5_12 : PySem.W.kitOne K (.ref (k.cl 5)) (.ref (k.cl 12)) = some false
  kx_5_13 : PySem.W.kitOne K (.ref (k.cl 5)) (.ref (k.cl 13)) = some false
  kx_5_14 : PySem.W.kitOne K (.ref (k.cl 5)) (.ref (k.cl 14)) = some false
  kx_5_15 : PySem.W.kitOne K (.ref (k.cl 5)) (.ref (k.cl 15)) = some false
  kx_5_16 : PySem.W.kitOne K (.ref (k.cl 5)) (.ref (k.cl 16)) = some false
  kx_5_2 : PySem.W.kitOne K (.ref (k.cl 5)) (.ref (k.cl 2)) = some false
  kx_5_3 : PySem.W.kitOne K (.ref (k.cl 5)) (.ref (k.cl 3)) = some false
  kx_5_4 : PySem.W.kitOne K (.ref (k.cl 5)) (.ref (k.cl 4)) = some false
  kx_5_5 : PySem.W.kitOne K (.ref (k.cl 5)) (.ref (k.cl 5)) = some true
  kx_5_6 : PySem.W.kitOne K (.ref (k.cl 5)) (.ref (k.cl 6)) = some false
  kx_5_7 : PySem.W.kitOne K (.ref (k.cl 5)) (.ref (k.cl 7)) = some false
  kx_5_8 : PySem.W.kitOne K (.ref (k.cl 5)) (.ref (k.cl 8)) = some false
  kx_5_9 : PySem.W.kitOne K (.ref (k.cl 5)) (.ref (k.cl 9)) = some false
  kx_5_LookupError : PySem.W.kitOne K (.ref (k.cl 5)) (.type "LookupError") = some false
  kx_5_RuntimeError : PySem.W.kitOne K (.ref (k.cl 5)) (.type "RuntimeError") = some false
  kx_5_ValueError : PySem.W.kitOne K (.ref (k.cl 5)) (.type "ValueError") = some false
  kx_6_0 : PySem.W.kitOne K (.ref (k.cl 6)) (.ref (k.cl 0)) = some true
  kx_6_1 : PySem.W.kitOne K (.ref (k.cl 6)) (.ref (k.cl 1)) = some false
  kx_6_10 : PySem.W.kitOne K (.ref (k.cl 6)) (.ref (k.cl 10)) = some false
  kx_6_11 : PySem.W.kitOne K (.ref (k.cl 6)) (.ref (k.cl 11)) = some false
  kx_6_12 : PySem.W.kitOne K (.ref (k.cl 6)) (.ref (k.cl 12)) = some false
  kx_6_13 : PySem.W.kitOne K (.ref (k.cl 6)) (.ref (k.cl 13)) = some false
  kx_6_14 : PySem.W.kitOne K (.ref (k.cl 6)) (.ref (k.cl 14)) = some false
  kx_6_15 : PySem.W.kitOne K (.ref (k.cl 6)) (.ref (k.cl 15)) = some false
  kx_6_16 : PySem.W.kitOne K (.ref (k.cl 6)) (.ref (k.cl 16)) = some false
  kx_6_2 : PySem.W.kitOne K (.ref (k.cl 6)) (.ref (k.cl 2)) = some false
  kx_6_3 : PySem.W.kitOne K (.ref (k.cl 6)) (.ref (k.cl 3)) = some false
  kx_6_4 : PySem.W.kitOne K (.ref (k.cl 6)) (.ref (k.cl 4)) = some false
  kx_6_5 : PySem.W.kitOne K (.ref (k.cl 6)) (.ref (k.cl 5)) = some false
  kx_6_6 : PySem.W.kitOne K (.ref (k.cl 6)) (.ref (k.cl 6)) = some true
  kx_6_7 : PySem.W.kitOne K (.ref (k.cl 6)) (.ref (k.cl 7)) = some false
  kx_6_8 : PySem.W.kitOne K (.ref (k.cl 6)) (.ref (k.cl 8)) = some false
  kx_6_9 : PySem.W.kitOne K (.ref (k.cl 6)) (.ref (k.cl 9)) = some false
  kx_6_LookupError : PySem.W.kitOne K (.ref (k.cl 6)) (.type "LookupError") = some false
  kx_6_RuntimeError : PySem.W.kitOne K (.ref (k.cl 6)) (.type "RuntimeError") = some false
  kx_6_ValueError : PySem.W.kitOne K (.ref (k.cl 6)) (.type "ValueError") = some false
  kx_7_0 : PySem.W.kitOne K (.ref (k.cl 7)) (.ref (k.cl 0)) = some true
  kx_7_1 : PySem.W.kitOne K (.ref (k.cl 7)) (.ref (k.cl 1)) = some false
  kx_7_10 : PySem.W.kitOne K (.ref (k.cl 7)) (.ref (k.cl 10)) = some false
  kx_7_11 : PySem.W.kitOne K (.ref (k.cl 7)) (.ref (k.cl 11)) = some false
  kx_7_12 : PySem.W.kitOne K (.ref (k.cl 7)) (.ref (k.cl 12)) = some false
  kx_7_13 : PySem.W.kitOne K (.ref (k.cl 7)) (.ref (k.cl 13)) = some false
  kx_7_14 : PySem.W.kitOne K (.ref (k.cl 7)) (.ref (k.cl 14)) = some false
  kx_7_15 : PySem.W.kitOne K (.ref (k.cl 7)) (.ref (k.cl 15)) = some false
  kx_7_16 : PySem.W.kitOne K (.ref (k.cl 7)) (.ref (k.cl 16)) = some false
  kx_7_2 : PySem.W.kitOne K (.ref (k.cl 7)) (.ref (k.cl 2)) = some false
  kx_7_3 : PySem.W.kitOne K (.ref (k.cl 7)) (.ref (k.cl 3)) = some false
  kx_7_4 : PySem.W.kitOne K (.ref (k.cl 7)) (.ref (k.cl 4)) = some false
  kx_7_5 : PySem.W.kitOne K (.ref (k.cl 7)) (.ref (k.cl 5)) = some false
  kx_7_6 : PySem.W.kitOne K (.ref (k.cl 7)) (.ref (k.cl 6)) = some false
  kx_7_7 : PySem.W.kitOne K (.ref (k.cl 7)) (.ref (k.cl 7)) = some true
  kx_7_8 : PySem.W.kitOne K (.ref (k.cl 7)) (.ref (k.cl 8)) = some false
  kx_7_9 : PySem.W.kitOne K (.ref (k.cl 7)) (.ref (k.cl 9)) = some false
  kx_7_LookupError : PySem.W.kitOne K (.ref (k.cl 7)) (.type "LookupError") = some false
  kx_7_RuntimeError : PySem.W.kitOne K (.ref (k.cl 7)) (.type "RuntimeError") = some false
  kx_7_ValueError : PySem.W.kitOne K (.ref (k.cl 7)) (.type "ValueError") = some false
  kx_8_0 : PySem.W.kitOne K (.ref (k.cl 8)) (.ref (k.cl 0)) = some true
  kx_8_1 : PySem.W.kitOne K (.ref (k.cl 8)) (.ref (k.cl 1)) = some false
  kx_8_10 : PySem.W.kitOne K (.ref (k.cl 8)) (.ref (k.cl 10)) = some false
  kx_8_11 : PySem.W.kitOne K (.ref (k.cl 8)) (.ref (k.cl 11)) = some false
  kx_8_12 : PySem.W.kitOne K (.ref (k.cl 8)) (.ref (k.cl 12)) = some false
  kx_8_13 : PySem.W.kitOne K (.ref (k.cl 8)) (.ref (k.cl 13)) = some false
  kx_8_14 : PySem.W.kitOne K (.ref (k.cl 8)) (.ref (k.cl 14)) = some false
  kx_8_15 : PySem.W.kitOne K (.ref (k.cl 8)) (.ref (k.cl 15)) = some false
  kx_8_16 : PySem.W.kitOne K (.ref (k.cl 8)) (.ref (k.cl 16)) = some false
  kx_8_2 : PySem.W.kitOne K (.ref (k.cl 8)) (.ref (k.cl 2)) = some false
  kx_8_3 : PySem.W.kitOne K (.ref (k.cl 8)) (.ref (k.cl 3)) = some false
  kx_8_4 : PySem.W.kitOne K (.ref (k.cl 8)) (.ref (k.cl 4)) = some false
  kx_8_5 : PySem.W.kitOne K (.ref (k.cl 8)) (.ref (k.cl 5)) = some false
  kx_8_6 : PySem.W.kitOne K (.ref (k.cl 8)) (.ref (k.cl 6)) = some false
  kx_8_7 : PySem.W.kitOne K (.ref (k.cl 8)) (.ref (k.cl 7)) = some false
  kx_8_8 : PySem.W.kitOne K (.ref (k.cl 8)) (.ref (k.cl 8)) = some true
  kx_8_9 : PySem.W.kitOne K (.ref (k.cl 8)) (.ref (k.cl 9)) = some false
  kx_8_LookupError : PySem.W.kitOne K (.ref (k.cl 8)) (.type "LookupError") = some false
  kx_8_RuntimeError : PySem.W.kitOne K (.ref (k.cl 8)) (.type "RuntimeError") = some false
  kx_8_ValueError : PySem.W.kitOne K (.ref (k.cl 8)) (.type "ValueError") = some false
  kx_9_0 : PySem.W.kitOne K (.ref (k.cl 9)) (.ref (k.cl 0)) = some true
  kx_9_1 : PySem.W.kitOne K (.ref (k.cl 9)) (.ref (k.cl 1)) = some false
  kx_9_10 : PySem.W.kitOne K (.ref (k.cl 9)) (.ref (k.cl 10)) = some false
  kx_9_11 : PySem.W.kitOne K (.ref (k.cl 9)) (.ref (k.cl 11)) = some false
  kx_9_12 : PySem.W.kitOne K (.ref (k.cl 9)) (.ref (k.cl 12)) = some false
  kx_9_13 : PySem.W.kitOne K (.ref (k.cl 9)) (.ref (k.cl 13)) = some false
  kx_9_14 : PySem.W.kitOne K (.ref (k.cl 9)) (.ref (k.cl 14)) = some false
  kx_9_15 : PySem.W.kitOne K (.ref (k.cl 9)) (.ref (k.cl 15)) = some false
  kx_9_16 : PySem.W.kitOne K (.ref (k.cl 9)) (.ref (k.cl 16)) = some false
  kx_9_2 : PySem.W.kitOne K (.ref (k.cl 9)) (.ref (k.cl 2)) = some false
  kx_9_3 : PySem.W.kitOne K (.ref (k.cl 9)) (.ref (k.cl 3)) = some false
  kx_9_4 : PySem.W.kitOne K (.ref (k.cl 9)) (.ref (k.cl 4)) = some false
  kx_9_5 : PySem.W.kitOne K (.ref (k.cl 9)) (.ref (k.cl 5)) = some false
  kx_9_6 : PySem.W.kitOne K (.ref (k.cl 9)) (.ref (k.cl 6)) = some false
  kx_9_7 : PySem.W.kitOne K (.ref (k.cl 9)) (.ref (k.cl 7)) = some false
  kx_9_8 : PySem.W.kitOne K (.ref (k.cl 9)) (.ref (k.cl 8)) = some false
  kx_9_9 : PySem.W.kitOne K (.ref (k.cl 9)) (.ref (k.cl 9)) = some true
  kx_9_LookupError : PySem.W.kitOne K (.ref (k.cl 9)) (.type "LookupError") = some false
  kx_9_RuntimeError : PySem.W.kitOne K (.ref (k.cl 9)) (.type "RuntimeError") = some false
  kx_9_ValueError : PySem.W.kitOne K (.ref (k.cl 9)) (.type "ValueError") = some false
  z_LookupError : mg "LookupError" = none
  z_RuntimeError : mg "RuntimeError" = none
  z_ValueError : mg "ValueError" = none
  z_int : mg "int" = none
  z_isinstance : mg "isinstance" = none
  z_len : mg "len" = none
  z_max : mg "max" = none
  z_min : mg "min" = none
  z_range : mg "range" = none
  z_repr : mg "repr" = none
def TBs (ca ta : Nat → Addr) (base : Heap) (mg : Str → Option Value) : Prop := SysD base ∧ ∀ i ∈ ([] : List Nat), LamX.TabB base mg (ca i) (ta i)
section
variable {P : Program} {w : World} {k : Kx} {ad ca ta : Nat → Addr} {K : PySem.W.Frag} {mg : Str → Option Value} {base : Heap}
theorem sc_source : FnScope ["_law_script", "_law_turn", "_law_cell", "_law_number", "_law_seed"] ["_law_script", "_law_turn"] (defScope s_source) := ⟨rfl, rfl, rfl, by decide +kernel, rfl, by decide +kernel, by decide +kernel⟩
theorem ok_source (T : Txt P k ad ca ta K mg) : FnR P w K mg base (L2.CX P w) 1 (ad 0) (spD k K 2 d_source) :=
  fnr_ok (N := ["_law_script", "_law_turn", "_law_cell", "_law_number", "_law_seed"]) (ps := ["_law_script", "_law_turn"]) (lvl := 0) (m := b_source) T.f_source sc_source (fun cdv A outer s H E hr =>
  (jb_cons (js_set 2 sc_source.nd rfl (by first | exact Or.inl rfl | exact Or.inr rfl) j_int)
  (jb_cons (js_if (jt_cmp (b_lt hr.units0) (j_var 1) (j_callB f_len rfl T.z_len (by decide +kernel) (ja_cons (j_var 0) ja_nil)) (nomark _)) (jb_one (js_set 2 sc_source.nd rfl (by first | exact Or.inl rfl | exact Or.inr rfl) (j_ix (j_var 0) (j_var 1) (fun _ _ => rfl)))) jb_nil)
  (jb_cons (js_set 3 sc_source.nd rfl (by first | exact Or.inl rfl | exact Or.inr rfl) (j_callB (f_max rfl) rfl T.z_max (by decide +kernel) (ja_cons (j_var 2) (ja_cons (j_op b_sub (j_un u_neg j_int) (j_var 2)) ja_nil))))
  (jb_cons (js_set 4 sc_source.nd rfl (by first | exact Or.inl rfl | exact Or.inr rfl) (j_op b_mod (j_callTy f_int rfl T.z_int (by decide +kernel) (ja_cons (j_op b_add (j_op b_add (j_op b_mul (j_op b_mod (j_callTy f_int rfl T.z_int (by decide +kernel) (ja_cons (j_var 3) ja_nil)) j_int) j_int) (j_op b_mul j_int (j_var 1))) j_int) ja_nil)) j_int))
  (jb_cons (js_if (jt_cmp (b_lt hr.units0) (j_var 3) (j_op b_pow j_int j_int) (nomark _)) (jb_one (js_set 3 sc_source.nd rfl (by first | exact Or.inl rfl | exact Or.inr rfl) j_int)) jb_nil)
  (jb_one (js_ret (j_lstM (ja_cons (j_var 3) (ja_cons (j_var 4) ja_nil)))))))))))
theorem sc_draw : FnScope ["_law_source_here", "_law_amount", "_law_digit"] ["_law_source_here", "_law_amount"] (defScope s_draw) := ⟨rfl, rfl, rfl, by decide +kernel, rfl, by decide +kernel, by decide +kernel⟩
theorem ok_draw (T : Txt P k ad ca ta K mg) : FnR P w K mg base (L2.CX P w) 1 (ad 1) (spD k K 2 d_draw) :=
  fnr_ok (N := ["_law_source_here", "_law_amount", "_law_digit"]) (ps := ["_law_source_here", "_law_amount"]) (lvl := 0) (m := b_draw) T.f_draw sc_draw (fun cdv A outer s H E hr =>
  (jb_cons (js_if (jt_cmp b_gt (j_ix (j_var 0) j_int (fun _ _ => rfl)) j_int (nomark _)) (jb_cons (js_set 2 sc_draw.nd rfl (by first | exact Or.inl rfl | exact Or.inr rfl) (j_op b_mod (j_callTy f_int rfl T.z_int (by decide +kernel) (ja_cons (j_ix (j_var 0) j_int (fun _ _ => rfl)) ja_nil)) (j_var 1)))
  (jb_cons (js_setIx (j_op b_fdv (j_ix (j_var 0) j_int (fun _ _ => rfl)) (j_var 1)) (j_var 0) j_int)
  (jb_one (js_ret (j_var 2))))) jb_nil)
  (jb_cons (js_setIx (j_op b_mod (j_callTy f_int rfl T.z_int (by decide +kernel) (ja_cons (j_op b_add (j_op b_mul (j_ix (j_var 0) j_int (fun _ _ => rfl)) j_int) j_int) ja_nil)) j_int) (j_var 0) j_int)
  (jb_one (js_ret (j_op b_mod (j_callTy f_int rfl T.z_int (by decide +kernel) (ja_cons (j_op b_fdv (j_op b_mod (j_callTy f_int rfl T.z_int (by decide +kernel) (ja_cons (j_op b_mul (j_ix (j_var 0) j_int (fun _ _ => rfl)) (j_ix (j_var 0) j_int (fun _ _ => rfl))) ja_nil)) j_int) j_int) ja_nil)) (j_var 1)))))))
theorem sc_pick : FnScope ["_law_source_here", "_law_items"] ["_law_source_here", "_law_items"] (defScope s_pick) := ⟨rfl, rfl, rfl, by decide +kernel, rfl, by decide +kernel, by decide +kernel⟩
theorem ok_pick (T : Txt P k ad ca ta K mg) : FnR P w K mg base (L2.CX P w) 2 (ad 2) (spD k K 2 d_pick) :=
  fnr_ok (N := ["_law_source_here", "_law_items"]) (ps := ["_law_source_here", "_law_items"]) (lvl := 1) (m := b_pick) T.f_pick sc_pick (fun cdv A outer s H E hr =>
  (jb_one (js_ret (j_ix (j_var 1) (j_call (ok_draw (P := P) (w := w) (base := base) T) (hr.mono (by decide)) pass_def rfl T.m_draw T.f_draw.kp (ja_cons (j_var 0) (ja_cons (j_callB f_len rfl T.z_len (by decide +kernel) (ja_cons (j_var 1) ja_nil)) ja_nil))) (fun _ _ => rfl)))))
theorem sc_made : FnScope ["_law_one", "_law_two", "_law_every"] ["_law_one", "_law_two"] (defScope s_made) := ⟨rfl, rfl, rfl, by decide +kernel, rfl, by decide +kernel, by decide +kernel⟩
theorem ok_made (T : Txt P k ad ca ta K mg) : FnR P w K mg base (L2.CX P w) 2 (ad 3) (spD k K 2 d_made) :=
  fnr_ok (N := ["_law_one", "_law_two", "_law_every"]) (ps := ["_law_one", "_law_two"]) (lvl := 1) (m := b_made) T.f_made sc_made (fun cdv A outer s H E hr =>
  (jb_cons (js_set 2 sc_made.nd rfl (by first | exact Or.inl rfl | exact Or.inr rfl) (j_lst (ja_cons (j_err_of (a := .Name "x" ⟨0, 0, 0, 0⟩) (pe_err1 (lvl := 0) T.em_1.choose_spec.1 T.em_1.choose_spec.2 T.nfe_1 (fun _ _ _ _ _ _ _ _ _ _ => .of_eq rfl) (hr.mono (by decide)) rfl T.ge_1 (j_var 0) rfl (by decide)) T.xf_1) (ja_cons (j_err_of (a := .Name "x" ⟨0, 0, 0, 0⟩) (pe_err1 (lvl := 0) T.em_2.choose_spec.1 T.em_2.choose_spec.2 T.nfe_2 (fun _ _ _ _ _ _ _ _ _ _ => .of_eq rfl) (hr.mono (by decide)) rfl T.ge_2 (j_var 0) rfl (by decide)) T.xf_2) (ja_cons (j_err_of (a := .Name "x" ⟨0, 0, 0, 0⟩) (pe_err1 (lvl := 0) T.em_3.choose_spec.1 T.em_3.choose_spec.2 T.nfe_3 (fun _ _ _ _ _ _ _ _ _ _ => .of_eq rfl) (hr.mono (by decide)) rfl T.ge_3 (j_var 0) rfl (by decide)) T.xf_3) (ja_cons (j_err_of (a := .Name "x" ⟨0, 0, 0, 0⟩) (pe_err1 (lvl := 0) T.em_4.choose_spec.1 T.em_4.choose_spec.2 T.nfe_4 (fun _ _ _ _ _ _ _ _ _ _ => .of_eq rfl) (hr.mono (by decide)) rfl T.ge_4 (j_var 0) rfl (by decide)) T.xf_4) (ja_cons (j_err_of (a := .Name "x" ⟨0, 0, 0, 0⟩) (pe_err1 (lvl := 0) T.em_5.choose_spec.1 T.em_5.choose_spec.2 T.nfe_5 (fun _ _ _ _ _ _ _ _ _ _ => .of_eq rfl) (hr.mono (by decide)) rfl T.ge_5 (j_var 0) rfl (by decide)) T.xf_5) ja_nil)))))))
  (jb_cons (js_set 2 sc_made.nd rfl (by first | exact Or.inl rfl | exact Or.inr rfl) (j_op b_add (j_var 2) (j_lst (ja_cons (j_err_of (a := .Name "x" ⟨0, 0, 0, 0⟩) (pe_err1 (lvl := 0) T.em_6.choose_spec.1 T.em_6.choose_spec.2 T.nfe_6 (fun _ _ _ _ _ _ _ _ _ _ => .of_eq rfl) (hr.mono (by decide)) rfl T.ge_6 (j_var 0) rfl (by decide)) T.xf_6) (ja_cons (j_err_of (a := .Name "x" ⟨0, 0, 0, 0⟩) (pe_err1 (lvl := 0) T.em_7.choose_spec.1 T.em_7.choose_spec.2 T.nfe_7 (fun _ _ _ _ _ _ _ _ _ _ => .of_eq rfl) (hr.mono (by decide)) rfl T.ge_7 (j_var 0) rfl (by decide)) T.xf_7) (ja_cons (j_err_of (a := .Name "x" ⟨0, 0, 0, 0⟩) (pe_err1 (lvl := 0) T.em_8.choose_spec.1 T.em_8.choose_spec.2 T.nfe_8 (fun _ _ _ _ _ _ _ _ _ _ => .of_eq rfl) (hr.mono (by decide)) rfl T.ge_8 (j_var 0) rfl (by decide)) T.xf_8) (ja_cons (j_err_of (a := .Name "x" ⟨0, 0, 0, 0⟩) (pe_err1 (lvl := 0) T.em_9.choose_spec.1 T.em_9.choose_spec.2 T.nfe_9 (fun _ _ _ _ _ _ _ _ _ _ => .of_eq rfl) (hr.mono (by decide)) rfl T.ge_9 (j_var 0) rfl (by decide)) T.xf_9) ja_nil)))))))
  (jb_cons (js_set 2 sc_made.nd rfl (by first | exact Or.inl rfl | exact Or.inr rfl) (j_op b_add (j_var 2) (j_lst (ja_cons (j_err_of (a := .Name "x" ⟨0, 0, 0, 0⟩) (pe_err1 (lvl := 0) T.em_10.choose_spec.1 T.em_10.choose_spec.2 T.nfe_10 (fun _ _ _ _ _ _ _ _ _ _ => .of_eq rfl) (hr.mono (by decide)) rfl T.ge_10 (j_var 0) rfl (by decide)) T.xf_10) (ja_cons (j_err_of (a := .Name "x" ⟨0, 0, 0, 0⟩) (pe_err1 (lvl := 0) T.em_11.choose_spec.1 T.em_11.choose_spec.2 T.nfe_11 (fun _ _ _ _ _ _ _ _ _ _ => .of_eq rfl) (hr.mono (by decide)) rfl T.ge_11 (j_var 0) rfl (by decide)) T.xf_11) (ja_cons (j_err_of (a := .Name "x" ⟨0, 0, 0, 0⟩) (pe_err1 (lvl := 0) T.em_12.choose_spec.1 T.em_12.choose_spec.2 T.nfe_12 (fun _ _ _ _ _ _ _ _ _ _ => .of_eq rfl) (hr.mono (by decide)) rfl T.ge_12 (j_var 0) rfl (by decide)) T.xf_12) (ja_cons (j_err_of (a := .Name "x" ⟨0, 0, 0, 0⟩) (pe_err1 (lvl := 0) T.em_13.choose_spec.1 T.em_13.choose_spec.2 T.nfe_13 (fun _ _ _ _ _ _ _ _ _ _ => .of_eq rfl) (hr.mono (by decide)) rfl T.ge_13 (j_var 0) rfl (by decide)) T.xf_13) (ja_cons (j_err_of (a := .Name "x" ⟨0, 0, 0, 0⟩) (pe_err1 (lvl := 0) T.em_14.choose_spec.1 T.em_14.choose_spec.2 T.nfe_14 (fun _ _ _ _ _ _ _ _ _ _ => .of_eq rfl) (hr.mono (by decide)) rfl T.ge_14 (j_var 0) rfl (by decide)) T.xf_14) ja_nil))))))))
  (jb_one (js_ret (j_op b_add (j_var 2) (j_lst (ja_cons (j_err_of (a := .Name "x" ⟨0, 0, 0, 0⟩) (pe_err1 (lvl := 0) T.em_16.choose_spec.1 T.em_16.choose_spec.2 T.nfe_16 (fun _ _ _ _ _ _ _ _ _ _ => .of_eq rfl) (hr.mono (by decide)) rfl T.ge_16 (j_var 0) rfl (by decide)) T.xf_16) (ja_cons (j_err2 (pe_err2 (lvl := 0) T.em_15.choose_spec.1 T.em_15.choose_spec.2 T.nfe_15 T.nf2_15 rfl (fun _ _ _ _ _ _ _ _ _ _ _ => .of_eq rfl) (hr.mono (by decide)) rfl T.ge_15 (ja_cons (j_var 0) (ja_cons (j_var 1) ja_nil)) rfl rfl (by decide)) T.xf_15) ja_nil))))))))))
theorem sc_named : FnScope ["_law_one", "_law_two", "_law_every"] ["_law_one", "_law_two"] (defScope s_named) := ⟨rfl, rfl, rfl, by decide +kernel, rfl, by decide +kernel, by decide +kernel⟩
theorem ok_named (T : Txt P k ad ca ta K mg) : FnR P w K mg base (L2.CX P w) 2 (ad 4) (spD k K 2 d_named) :=
  fnr_ok (N := ["_law_one", "_law_two", "_law_every"]) (ps := ["_law_one", "_law_two"]) (lvl := 1) (m := b_named) T.f_named sc_named (fun cdv A outer s H E hr =>
  (jb_cons (js_set 2 sc_named.nd rfl (by first | exact Or.inl rfl | exact Or.inr rfl) (j_lst (ja_cons (j_err_of (a := .Name "x" ⟨0, 0, 0, 0⟩) (pe_err1K (lvl := 0) T.em_1.choose_spec.1 T.em_1.choose_spec.2 T.nfe_1 (fun _ _ _ _ _ _ _ _ _ _ => .of_eq rfl) (hr.mono (by decide)) rfl T.ge_1 (j_var 0) (by decide)) T.xf_1) (ja_cons (j_err_of (a := .Name "x" ⟨0, 0, 0, 0⟩) (pe_err1K (lvl := 0) T.em_2.choose_spec.1 T.em_2.choose_spec.2 T.nfe_2 (fun _ _ _ _ _ _ _ _ _ _ => .of_eq rfl) (hr.mono (by decide)) rfl T.ge_2 (j_var 0) (by decide)) T.xf_2) (ja_cons (j_err_of (a := .Name "x" ⟨0, 0, 0, 0⟩) (pe_err1K (lvl := 0) T.em_3.choose_spec.1 T.em_3.choose_spec.2 T.nfe_3 (fun _ _ _ _ _ _ _ _ _ _ => .of_eq rfl) (hr.mono (by decide)) rfl T.ge_3 (j_var 0) (by decide)) T.xf_3) (ja_cons (j_err_of (a := .Name "x" ⟨0, 0, 0, 0⟩) (pe_err1K (lvl := 0) T.em_4.choose_spec.1 T.em_4.choose_spec.2 T.nfe_4 (fun _ _ _ _ _ _ _ _ _ _ => .of_eq rfl) (hr.mono (by decide)) rfl T.ge_4 (j_var 0) (by decide)) T.xf_4) ja_nil))))))
  (jb_cons (js_set 2 sc_named.nd rfl (by first | exact Or.inl rfl | exact Or.inr rfl) (j_op b_add (j_var 2) (j_lst (ja_cons (j_err_of (a := .Name "x" ⟨0, 0, 0, 0⟩) (pe_err1K (lvl := 0) T.em_5.choose_spec.1 T.em_5.choose_spec.2 T.nfe_5 (fun _ _ _ _ _ _ _ _ _ _ => .of_eq rfl) (hr.mono (by decide)) rfl T.ge_5 (j_var 0) (by decide)) T.xf_5) (ja_cons (j_err_of (a := .Name "x" ⟨0, 0, 0, 0⟩) (pe_err1K (lvl := 0) T.em_6.choose_spec.1 T.em_6.choose_spec.2 T.nfe_6 (fun _ _ _ _ _ _ _ _ _ _ => .of_eq rfl) (hr.mono (by decide)) rfl T.ge_6 (j_var 0) (by decide)) T.xf_6) (ja_cons (j_err_of (a := .Name "x" ⟨0, 0, 0, 0⟩) (pe_err1K (lvl := 0) T.em_7.choose_spec.1 T.em_7.choose_spec.2 T.nfe_7 (fun _ _ _ _ _ _ _ _ _ _ => .of_eq rfl) (hr.mono (by decide)) rfl T.ge_7 (j_var 0) (by decide)) T.xf_7) ja_nil))))))
  (jb_cons (js_set 2 sc_named.nd rfl (by first | exact Or.inl rfl | exact Or.inr rfl) (j_op b_add (j_var 2) (j_lst (ja_cons (j_err_of (a := .Name "x" ⟨0, 0, 0, 0⟩) (pe_err1K (lvl := 0) T.em_8.choose_spec.1 T.em_8.choose_spec.2 T.nfe_8 (fun _ _ _ _ _ _ _ _ _ _ => .of_eq rfl) (hr.mono (by decide)) rfl T.ge_8 (j_var 0) (by decide)) T.xf_8) (ja_cons (j_err_of (a := .Name "x" ⟨0, 0, 0, 0⟩) (pe_err1K (lvl := 0) T.em_9.choose_spec.1 T.em_9.choose_spec.2 T.nfe_9 (fun _ _ _ _ _ _ _ _ _ _ => .of_eq rfl) (hr.mono (by decide)) rfl T.ge_9 (j_var 0) (by decide)) T.xf_9) (ja_cons (j_err_of (a := .Name "x" ⟨0, 0, 0, 0⟩) (pe_err1K (lvl := 0) T.em_10.choose_spec.1 T.em_10.choose_spec.2 T.nfe_10 (fun _ _ _ _ _ _ _ _ _ _ => .of_eq rfl) (hr.mono (by decide)) rfl T.ge_10 (j_var 0) (by decide)) T.xf_10) ja_nil))))))
  (jb_cons (js_set 2 sc_named.nd rfl (by first | exact Or.inl rfl | exact Or.inr rfl) (j_op b_add (j_var 2) (j_lst (ja_cons (j_err_of (a := .Name "x" ⟨0, 0, 0, 0⟩) (pe_err1K (lvl := 0) T.em_11.choose_spec.1 T.em_11.choose_spec.2 T.nfe_11 (fun _ _ _ _ _ _ _ _ _ _ => .of_eq rfl) (hr.mono (by decide)) rfl T.ge_11 (j_var 0) (by decide)) T.xf_11) (ja_cons (j_err_of (a := .Name "x" ⟨0, 0, 0, 0⟩) (pe_err1K (lvl := 0) T.em_12.choose_spec.1 T.em_12.choose_spec.2 T.nfe_12 (fun _ _ _ _ _ _ _ _ _ _ => .of_eq rfl) (hr.mono (by decide)) rfl T.ge_12 (j_var 0) (by decide)) T.xf_12) (ja_cons (j_err_of (a := .Name "x" ⟨0, 0, 0, 0⟩) (pe_err1K (lvl := 0) T.em_13.choose_spec.1 T.em_13.choose_spec.2 T.nfe_13 (fun _ _ _ _ _ _ _ _ _ _ => .of_eq rfl) (hr.mono (by decide)) rfl T.ge_13 (j_var 0) (by decide)) T.xf_13) (ja_cons (j_err_of (a := .Name "x" ⟨0, 0, 0, 0⟩) (pe_err1K (lvl := 0) T.em_14.choose_spec.1 T.em_14.choose_spec.2 T.nfe_14 (fun _ _ _ _ _ _ _ _ _ _ => .of_eq rfl) (hr.mono (by decide)) rfl T.ge_14 (j_var 0) (by decide)) T.xf_14) ja_nil)))))))
  (jb_one (js_ret (j_op b_add (j_var 2) (j_lst (ja_cons (j_err_of (a := .Name "x" ⟨0, 0, 0, 0⟩) (pe_err1K (lvl := 0) T.em_16.choose_spec.1 T.em_16.choose_spec.2 T.nfe_16 (fun _ _ _ _ _ _ _ _ _ _ => .of_eq rfl) (hr.mono (by decide)) rfl T.ge_16 (j_var 0) (by decide)) T.xf_16) (ja_cons (j_err2S (pe_err2K (lvl := 0) T.em_15.choose_spec.1 T.em_15.choose_spec.2 T.nfe_15 T.nf2_15 rfl (fun _ _ _ _ _ _ _ _ _ _ _ => .of_eq rfl) (hr.mono (by decide)) rfl T.ge_15 (jk_cons (j_var 1) (jk_cons (j_var 0) jk_nil)) (by decide)) T.xf_15) ja_nil)))))))))))
theorem sc_kept : FnScope ["_law_made_here", "_law_every", "_law_error"] ["_law_made_here"] (defScope s_kept) := ⟨rfl, rfl, rfl, by decide +kernel, rfl, by decide +kernel, by decide +kernel⟩
theorem ok_kept (T : Txt P k ad ca ta K mg) : FnR P w K mg base (L2.CX P w) 1 (ad 5) (spD k K 1 d_kept) :=
  fnr_ok (N := ["_law_made_here", "_law_every", "_law_error"]) (ps := ["_law_made_here"]) (lvl := 0) (m := b_kept) T.f_kept sc_kept (fun cdv A outer s H E hr =>
  (jb_cons (js_set 1 sc_kept.nd rfl (by first | exact Or.inl rfl | exact Or.inr rfl) (j_op b_add (j_comp (own := [("_law_error", 2)]) (by decide) rfl sc_kept.nd (ji_seq (j_slice (j_var 0) jo_none (jo_some j_int))) (blkOk_by (N := ["_law_made_here", "_law_every", "_law_error"]) (sc := defScope s_kept) (by decide +kernel)) (fun _ _ _ _ _ => (jg_name 2 sc_kept.nd rfl (by first | exact Or.inl rfl | exact Or.inr rfl))) (fun _ _ _ _ _ => jts_nil) (fun _ _ _ _ _ => (j_xat (tab := [(1, 0), (2, 0), (3, 0), (4, 0), (5, 0), (6, 0), (7, 0), (8, 0), (9, 0)]) (xa_cons (xa_one T.xfc_1 T.nfe_1 T.xf_1) (xa_cons (xa_one T.xfc_2 T.nfe_2 T.xf_2) (xa_cons (xa_one T.xfc_3 T.nfe_3 T.xf_3) (xa_cons (xa_one T.xfc_4 T.nfe_4 T.xf_4) (xa_cons (xa_one T.xfc_5 T.nfe_5 T.xf_5) (xa_cons (xa_one T.xfc_6 T.nfe_6 T.xf_6) (xa_cons (xa_one T.xfc_7 T.nfe_7 T.xf_7) (xa_cons (xa_one T.xfc_8 T.nfe_8 T.xf_8) (xa_cons (xa_one T.xfc_9 T.nfe_9 T.xf_9) xa_nil))))))))) (j_var 2)))) (j_lst (ja_cons (j_xat (tab := [(10, 0)]) (xa_cons (xa_one T.xfc_10 T.nfe_10 T.xf_10) xa_nil) (j_ix (j_var 0) j_int (fun _ _ => rfl))) (ja_cons (j_xat (tab := [(11, 0)]) (xa_cons (xa_one T.xfc_11 T.nfe_11 T.xf_11) xa_nil) (j_ix (j_var 0) j_int (fun _ _ => rfl))) (ja_cons (j_xat (tab := [(12, 0)]) (xa_cons (xa_one T.xfc_12 T.nfe_12 T.xf_12) xa_nil) (j_ix (j_var 0) j_int (fun _ _ => rfl))) (ja_cons (j_xat (tab := [(13, 0), (15, 1)]) (xa_cons (xa_one T.xfc_13 T.nfe_13 T.xf_13) (xa_cons (xa_two1 T.xfc_15 T.nf2_15 T.xf_15 (by decide)) xa_nil)) (j_ix (j_var 0) j_int (fun _ _ => rfl))) ja_nil)))))))
  (jb_one (js_ret (j_op b_add (j_var 1) (j_lst (ja_cons (j_xat (tab := [(14, 0)]) (xa_cons (xa_one T.xfc_14 T.nfe_14 T.xf_14) xa_nil) (j_ix (j_var 0) j_int (fun _ _ => rfl))) (ja_cons (j_xat (tab := [(16, 0)]) (xa_cons (xa_one T.xfc_16 T.nfe_16 T.xf_16) xa_nil) (j_ix (j_var 0) j_int (fun _ _ => rfl))) (ja_cons (j_xat (tab := [(15, 0)]) (xa_cons (xa_two0 T.xfc_15 T.nfe_15 T.xf_15) xa_nil) (j_ix (j_var 0) j_int (fun _ _ => rfl))) ja_nil)))))))))
theorem sc_kinds : FnScope ["_law_error", "_law_every"] ["_law_error"] (defScope s_kinds) := ⟨rfl, rfl, rfl, by decide +kernel, rfl, by decide +kernel, by decide +kernel⟩
theorem ok_kinds (T : Txt P k ad ca ta K mg) : FnR P w K mg base (L2.CX P w) 1 (ad 6) (spD k K 1 d_kinds) :=
  fnr_ok (N := ["_law_error", "_law_every"]) (ps := ["_law_error"]) (lvl := 0) (m := b_kinds) T.f_kinds sc_kinds (fun cdv A outer s H E hr =>
  (jb_cons (js_set 1 sc_kinds.nd rfl (by first | exact Or.inl rfl | exact Or.inr rfl) (j_lst (ja_cons (j_isx (tab := [(1, true), (2, false), (3, false), (4, false), (5, false), (6, false), (7, false), (8, false), (9, false), (10, false), (11, false), (12, false), (13, false), (14, false), (15, false), (16, false)]) (u := .ref (k.cl 1)) (c := .ref (k.cl 1)) (xi_cons T.exc_1 T.kx_1_1 (xi_cons T.exc_2 T.kx_2_1 (xi_cons T.exc_3 T.kx_3_1 (xi_cons T.exc_4 T.kx_4_1 (xi_cons T.exc_5 T.kx_5_1 (xi_cons T.exc_6 T.kx_6_1 (xi_cons T.exc_7 T.kx_7_1 (xi_cons T.exc_8 T.kx_8_1 (xi_cons T.exc_9 T.kx_9_1 (xi_cons T.exc_10 T.kx_10_1 (xi_cons T.exc_11 T.kx_11_1 (xi_cons T.exc_12 T.kx_12_1 (xi_cons T.exc_13 T.kx_13_1 (xi_cons T.exc_14 T.kx_14_1 (xi_cons T.exc_15 T.kx_15_1 (xi_cons T.exc_16 T.kx_16_1 xi_nil)))))))))))))))) (fun _ h => h) rfl T.z_isinstance (j_var 0) (pe_glob rfl T.ge_1 rfl)) (ja_cons (j_isx (tab := [(1, false), (2, true), (3, false), (4, false), (5, false), (6, false), (7, false), (8, false), (9, false), (10, false), (11, false), (12, false), (13, false), (14, false), (15, false), (16, false)]) (u := .ref (k.cl 2)) (c := .ref (k.cl 2)) (xi_cons T.exc_1 T.kx_1_2 (xi_cons T.exc_2 T.kx_2_2 (xi_cons T.exc_3 T.kx_3_2 (xi_cons T.exc_4 T.kx_4_2 (xi_cons T.exc_5 T.kx_5_2 (xi_cons T.exc_6 T.kx_6_2 (xi_cons T.exc_7 T.kx_7_2 (xi_cons T.exc_8 T.kx_8_2 (xi_cons T.exc_9 T.kx_9_2 (xi_cons T.exc_10 T.kx_10_2 (xi_cons T.exc_11 T.kx_11_2 (xi_cons T.exc_12 T.kx_12_2 (xi_cons T.exc_13 T.kx_13_2 (xi_cons T.exc_14 T.kx_14_2 (xi_cons T.exc_15 T.kx_15_2 (xi_cons T.exc_16 T.kx_16_2 xi_nil)))))))))))))))) (fun _ h => h) rfl T.z_isinstance (j_var 0) (pe_glob rfl T.ge_2 rfl)) (ja_cons (j_isx (tab := [(1, false), (2, false), (3, true), (4, false), (5, false), (6, false), (7, false), (8, false), (9, false), (10, false), (11, false), (12, false), (13, false), (14, false), (15, false), (16, false)]) (u := .ref (k.cl 3)) (c := .ref (k.cl 3)) (xi_cons T.exc_1 T.kx_1_3 (xi_cons T.exc_2 T.kx_2_3 (xi_cons T.exc_3 T.kx_3_3 (xi_cons T.exc_4 T.kx_4_3 (xi_cons T.exc_5 T.kx_5_3 (xi_cons T.exc_6 T.kx_6_3 (xi_cons T.exc_7 T.kx_7_3 (xi_cons T.exc_8 T.kx_8_3 (xi_cons T.exc_9 T.kx_9_3 (xi_cons T.exc_10 T.kx_10_3 (xi_cons T.exc_11 T.kx_11_3 (xi_cons T.exc_12 T.kx_12_3 (xi_cons T.exc_13 T.kx_13_3 (xi_cons T.exc_14 T.kx_14_3 (xi_cons T.exc_15 T.kx_15_3 (xi_cons T.exc_16 T.kx_16_3 xi_nil)))))))))))))))) (fun _ h => h) rfl T.z_isinstance (j_var 0) (pe_glob rfl T.ge_3 rfl)) ja_nil)))))
  (jb_cons (js_set 1 sc_kinds.nd rfl (by first | exact Or.inl rfl | exact Or.inr rfl) (j_op b_add (j_var 1) (j_lst (ja_cons (j_isx (tab := [(1, false), (2, false), (3, false), (4, true), (5, false), (6, false), (7, false), (8, false), (9, false), (10, false), (11, false), (12, false), (13, false), (14, false), (15, false), (16, false)]) (u := .ref (k.cl 4)) (c := .ref (k.cl 4)) (xi_cons T.exc_1 T.kx_1_4 (xi_cons T.exc_2 T.kx_2_4 (xi_cons T.exc_3 T.kx_3_4 (xi_cons T.exc_4 T.kx_4_4 (xi_cons T.exc_5 T.kx_5_4 (xi_cons T.exc_6 T.kx_6_4 (xi_cons T.exc_7 T.kx_7_4 (xi_cons T.exc_8 T.kx_8_4 (xi_cons T.exc_9 T.kx_9_4 (xi_cons T.exc_10 T.kx_10_4 (xi_cons T.exc_11 T.kx_11_4 (xi_cons T.exc_12 T.kx_12_4 (xi_cons T.exc_13 T.kx_13_4 (xi_cons T.exc_14 T.kx_14_4 (xi_cons T.exc_15 T.kx_15_4 (xi_cons T.exc_16 T.kx_16_4 xi_nil)))))))))))))))) (fun _ h => h) rfl T.z_isinstance (j_var 0) (pe_glob rfl T.ge_4 rfl)) (ja_cons (j_isx (tab := [(1, false), (2, false), (3, false), (4, false), (5, true), (6, false), (7, false), (8, false), (9, false), (10, false), (11, false), (12, false), (13, false), (14, false), (15, false), (16, false)]) (u := .ref (k.cl 5)) (c := .ref (k.cl 5)) (xi_cons T.exc_1 T.kx_1_5 (xi_cons T.exc_2 T.kx_2_5 (xi_cons T.exc_3 T.kx_3_5 (xi_cons T.exc_4 T.kx_4_5 (xi_cons T.exc_5 T.kx_5_5 (xi_cons T.exc_6 T.kx_6_5 (xi_cons T.exc_7 T.kx_7_5 (xi_cons T.exc_8 T.kx_8_5 (xi_cons T.exc_9 T.kx_9_5 (xi_cons T.exc_10 T.kx_10_5 (xi_cons T.exc_11 T.kx_11_5 (xi_cons T.exc_12 T.kx_12_5 (xi_cons T.exc_13 T.kx_13_5 (xi_cons T.exc_14 T.kx_14_5 (xi_cons T.exc_15 T.kx_15_5 (xi_cons T.exc_16 T.kx_16_5 xi_nil)))))))))))))))) (fun _ h => h) rfl T.z_isinstance (j_var 0) (pe_glob rfl T.ge_5 rfl)) (ja_cons (j_isx (tab := [(1, false), (2, false), (3, false), (4, false), (5, false), (6, true), (7, false), (8, false), (9, false), (10, false), (11, false), (12, false), (13, false), (14, false), (15, false), (16, false)]) (u := .ref (k.cl 6)) (c := .ref (k.cl 6)) (xi_cons T.exc_1 T.kx_1_6 (xi_cons T.exc_2 T.kx_2_6 (xi_cons T.exc_3 T.kx_3_6 (xi_cons T.exc_4 T.kx_4_6 (xi_cons T.exc_5 T.kx_5_6 (xi_cons T.exc_6 T.kx_6_6 (xi_cons T.exc_7 T.kx_7_6 (xi_cons T.exc_8 T.kx_8_6 (xi_cons T.exc_9 T.kx_9_6 (xi_cons T.exc_10 T.kx_10_6 (xi_cons T.exc_11 T.kx_11_6 (xi_cons T.exc_12 T.kx_12_6 (xi_cons T.exc_13 T.kx_13_6 (xi_cons T.exc_14 T.kx_14_6 (xi_cons T.exc_15 T.kx_15_6 (xi_cons T.exc_16 T.kx_16_6 xi_nil)))))))))))))))) (fun _ h => h) rfl T.z_isinstance (j_var 0) (pe_glob rfl T.ge_6 rfl)) ja_nil))))))
  (jb_cons (js_set 1 sc_kinds.nd rfl (by first | exact Or.inl rfl | exact Or.inr rfl) (j_op b_add (j_var 1) (j_lst (ja_cons (j_isx (tab := [(1, false), (2, false), (3, false), (4, false), (5, false), (6, false), (7, true), (8, false), (9, false), (10, false), (11, false), (12, false), (13, false), (14, false), (15, false), (16, false)]) (u := .ref (k.cl 7)) (c := .ref (k.cl 7)) (xi_cons T.exc_1 T.kx_1_7 (xi_cons T.exc_2 T.kx_2_7 (xi_cons T.exc_3 T.kx_3_7 (xi_cons T.exc_4 T.kx_4_7 (xi_cons T.exc_5 T.kx_5_7 (xi_cons T.exc_6 T.kx_6_7 (xi_cons T.exc_7 T.kx_7_7 (xi_cons T.exc_8 T.kx_8_7 (xi_cons T.exc_9 T.kx_9_7 (xi_cons T.exc_10 T.kx_10_7 (xi_cons T.exc_11 T.kx_11_7 (xi_cons T.exc_12 T.kx_12_7 (xi_cons T.exc_13 T.kx_13_7 (xi_cons T.exc_14 T.kx_14_7 (xi_cons T.exc_15 T.kx_15_7 (xi_cons T.exc_16 T.kx_16_7 xi_nil)))))))))))))))) (fun _ h => h) rfl T.z_isinstance (j_var 0) (pe_glob rfl T.ge_7 rfl)) (ja_cons (j_isx (tab := [(1, false), (2, false), (3, false), (4, false), (5, false), (6, false), (7, false), (8, true), (9, false), (10, false), (11, false), (12, false), (13, false), (14, false), (15, false), (16, false)]) (u := .ref (k.cl 8)) (c := .ref (k.cl 8)) (xi_cons T.exc_1 T.kx_1_8 (xi_cons T.exc_2 T.kx_2_8 (xi_cons T.exc_3 T.kx_3_8 (xi_cons T.exc_4 T.kx_4_8 (xi_cons T.exc_5 T.kx_5_8 (xi_cons T.exc_6 T.kx_6_8 (xi_cons T.exc_7 T.kx_7_8 (xi_cons T.exc_8 T.kx_8_8 (xi_cons T.exc_9 T.kx_9_8 (xi_cons T.exc_10 T.kx_10_8 (xi_cons T.exc_11 T.kx_11_8 (xi_cons T.exc_12 T.kx_12_8 (xi_cons T.exc_13 T.kx_13_8 (xi_cons T.exc_14 T.kx_14_8 (xi_cons T.exc_15 T.kx_15_8 (xi_cons T.exc_16 T.kx_16_8 xi_nil)))))))))))))))) (fun _ h => h) rfl T.z_isinstance (j_var 0) (pe_glob rfl T.ge_8 rfl)) ja_nil)))))
  (jb_cons (js_set 1 sc_kinds.nd rfl (by first | exact Or.inl rfl | exact Or.inr rfl) (j_op b_add (j_var 1) (j_lst (ja_cons (j_isx (tab := [(1, false), (2, false), (3, false), (4, false), (5, false), (6, false), (7, false), (8, false), (9, true), (10, false), (11, false), (12, false), (13, false), (14, false), (15, false), (16, false)]) (u := .ref (k.cl 9)) (c := .ref (k.cl 9)) (xi_cons T.exc_1 T.kx_1_9 (xi_cons T.exc_2 T.kx_2_9 (xi_cons T.exc_3 T.kx_3_9 (xi_cons T.exc_4 T.kx_4_9 (xi_cons T.exc_5 T.kx_5_9 (xi_cons T.exc_6 T.kx_6_9 (xi_cons T.exc_7 T.kx_7_9 (xi_cons T.exc_8 T.kx_8_9 (xi_cons T.exc_9 T.kx_9_9 (xi_cons T.exc_10 T.kx_10_9 (xi_cons T.exc_11 T.kx_11_9 (xi_cons T.exc_12 T.kx_12_9 (xi_cons T.exc_13 T.kx_13_9 (xi_cons T.exc_14 T.kx_14_9 (xi_cons T.exc_15 T.kx_15_9 (xi_cons T.exc_16 T.kx_16_9 xi_nil)))))))))))))))) (fun _ h => h) rfl T.z_isinstance (j_var 0) (pe_glob rfl T.ge_9 rfl)) (ja_cons (j_isx (tab := [(1, false), (2, false), (3, false), (4, false), (5, false), (6, false), (7, false), (8, false), (9, false), (10, true), (11, false), (12, false), (13, false), (14, false), (15, false), (16, false)]) (u := .ref (k.cl 10)) (c := .ref (k.cl 10)) (xi_cons T.exc_1 T.kx_1_10 (xi_cons T.exc_2 T.kx_2_10 (xi_cons T.exc_3 T.kx_3_10 (xi_cons T.exc_4 T.kx_4_10 (xi_cons T.exc_5 T.kx_5_10 (xi_cons T.exc_6 T.kx_6_10 (xi_cons T.exc_7 T.kx_7_10 (xi_cons T.exc_8 T.kx_8_10 (xi_cons T.exc_9 T.kx_9_10 (xi_cons T.exc_10 T.kx_10_10 (xi_cons T.exc_11 T.kx_11_10 (xi_cons T.exc_12 T.kx_12_10 (xi_cons T.exc_13 T.kx_13_10 (xi_cons T.exc_14 T.kx_14_10 (xi_cons T.exc_15 T.kx_15_10 (xi_cons T.exc_16 T.kx_16_10 xi_nil)))))))))))))))) (fun _ h => h) rfl T.z_isinstance (j_var 0) (pe_glob rfl T.ge_10 rfl)) ja_nil)))))
  (jb_cons (js_set 1 sc_kinds.nd rfl (by first | exact Or.inl rfl | exact Or.inr rfl) (j_op b_add (j_var 1) (j_lst (ja_cons (j_isx (tab := [(1, false), (2, false), (3, false), (4, false), (5, false), (6, false), (7, false), (8, false), (9, false), (10, false), (11, true), (12, false), (13, false), (14, false), (15, false), (16, false)]) (u := .ref (k.cl 11)) (c := .ref (k.cl 11)) (xi_cons T.exc_1 T.kx_1_11 (xi_cons T.exc_2 T.kx_2_11 (xi_cons T.exc_3 T.kx_3_11 (xi_cons T.exc_4 T.kx_4_11 (xi_cons T.exc_5 T.kx_5_11 (xi_cons T.exc_6 T.kx_6_11 (xi_cons T.exc_7 T.kx_7_11 (xi_cons T.exc_8 T.kx_8_11 (xi_cons T.exc_9 T.kx_9_11 (xi_cons T.exc_10 T.kx_10_11 (xi_cons T.exc_11 T.kx_11_11 (xi_cons T.exc_12 T.kx_12_11 (xi_cons T.exc_13 T.kx_13_11 (xi_cons T.exc_14 T.kx_14_11 (xi_cons T.exc_15 T.kx_15_11 (xi_cons T.exc_16 T.kx_16_11 xi_nil)))))))))))))))) (fun _ h => h) rfl T.z_isinstance (j_var 0) (pe_glob rfl T.ge_11 rfl)) (ja_cons (j_isx (tab := [(1, false), (2, false), (3, false), (4, false), (5, false), (6, false), (7, false), (8, false), (9, false), (10, false), (11, false), (12, true), (13, false), (14, false), (15, false), (16, false)]) (u := .ref (k.cl 12)) (c := .ref (k.cl 12)) (xi_cons T.exc_1 T.kx_1_12 (xi_cons T.exc_2 T.kx_2_12 (xi_cons T.exc_3 T.kx_3_12 (xi_cons T.exc_4 T.kx_4_12 (xi_cons T.exc_5 T.kx_5_12 (xi_cons T.exc_6 T.kx_6_12 (xi_cons T.exc_7 T.kx_7_12 (xi_cons T.exc_8 T.kx_8_12 (xi_cons T.exc_9 T.kx_9_12 (xi_cons T.exc_10 T.kx_10_12 (xi_cons T.exc_11 T.kx_11_12 (xi_cons T.exc_12 T.kx_12_12 (xi_cons T.exc_13 T.kx_13_12 (xi_cons T.exc_14 T.kx_14_12 (xi_cons T.exc_15 T.kx_15_12 (xi_cons T.exc_16 T.kx_16_12 xi_nil)))))))))))))))) (fun _ h => h) rfl T.z_isinstance (j_var 0) (pe_glob rfl T.ge_12 rfl)) (ja_cons (j_isx (tab := [(1, false), (2, false), (3, false), (4, false), (5, false), (6, false), (7, false), (8, false), (9, false), (10, false), (11, false), (12, false), (13, true), (14, false), (15, false), (16, false)]) (u := .ref (k.cl 13)) (c := .ref (k.cl 13)) (xi_cons T.exc_1 T.kx_1_13 (xi_cons T.exc_2 T.kx_2_13 (xi_cons T.exc_3 T.kx_3_13 (xi_cons T.exc_4 T.kx_4_13 (xi_cons T.exc_5 T.kx_5_13 (xi_cons T.exc_6 T.kx_6_13 (xi_cons T.exc_7 T.kx_7_13 (xi_cons T.exc_8 T.kx_8_13 (xi_cons T.exc_9 T.kx_9_13 (xi_cons T.exc_10 T.kx_10_13 (xi_cons T.exc_11 T.kx_11_13 (xi_cons T.exc_12 T.kx_12_13 (xi_cons T.exc_13 T.kx_13_13 (xi_cons T.exc_14 T.kx_14_13 (xi_cons T.exc_15 T.kx_15_13 (xi_cons T.exc_16 T.kx_16_13 xi_nil)))))))))))))))) (fun _ h => h) rfl T.z_isinstance (j_var 0) (pe_glob rfl T.ge_13 rfl)) ja_nil))))))
  (jb_one (js_ret (j_op b_add (j_var 1) (j_lst (ja_cons (j_isx (tab := [(1, false), (2, false), (3, false), (4, false), (5, false), (6, false), (7, false), (8, false), (9, false), (10, false), (11, false), (12, false), (13, false), (14, true), (15, false), (16, false)]) (u := .ref (k.cl 14)) (c := .ref (k.cl 14)) (xi_cons T.exc_1 T.kx_1_14 (xi_cons T.exc_2 T.kx_2_14 (xi_cons T.exc_3 T.kx_3_14 (xi_cons T.exc_4 T.kx_4_14 (xi_cons T.exc_5 T.kx_5_14 (xi_cons T.exc_6 T.kx_6_14 (xi_cons T.exc_7 T.kx_7_14 (xi_cons T.exc_8 T.kx_8_14 (xi_cons T.exc_9 T.kx_9_14 (xi_cons T.exc_10 T.kx_10_14 (xi_cons T.exc_11 T.kx_11_14 (xi_cons T.exc_12 T.kx_12_14 (xi_cons T.exc_13 T.kx_13_14 (xi_cons T.exc_14 T.kx_14_14 (xi_cons T.exc_15 T.kx_15_14 (xi_cons T.exc_16 T.kx_16_14 xi_nil)))))))))))))))) (fun _ h => h) rfl T.z_isinstance (j_var 0) (pe_glob rfl T.ge_14 rfl)) (ja_cons (j_isx (tab := [(1, false), (2, false), (3, false), (4, false), (5, false), (6, false), (7, false), (8, false), (9, false), (10, false), (11, false), (12, false), (13, false), (14, false), (15, false), (16, true)]) (u := .ref (k.cl 16)) (c := .ref (k.cl 16)) (xi_cons T.exc_1 T.kx_1_16 (xi_cons T.exc_2 T.kx_2_16 (xi_cons T.exc_3 T.kx_3_16 (xi_cons T.exc_4 T.kx_4_16 (xi_cons T.exc_5 T.kx_5_16 (xi_cons T.exc_6 T.kx_6_16 (xi_cons T.exc_7 T.kx_7_16 (xi_cons T.exc_8 T.kx_8_16 (xi_cons T.exc_9 T.kx_9_16 (xi_cons T.exc_10 T.kx_10_16 (xi_cons T.exc_11 T.kx_11_16 (xi_cons T.exc_12 T.kx_12_16 (xi_cons T.exc_13 T.kx_13_16 (xi_cons T.exc_14 T.kx_14_16 (xi_cons T.exc_15 T.kx_15_16 (xi_cons T.exc_16 T.kx_16_16 xi_nil)))))))))))))))) (fun _ h => h) rfl T.z_isinstance (j_var 0) (pe_glob rfl T.ge_16 rfl)) (ja_cons (j_isx (tab := [(1, false), (2, false), (3, false), (4, false), (5, false), (6, false), (7, false), (8, false), (9, false), (10, false), (11, false), (12, false), (13, false), (14, false), (15, true), (16, false)]) (u := .ref (k.cl 15)) (c := .ref (k.cl 15)) (xi_cons T.exc_1 T.kx_1_15 (xi_cons T.exc_2 T.kx_2_15 (xi_cons T.exc_3 T.kx_3_15 (xi_cons T.exc_4 T.kx_4_15 (xi_cons T.exc_5 T.kx_5_15 (xi_cons T.exc_6 T.kx_6_15 (xi_cons T.exc_7 T.kx_7_15 (xi_cons T.exc_8 T.kx_8_15 (xi_cons T.exc_9 T.kx_9_15 (xi_cons T.exc_10 T.kx_10_15 (xi_cons T.exc_11 T.kx_11_15 (xi_cons T.exc_12 T.kx_12_15 (xi_cons T.exc_13 T.kx_13_15 (xi_cons T.exc_14 T.kx_14_15 (xi_cons T.exc_15 T.kx_15_15 (xi_cons T.exc_16 T.kx_16_15 xi_nil)))))))))))))))) (fun _ h => h) rfl T.z_isinstance (j_var 0) (pe_glob rfl T.ge_15 rfl)) ja_nil)))))))))))))
theorem sc_law : FnScope ["_law_script", "_law_objects", "_law_turn", "_law_source_here", "_law_made_here", "_law_one", "_law_two", "_law_at", "_law_spot"] ["_law_script"] (defScope s_law) := ⟨rfl, rfl, rfl, by decide +kernel, rfl, by decide +kernel, by decide +kernel⟩
theorem ok_law (T : Txt P k ad ca ta K mg) (TB : TBs ca ta base mg) : FnG P w K mg base 3 (ad 7) (spD k K 1 d_law) :=
  fng_any (N := ["_law_script", "_law_objects", "_law_turn", "_law_source_here", "_law_made_here", "_law_one", "_law_two", "_law_at", "_law_spot"]) (ps := ["_law_script"]) (lvl := 2) (m := b_law) T.f_law sc_law (fun cdv A outer s H E hgd hr =>
  (jb_cons (js_set 1 sc_law.nd rfl (by first | exact Or.inl rfl | exact Or.inr rfl) (j_lst (ja_cons j_non (ja_cons j_bl (ja_cons j_int (ja_cons (j_un u_neg j_int) (ja_cons j_str (ja_cons (j_lst (ja_cons j_int ja_nil)) (ja_cons (j_tup (ja_cons j_int ja_nil)) (ja_cons (j_dict (jp_cons j_str (j_lst (ja_cons j_int ja_nil)) jp_nil)) (ja_cons (j_op b_pow j_int j_int) ja_nil)))))))))))
  (jb_cons (js_for (passes_of rfl) rfl (ji_range1 rfl T.z_range (ja_cons (j_callB (f_max rfl) rfl T.z_max (by decide +kernel) (ja_cons j_int (ja_cons (j_callB (f_min rfl) rfl T.z_min (by decide +kernel) (ja_cons (j_callB f_len rfl T.z_len (by decide +kernel) (ja_cons (j_var 0) ja_nil)) (ja_cons j_int ja_nil))) ja_nil))) ja_nil)) (jg_name 2 sc_law.nd rfl (by first | exact Or.inl rfl | exact Or.inr rfl))
  (jb_cons (js_set 3 sc_law.nd rfl (by first | exact Or.inl rfl | exact Or.inr rfl) (j_call (ok_source (P := P) (w := w) (base := base) T) (hr.mono (by decide)) pass_def rfl T.m_source T.f_source.kp (ja_cons (j_var 0) (ja_cons (j_var 2) ja_nil))))
  (jb_cons (js_par 5 6 rfl sc_law.nd rfl rfl (by decide) rfl rfl (ja_cons (j_call (ok_pick (P := P) (w := w) (base := base) T) (hr.mono (by decide)) pass_def rfl T.m_pick T.f_pick.kp (ja_cons (j_var 3) (ja_cons (j_var 1) ja_nil))) (ja_cons (j_call (ok_pick (P := P) (w := w) (base := base) T) (hr.mono (by decide)) pass_def rfl T.m_pick T.f_pick.kp (ja_cons (j_var 3) (ja_cons (j_var 1) ja_nil))) ja_nil)) rfl)
  (jb_one (js_for (passes_of rfl) rfl (ji_seq (j_lst (ja_cons (j_call (ok_made (P := P) (w := w) (base := base) T) (hr.mono (by decide)) pass_def rfl T.m_made T.f_made.kp (ja_cons (j_var 5) (ja_cons (j_var 6) ja_nil))) (ja_cons (j_call (ok_named (P := P) (w := w) (base := base) T) (hr.mono (by decide)) pass_def rfl T.m_named T.f_named.kp (ja_cons (j_var 5) (ja_cons (j_var 6) ja_nil))) ja_nil)))) (jg_name 4 sc_law.nd rfl (by first | exact Or.inl rfl | exact Or.inr rfl))
  (jb_cons (js_if (jt_w (jw_or (jt_cmp (b_ne hr.units) (j_callB (f_rpx TB.1 hgd (hr_un66 hr)) rfl T.z_repr (by decide +kernel) (ja_cons (j_call (ok_kept (P := P) (w := w) (base := base) T) (hr.mono (by decide)) pass_def rfl T.m_kept T.f_kept.kp (ja_cons (j_var 4) ja_nil)) ja_nil)) (j_callB (f_rpx TB.1 hgd (hr_un66 hr)) rfl T.z_repr (by decide +kernel) (ja_cons (j_rep (ja_cons (j_var 5) ja_nil) j_int) ja_nil)) (nomark _)) (jw_or1 (jt_cmp (b_ne hr.units) (j_callB (f_rpx TB.1 hgd (hr_un66 hr)) rfl T.z_repr (by decide +kernel) (ja_cons (j_xat (tab := [(13, 0), (15, 1)]) (xa_cons (xa_one T.xfc_13 T.nfe_13 T.xf_13) (xa_cons (xa_two1 T.xfc_15 T.nf2_15 T.xf_15 (by decide)) xa_nil)) (j_ix (j_var 4) j_int (fun _ _ => rfl))) ja_nil)) (j_callB (f_rpx TB.1 hgd (hr_un66 hr)) rfl T.z_repr (by decide +kernel) (ja_cons (j_var 6) ja_nil)) (nomark _))))) (jb_one (js_ret j_bl)) jb_nil)
  (jb_one (js_for (passes_of rfl) rfl (ji_range1 rfl T.z_range (ja_cons j_int ja_nil)) (jg_name 7 sc_law.nd rfl (by first | exact Or.inl rfl | exact Or.inr rfl))
  (jb_cons (js_if (jt_cmp (b_ne hr.units) (j_call (ok_kinds (P := P) (w := w) (base := base) T) (hr.mono (by decide)) pass_def rfl T.m_kinds T.f_kinds.kp (ja_cons (j_ix (j_var 4) (j_var 7) (fun _ _ => rfl)) ja_nil)) (j_comp (own := [("_law_spot", 8)]) (by decide) rfl sc_law.nd (ji_range1 rfl T.z_range (ja_cons j_int ja_nil)) (blkOk_by (N := ["_law_script", "_law_objects", "_law_turn", "_law_source_here", "_law_made_here", "_law_one", "_law_two", "_law_at", "_law_spot"]) (sc := defScope s_law) (by decide +kernel)) (fun _ _ _ _ _ => (jg_name 8 sc_law.nd rfl (by first | exact Or.inl rfl | exact Or.inr rfl))) (fun _ _ _ _ _ => jts_nil) (fun _ _ _ _ _ => (j_cmp (b_eq hr.units) (j_var 8) (j_var 7) (nomark _)))) (nomark _)) (jb_one (js_ret j_bl)) jb_nil)
  (jb_cons (js_if (jt_val (j_isx3 (tab := [(1, false), (2, false), (3, false), (4, false), (5, false), (6, false), (7, false), (8, false), (9, false), (10, false), (11, false), (12, false), (13, false), (14, false), (15, false), (16, false)]) (xt_cons T.exc_1 (kit_no3 T.kx_1_ValueError T.kx_1_LookupError T.kx_1_RuntimeError) (xt_cons T.exc_2 (kit_no3 T.kx_2_ValueError T.kx_2_LookupError T.kx_2_RuntimeError) (xt_cons T.exc_3 (kit_no3 T.kx_3_ValueError T.kx_3_LookupError T.kx_3_RuntimeError) (xt_cons T.exc_4 (kit_no3 T.kx_4_ValueError T.kx_4_LookupError T.kx_4_RuntimeError) (xt_cons T.exc_5 (kit_no3 T.kx_5_ValueError T.kx_5_LookupError T.kx_5_RuntimeError) (xt_cons T.exc_6 (kit_no3 T.kx_6_ValueError T.kx_6_LookupError T.kx_6_RuntimeError) (xt_cons T.exc_7 (kit_no3 T.kx_7_ValueError T.kx_7_LookupError T.kx_7_RuntimeError) (xt_cons T.exc_8 (kit_no3 T.kx_8_ValueError T.kx_8_LookupError T.kx_8_RuntimeError) (xt_cons T.exc_9 (kit_no3 T.kx_9_ValueError T.kx_9_LookupError T.kx_9_RuntimeError) (xt_cons T.exc_10 (kit_no3 T.kx_10_ValueError T.kx_10_LookupError T.kx_10_RuntimeError) (xt_cons T.exc_11 (kit_no3 T.kx_11_ValueError T.kx_11_LookupError T.kx_11_RuntimeError) (xt_cons T.exc_12 (kit_no3 T.kx_12_ValueError T.kx_12_LookupError T.kx_12_RuntimeError) (xt_cons T.exc_13 (kit_no3 T.kx_13_ValueError T.kx_13_LookupError T.kx_13_RuntimeError) (xt_cons T.exc_14 (kit_no3 T.kx_14_ValueError T.kx_14_LookupError T.kx_14_RuntimeError) (xt_cons T.exc_15 (kit_no3 T.kx_15_ValueError T.kx_15_LookupError T.kx_15_RuntimeError) (xt_cons T.exc_16 (kit_no3 T.kx_16_ValueError T.kx_16_LookupError T.kx_16_RuntimeError) xt_nil)))))))))))))))) rfl T.z_isinstance (pe_bltn rfl T.z_ValueError (by decide +kernel) rfl) (pe_bltn rfl T.z_LookupError (by decide +kernel) rfl) (pe_bltn rfl T.z_RuntimeError (by decide +kernel) rfl) (j_ix (j_var 4) (j_var 7) (fun _ _ => rfl)))) (jb_one (js_ret j_bl)) jb_nil)
  (jb_one (js_if (jt_not (jt_val (j_isx (tab := [(1, true), (2, true), (3, true), (4, true), (5, true), (6, true), (7, true), (8, true), (9, true), (10, true), (11, true), (12, true), (13, true), (14, true), (15, true), (16, true)]) (u := .ref (k.cl 0)) (c := .ref (k.cl 0)) (xi_cons T.exc_1 T.kx_1_0 (xi_cons T.exc_2 T.kx_2_0 (xi_cons T.exc_3 T.kx_3_0 (xi_cons T.exc_4 T.kx_4_0 (xi_cons T.exc_5 T.kx_5_0 (xi_cons T.exc_6 T.kx_6_0 (xi_cons T.exc_7 T.kx_7_0 (xi_cons T.exc_8 T.kx_8_0 (xi_cons T.exc_9 T.kx_9_0 (xi_cons T.exc_10 T.kx_10_0 (xi_cons T.exc_11 T.kx_11_0 (xi_cons T.exc_12 T.kx_12_0 (xi_cons T.exc_13 T.kx_13_0 (xi_cons T.exc_14 T.kx_14_0 (xi_cons T.exc_15 T.kx_15_0 (xi_cons T.exc_16 T.kx_16_0 xi_nil)))))))))))))))) (fun _ h => h) rfl T.z_isinstance (j_ix (j_var 4) (j_var 7) (fun _ _ => rfl)) (pe_glob rfl T.ge_0 rfl)))) (jb_one (js_ret j_bl)) jb_nil))))))))))))
  (jb_one (js_ret j_bl)))))
end
def kOf (cs : List Addr) (tb : List (Addr × Str)) : Kx := ⟨fun n => cs.getD n 0, fun n => ([[], ["value"], ["value"], ["value"], ["value"], ["value"], ["value"], ["value"], ["value"], ["value"], ["place"], ["other"], ["limit"], ["blind"], ["found"], ["group", "blind"], ["blocks"]] : List (List Str)).getD n [], tb⟩
def adOf (fs : List Addr) : Nat → Addr := fun n => fs.getD n 0
abbrev taOf := adOf
theorem all_mk {l : PySem.W.OpenLaw} {w : World} {K : PySem.W.Frag} {h : Heap} {mg : Str → Option Value} {fa : Addr} {f0 : Addr} {oc0 : Value} {kV0 : Value} {dc0 : Value} {pm0 : Value} {cd0 : Value} {ct0 : Value} {od0 : Option Addr} {an0 : Option Addr} {sl0 : Array (Option Value)} {f1 : Addr} {oc1 : Value} {kV1 : Value} {dc1 : Value} {pm1 : Value} {cd1 : Value} {ct1 : Value} {od1 : Option Addr} {an1 : Option Addr} {sl1 : Array (Option Value)} {f2 : Addr} {oc2 : Value} {kV2 : Value} {dc2 : Value} {pm2 : Value} {cd2 : Value} {ct2 : Value} {od2 : Option Addr} {an2 : Option Addr} {sl2 : Array (Option Value)} {f3 : Addr} {oc3 : Value} {kV3 : Value} {dc3 : Value} {pm3 : Value} {cd3 : Value} {ct3 : Value} {od3 : Option Addr} {an3 : Option Addr} {sl3 : Array (Option Value)} {f4 : Addr} {oc4 : Value} {kV4 : Value} {dc4 : Value} {pm4 : Value} {cd4 : Value} {ct4 : Value} {od4 : Option Addr} {an4 : Option Addr} {sl4 : Array (Option Value)} {f5 : Addr} {oc5 : Value} {kV5 : Value} {dc5 : Value} {pm5 : Value} {cd5 : Value} {ct5 : Value} {od5 : Option Addr} {an5 : Option Addr} {sl5 : Array (Option Value)} {f6 : Addr} {oc6 : Value} {kV6 : Value} {dc6 : Value} {pm6 : Value} {cd6 : Value} {ct6 : Value} {od6 : Option Addr} {an6 : Option Addr} {sl6 : Array (Option Value)} {f7 : Addr} {oc7 : Value} {kV7 : Value} {dc7 : Value} {pm7 : Value} {cd7 : Value} {ct7 : Value} {od7 : Option Addr} {an7 : Option Addr} {sl7 : Array (Option Value)} {C0 : Addr} {C1 : Addr} {ef1 : Addr} {ecd1 : Addr} {ecc1 : Addr} {eoc1 : Value} {ekV1 : Value} {edc1 : Value} {epm1 : Value} {ect1 : Value} {e1_1 : Value} {x1_1 : Value} {eod1 : Option Addr} {ean1 : Option Addr} {e2_1 : Option Addr} {x2_1 : Option Addr} {eosl1 : Array (Option Value)} {e3_1 : Array (Option Value)} {x3_1 : Array (Option Value)} {evs1 : Array Value} {efl1 : Str} {etk1 : Tok} {C2 : Addr} {ef2 : Addr} {ecd2 : Addr} {ecc2 : Addr} {eoc2 : Value} {ekV2 : Value} {edc2 : Value} {epm2 : Value} {ect2 : Value} {e1_2 : Value} {x1_2 : Value} {eod2 : Option Addr} {ean2 : Option Addr} {e2_2 : Option Addr} {x2_2 : Option Addr} {eosl2 : Array (Option Value)} {e3_2 : Array (Option Value)} {x3_2 : Array (Option Value)} {evs2 : Array Value} {efl2 : Str} {etk2 : Tok} {C3 : Addr} {ef3 : Addr} {ecd3 : Addr} {ecc3 : Addr} {eoc3 : Value} {ekV3 : Value} {edc3 : Value} {epm3 : Value} {ect3 : Value} {e1_3 : Value} {x1_3 : Value} {eod3 : Option Addr} {ean3 : Option Addr} {e2_3 : Option Addr} {x2_3 : Option Addr} {eosl3 : Array (Option Value)} {e3_3 : Array (Option Value)} {x3_3 : Array (Option Value)} {evs3 : Array Value} {efl3 : Str} {etk3 : Tok} {C4 : Addr} {ef4 : Addr} {ecd4 : Addr} {ecc4 : Addr} {eoc4 : Value} {ekV4 : Value} {edc4 : Value} {epm4 : Value} {ect4 : Value} {e1_4 : Value} {x1_4 : Value} {eod4 : Option Addr} {ean4 : Option Addr} {e2_4 : Option Addr} {x2_4 : Option Addr} {eosl4 : Array (Option Value)} {e3_4 : Array (Option Value)} {x3_4 : Array (Option Value)} {evs4 : Array Value} {efl4 : Str} {etk4 : Tok} {C5 : Addr} {ef5 : Addr} {ecd5 : Addr} {ecc5 : Addr} {eoc5 : Value} {ekV5 : Value} {edc5 : Value} {epm5 : Value} {ect5 : Value} {e1_5 : Value} {x1_5 : Value} {eod5 : Option Addr} {ean5 : Option Addr} {e2_5 : Option Addr} {x2_5 : Option Addr} {eosl5 : Array (Option Value)} {e3_5 : Array (Option Value)} {x3_5 : Array (Option Value)} {evs5 : Array Value} {efl5 : Str} {etk5 : Tok} {C6 : Addr} {ef6 : Addr} {ecd6 : Addr} {ecc6 : Addr} {eoc6 : Value} {ekV6 : Value} {edc6 : Value} {epm6 : Value} {ect6 : Value} {e1_6 : Value} {x1_6 : Value} {eod6 : Option Addr} {ean6 : Option Addr} {e2_6 : Option Addr} {x2_6 : Option Addr} {eosl6 : Array (Option Value)} {e3_6 : Array (Option Value)} {x3_6 : Array (Option Value)} {evs6 : Array Value} {efl6 : Str} {etk6 : Tok} {C7 : Addr} {ef7 : Addr} {ecd7 : Addr} {ecc7 : Addr} {eoc7 : Value} {ekV7 : Value} {edc7 : Value} {epm7 : Value} {ect7 : Value} {e1_7 : Value} {x1_7 : Value} {eod7 : Option Addr} {ean7 : Option Addr} {e2_7 : Option Addr} {x2_7 : Option Addr} {eosl7 : Array (Option Value)} {e3_7 : Array (Option Value)} {x3_7 : Array (Option Value)} {evs7 : Array Value} {efl7 : Str} {etk7 : Tok} {C8 : Addr} {ef8 : Addr} {ecd8 : Addr} {ecc8 : Addr} {eoc8 : Value} {ekV8 : Value} {edc8 : Value} {epm8 : Value} {ect8 : Value} {e1_8 : Value} {x1_8 : Value} {eod8 : Option Addr} {ean8 : Option Addr} {e2_8 : Option Addr} {x2_8 : Option Addr} {eosl8 : Array (Option Value)} {e3_8 : Array (Option Value)} {x3_8 : Array (Option Value)} {evs8 : Array Value} {efl8 : Str} {etk8 : Tok} {C9 : Addr} {ef9 : Addr} {ecd9 : Addr} {ecc9 : Addr} {eoc9 : Value} {ekV9 : Value} {edc9 : Value} {epm9 : Value} {ect9 : Value} {e1_9 : Value} {x1_9 : Value} {eod9 : Option Addr} {ean9 : Option Addr} {e2_9 : Option Addr} {x2_9 : Option Addr} {eosl9 : Array (Option Value)} {e3_9 : Array (Option Value)} {x3_9 : Array (Option Value)} {evs9 : Array Value} {efl9 : Str} {etk9 : Tok} {C10 : Addr} {ef10 : Addr} {ecd10 : Addr} {ecc10 : Addr} {eoc10 : Value} {ekV10 : Value} {edc10 : Value} {epm10 : Value} {ect10 : Value} {e1_10 : Value} {x1_10 : Value} {eod10 : Option Addr} {ean10 : Option Addr} {e2_10 : Option Addr} {x2_10 : Option Addr} {eosl10 : Array (Option Value)} {e3_10 : Array (Option Value)} {x3_10 : Array (Option Value)} {evs10 : Array Value} {efl10 : Str} {etk10 : Tok} {C11 : Addr} {ef11 : Addr} {ecd11 : Addr} {ecc11 : Addr} {eoc11 : Value} {ekV11 : Value} {edc11 : Value} {epm11 : Value} {ect11 : Value} {e1_11 : Value} {x1_11 : Value} {eod11 : Option Addr} {ean11 : Option Addr} {e2_11 : Option Addr} {x2_11 : Option Addr} {eosl11 : Array (Option Value)} {e3_11 : Array (Option Value)} {x3_11 : Array (Option Value)} {evs11 : Array Value} {efl11 : Str} {etk11 : Tok} {C12 : Addr} {ef12 : Addr} {ecd12 : Addr} {ecc12 : Addr} {eoc12 : Value} {ekV12 : Value} {edc12 : Value} {epm12 : Value} {ect12 : Value} {e1_12 : Value} {x1_12 : Value} {eod12 : Option Addr} {ean12 : Option Addr} {e2_12 : Option Addr} {x2_12 : Option Addr} {eosl12 : Array (Option Value)} {e3_12 : Array (Option Value)} {x3_12 : Array (Option Value)} {evs12 : Array Value} {efl12 : Str} {etk12 : Tok} {C13 : Addr} {ef13 : Addr} {ecd13 : Addr} {ecc13 : Addr} {eoc13 : Value} {ekV13 : Value} {edc13 : Value} {epm13 : Value} {ect13 : Value} {e1_13 : Value} {x1_13 : Value} {eod13 : Option Addr} {ean13 : Option Addr} {e2_13 : Option Addr} {x2_13 : Option Addr} {eosl13 : Array (Option Value)} {e3_13 : Array (Option Value)} {x3_13 : Array (Option Value)} {evs13 : Array Value} {efl13 : Str} {etk13 : Tok} {C14 : Addr} {ef14 : Addr} {ecd14 : Addr} {ecc14 : Addr} {eoc14 : Value} {ekV14 : Value} {edc14 : Value} {epm14 : Value} {ect14 : Value} {e1_14 : Value} {x1_14 : Value} {eod14 : Option Addr} {ean14 : Option Addr} {e2_14 : Option Addr} {x2_14 : Option Addr} {eosl14 : Array (Option Value)} {e3_14 : Array (Option Value)} {x3_14 : Array (Option Value)} {evs14 : Array Value} {efl14 : Str} {etk14 : Tok} {C15 : Addr} {ef15 : Addr} {ecd15 : Addr} {ecc15 : Addr} {eoc15 : Value} {ekV15 : Value} {edc15 : Value} {epm15 : Value} {ect15 : Value} {e1_15 : Value} {x1_15 : Value} {eod15 : Option Addr} {ean15 : Option Addr} {e2_15 : Option Addr} {x2_15 : Option Addr} {eosl15 : Array (Option Value)} {e3_15 : Array (Option Value)} {x3_15 : Array (Option Value)} {evs15 : Array Value} {efl15 : Str} {etk15 : Tok} {C16 : Addr} {ef16 : Addr} {ecd16 : Addr} {ecc16 : Addr} {eoc16 : Value} {ekV16 : Value} {edc16 : Value} {epm16 : Value} {ect16 : Value} {e1_16 : Value} {x1_16 : Value} {eod16 : Option Addr} {ean16 : Option Addr} {e2_16 : Option Addr} {x2_16 : Option Addr} {eosl16 : Array (Option Value)} {e3_16 : Array (Option Value)} {x3_16 : Array (Option Value)} {evs16 : Array Value} {efl16 : Str} {etk16 : Tok}
    (X : K.In h) (G : h.Ns mainGlobals mg) (hfa : mg "law" = some (.ref fa))
    (a0 : PySem.W.nsIn K mainGlobals "_law_source" = some (some (.ref f0)))
    (l0 : K.lookup f0 = some ⟨oc0, od0, .func (PySem.W.fnOf "_law_source" "_law_source" (defArgs s_source) (defBody s_source) (defScope s_source) .none kV0 dc0 pm0 an0 cd0 ct0), sl0⟩)
    (c0 : PySem.W.codeIn K cd0 "_law_source" = true)
    (k0 : PySem.W.keepIn K (.ref f0) = true)
    (a1 : PySem.W.nsIn K mainGlobals "_law_draw" = some (some (.ref f1)))
    (l1 : K.lookup f1 = some ⟨oc1, od1, .func (PySem.W.fnOf "_law_draw" "_law_draw" (defArgs s_draw) (defBody s_draw) (defScope s_draw) .none kV1 dc1 pm1 an1 cd1 ct1), sl1⟩)
    (c1 : PySem.W.codeIn K cd1 "_law_draw" = true)
    (k1 : PySem.W.keepIn K (.ref f1) = true)
    (a2 : PySem.W.nsIn K mainGlobals "_law_pick" = some (some (.ref f2)))
    (l2 : K.lookup f2 = some ⟨oc2, od2, .func (PySem.W.fnOf "_law_pick" "_law_pick" (defArgs s_pick) (defBody s_pick) (defScope s_pick) .none kV2 dc2 pm2 an2 cd2 ct2), sl2⟩)
    (c2 : PySem.W.codeIn K cd2 "_law_pick" = true)
    (k2 : PySem.W.keepIn K (.ref f2) = true)
    (a3 : PySem.W.nsIn K mainGlobals "_law_made" = some (some (.ref f3)))
    (l3 : K.lookup f3 = some ⟨oc3, od3, .func (PySem.W.fnOf "_law_made" "_law_made" (defArgs s_made) (defBody s_made) (defScope s_made) .none kV3 dc3 pm3 an3 cd3 ct3), sl3⟩)
    (c3 : PySem.W.codeIn K cd3 "_law_made" = true)
    (k3 : PySem.W.keepIn K (.ref f3) = true)
    (a4 : PySem.W.nsIn K mainGlobals "_law_named" = some (some (.ref f4)))
    (l4 : K.lookup f4 = some ⟨oc4, od4, .func (PySem.W.fnOf "_law_named" "_law_named" (defArgs s_named) (defBody s_named) (defScope s_named) .none kV4 dc4 pm4 an4 cd4 ct4), sl4⟩)
    (c4 : PySem.W.codeIn K cd4 "_law_named" = true)
    (k4 : PySem.W.keepIn K (.ref f4) = true)
    (a5 : PySem.W.nsIn K mainGlobals "_law_kept" = some (some (.ref f5)))
    (l5 : K.lookup f5 = some ⟨oc5, od5, .func (PySem.W.fnOf "_law_kept" "_law_kept" (defArgs s_kept) (defBody s_kept) (defScope s_kept) .none kV5 dc5 pm5 an5 cd5 ct5), sl5⟩)
    (c5 : PySem.W.codeIn K cd5 "_law_kept" = true)
    (k5 : PySem.W.keepIn K (.ref f5) = true)
    (a6 : PySem.W.nsIn K mainGlobals "_law_kinds" = some (some (.ref f6)))
    (l6 : K.lookup f6 = some ⟨oc6, od6, .func (PySem.W.fnOf "_law_kinds" "_law_kinds" (defArgs s_kinds) (defBody s_kinds) (defScope s_kinds) .none kV6 dc6 pm6 an6 cd6 ct6), sl6⟩)
    (c6 : PySem.W.codeIn K cd6 "_law_kinds" = true)
    (k6 : PySem.W.keepIn K (.ref f6) = true)
    (a7 : PySem.W.nsIn K mainGlobals "law" = some (some (.ref f7)))
    (l7 : K.lookup f7 = some ⟨oc7, od7, .func (PySem.W.fnOf "law" "law" (defArgs s_law) (defBody s_law) (defScope s_law) .none kV7 dc7 pm7 an7 cd7 ct7), sl7⟩)
    (c7 : PySem.W.codeIn K cd7 "law" = true)
    (k7 : PySem.W.keepIn K (.ref f7) = true)
    (z_super : PySem.W.nsIn K mainGlobals "super" = some none)
    (etp : (l.prog.main.scope.names.lookup ("super" : Str)).isSome = false)
    (eop : PySem.W.nsIn K cStatics "thirdparty.any" = some none)
    (aE0 : PySem.W.nsIn K mainGlobals "LeastError" = some (some (.ref C0)))
    (aE1 : PySem.W.nsIn K mainGlobals "InvalidSum" = some (some (.ref C1)))
    (eq1 : PySem.W.excInitIn K C1 ESX.exTail "Exception.__new__" = true)
    (eo1 : PySem.W.excOver K C1 ESX.exTail = true)
    (ei1 : PySem.W.findIn K (.ref C1) "__init__" = some (some (.ref ef1)))
    (et1 : PySem.W.typeIn K (.ref ef1) = some (.type "function"))
    (el1 : K.lookup ef1 = some ⟨eoc1, eod1, .func (PySem.W.ksFn "__init__" "InvalidSum.__init__" (defArgs s_E1) (defBody s_E1) (defScope s_E1) .none ekV1 edc1 epm1 ean1 (.ref ecd1) ect1 ecc1), eosl1⟩)
    (ec1 : PySem.W.codeIn K (.ref ecd1) "InvalidSum.__init__" = true)
    (ed1 : K.lookup ecd1 = some ⟨e1_1, e2_1, .fields evs1, e3_1⟩)
    (ev1 : evs1[2]? = some (.str efl1 etk1))
    (ew1 : ((l.prog.main.file : Str) == efl1) = true)
    (ex1 : K.lookup ecc1 = some ⟨x1_1, x2_1, .cell (some (.ref C1)), x3_1⟩)
    (es1 : PySem.W.ks_superIn K C1 C1 "__init__" = some (some (.builtin "Exception.__init__")))
    (eb1 : PySem.W.subIn K (.ref C1) (.type "Exception") = some true)
    (em1 : PySem.W.mroIn K C1 (.ref C1) = some true)
    (ea1 : PySem.W.findIn K (.ref C1) "__setattr__" = some (some (.builtin "object.__setattr__")))
    (en1 : PySem.W.findIn K (.ref C1) "value" = some none)
    (ek1 : PySem.W.keepIn K (.ref C1) = true)
    (ey1 : PySem.W.typeIn K (.ref C1) = some (.type "type"))
    (xga1 : PySem.W.findIn K (.ref C1) "__getattribute__" = some (some (.builtin "BaseException.__getattribute__")))
    (xgg1 : PySem.W.findIn K (.ref C1) "__getattr__" = some none)
    (xex1 : PySem.W.subIn K (.ref C1) (.type "BaseException") = some true)
    (xhd1 : PySem.W.hasDictIn K C1 = true)
    (xca1 : PySem.W.findIn K (.ref C1) "__class__" = some (some (.builtin "object.__class__")))
    (xcn1 : PySem.W.specialIn K (.builtin "object.__class__") "__get__" = some (some (.builtin "getset_descriptor.__get__")))
    (xct1 : PySem.W.takesIn K (.builtin "object.__class__") = some true)
    (xcm1 : PySem.W.mroIn K C1 (.type "object") = some true)
    (aE2 : PySem.W.nsIn K mainGlobals "InvalidData" = some (some (.ref C2)))
    (eq2 : PySem.W.excInitIn K C2 ESX.exTail "Exception.__new__" = true)
    (eo2 : PySem.W.excOver K C2 ESX.exTail = true)
    (ei2 : PySem.W.findIn K (.ref C2) "__init__" = some (some (.ref ef2)))
    (et2 : PySem.W.typeIn K (.ref ef2) = some (.type "function"))
    (el2 : K.lookup ef2 = some ⟨eoc2, eod2, .func (PySem.W.ksFn "__init__" "InvalidData.__init__" (defArgs s_E2) (defBody s_E2) (defScope s_E2) .none ekV2 edc2 epm2 ean2 (.ref ecd2) ect2 ecc2), eosl2⟩)
    (ec2 : PySem.W.codeIn K (.ref ecd2) "InvalidData.__init__" = true)
    (ed2 : K.lookup ecd2 = some ⟨e1_2, e2_2, .fields evs2, e3_2⟩)
    (ev2 : evs2[2]? = some (.str efl2 etk2))
    (ew2 : ((l.prog.main.file : Str) == efl2) = true)
    (ex2 : K.lookup ecc2 = some ⟨x1_2, x2_2, .cell (some (.ref C2)), x3_2⟩)
    (es2 : PySem.W.ks_superIn K C2 C2 "__init__" = some (some (.builtin "Exception.__init__")))
    (eb2 : PySem.W.subIn K (.ref C2) (.type "Exception") = some true)
    (em2 : PySem.W.mroIn K C2 (.ref C2) = some true)
    (ea2 : PySem.W.findIn K (.ref C2) "__setattr__" = some (some (.builtin "object.__setattr__")))
    (en2 : PySem.W.findIn K (.ref C2) "value" = some none)
    (ek2 : PySem.W.keepIn K (.ref C2) = true)
    (ey2 : PySem.W.typeIn K (.ref C2) = some (.type "type"))
    (xga2 : PySem.W.findIn K (.ref C2) "__getattribute__" = some (some (.builtin "BaseException.__getattribute__")))
    (xgg2 : PySem.W.findIn K (.ref C2) "__getattr__" = some none)
    (xex2 : PySem.W.subIn K (.ref C2) (.type "BaseException") = some true)
    (xhd2 : PySem.W.hasDictIn K C2 = true)
    (xca2 : PySem.W.findIn K (.ref C2) "__class__" = some (some (.builtin "object.__class__")))
    (xcn2 : PySem.W.specialIn K (.builtin "object.__class__") "__get__" = some (some (.builtin "getset_descriptor.__get__")))
    (xct2 : PySem.W.takesIn K (.builtin "object.__class__") = some true)
    (xcm2 : PySem.W.mroIn K C2 (.type "object") = some true)
    (aE3 : PySem.W.nsIn K mainGlobals "InvalidSpots" = some (some (.ref C3)))
    (eq3 : PySem.W.excInitIn K C3 ESX.exTail "Exception.__new__" = true)
    (eo3 : PySem.W.excOver K C3 ESX.exTail = true)
    (ei3 : PySem.W.findIn K (.ref C3) "__init__" = some (some (.ref ef3)))
    (et3 : PySem.W.typeIn K (.ref ef3) = some (.type "function"))
    (el3 : K.lookup ef3 = some ⟨eoc3, eod3, .func (PySem.W.ksFn "__init__" "InvalidSpots.__init__" (defArgs s_E3) (defBody s_E3) (defScope s_E3) .none ekV3 edc3 epm3 ean3 (.ref ecd3) ect3 ecc3), eosl3⟩)
    (ec3 : PySem.W.codeIn K (.ref ecd3) "InvalidSpots.__init__" = true)
    (ed3 : K.lookup ecd3 = some ⟨e1_3, e2_3, .fields evs3, e3_3⟩)
    (ev3 : evs3[2]? = some (.str efl3 etk3))
    (ew3 : ((l.prog.main.file : Str) == efl3) = true)
    (ex3 : K.lookup ecc3 = some ⟨x1_3, x2_3, .cell (some (.ref C3)), x3_3⟩)
    (es3 : PySem.W.ks_superIn K C3 C3 "__init__" = some (some (.builtin "Exception.__init__")))
    (eb3 : PySem.W.subIn K (.ref C3) (.type "Exception") = some true)
    (em3 : PySem.W.mroIn K C3 (.ref C3) = some true)
    (ea3 : PySem.W.findIn K (.ref C3) "__setattr__" = some (some (.builtin "object.__setattr__")))
    (en3 : PySem.W.findIn K (.ref C3) "value" = some none)
    (ek3 : PySem.W.keepIn K (.ref C3) = true)
    (ey3 : PySem.W.typeIn K (.ref C3) = some (.type "type"))
    (xga3 : PySem.W.findIn K (.ref C3) "__getattribute__" = some (some (.builtin "BaseException.__getattribute__")))
    (xgg3 : PySem.W.findIn K (.ref C3) "__getattr__" = some none)
    (xex3 : PySem.W.subIn K (.ref C3) (.type "BaseException") = some true)
    (xhd3 : PySem.W.hasDictIn K C3 = true)
    (xca3 : PySem.W.findIn K (.ref C3) "__class__" = some (some (.builtin "object.__class__")))
    (xcn3 : PySem.W.specialIn K (.builtin "object.__class__") "__get__" = some (some (.builtin "getset_descriptor.__get__")))
    (xct3 : PySem.W.takesIn K (.builtin "object.__class__") = some true)
    (xcm3 : PySem.W.mroIn K C3 (.type "object") = some true)
    (aE4 : PySem.W.nsIn K mainGlobals "InvalidPieces" = some (some (.ref C4)))
    (eq4 : PySem.W.excInitIn K C4 ESX.exTail "Exception.__new__" = true)
    (eo4 : PySem.W.excOver K C4 ESX.exTail = true)
    (ei4 : PySem.W.findIn K (.ref C4) "__init__" = some (some (.ref ef4)))
    (et4 : PySem.W.typeIn K (.ref ef4) = some (.type "function"))
    (el4 : K.lookup ef4 = some ⟨eoc4, eod4, .func (PySem.W.ksFn "__init__" "InvalidPieces.__init__" (defArgs s_E4) (defBody s_E4) (defScope s_E4) .none ekV4 edc4 epm4 ean4 (.ref ecd4) ect4 ecc4), eosl4⟩)
    (ec4 : PySem.W.codeIn K (.ref ecd4) "InvalidPieces.__init__" = true)
    (ed4 : K.lookup ecd4 = some ⟨e1_4, e2_4, .fields evs4, e3_4⟩)
    (ev4 : evs4[2]? = some (.str efl4 etk4))
    (ew4 : ((l.prog.main.file : Str) == efl4) = true)
    (ex4 : K.lookup ecc4 = some ⟨x1_4, x2_4, .cell (some (.ref C4)), x3_4⟩)
    (es4 : PySem.W.ks_superIn K C4 C4 "__init__" = some (some (.builtin "Exception.__init__")))
    (eb4 : PySem.W.subIn K (.ref C4) (.type "Exception") = some true)
    (em4 : PySem.W.mroIn K C4 (.ref C4) = some true)
    (ea4 : PySem.W.findIn K (.ref C4) "__setattr__" = some (some (.builtin "object.__setattr__")))
    (en4 : PySem.W.findIn K (.ref C4) "value" = some none)
    (ek4 : PySem.W.keepIn K (.ref C4) = true)
    (ey4 : PySem.W.typeIn K (.ref C4) = some (.type "type"))
    (xga4 : PySem.W.findIn K (.ref C4) "__getattribute__" = some (some (.builtin "BaseException.__getattribute__")))
    (xgg4 : PySem.W.findIn K (.ref C4) "__getattr__" = some none)
    (xex4 : PySem.W.subIn K (.ref C4) (.type "BaseException") = some true)
    (xhd4 : PySem.W.hasDictIn K C4 = true)
    (xca4 : PySem.W.findIn K (.ref C4) "__class__" = some (some (.builtin "object.__class__")))
    (xcn4 : PySem.W.specialIn K (.builtin "object.__class__") "__get__" = some (some (.builtin "getset_descriptor.__get__")))
    (xct4 : PySem.W.takesIn K (.builtin "object.__class__") = some true)
    (xcm4 : PySem.W.mroIn K C4 (.type "object") = some true)
    (aE5 : PySem.W.nsIn K mainGlobals "InvalidCost" = some (some (.ref C5)))
    (eq5 : PySem.W.excInitIn K C5 ESX.exTail "Exception.__new__" = true)
    (eo5 : PySem.W.excOver K C5 ESX.exTail = true)
    (ei5 : PySem.W.findIn K (.ref C5) "__init__" = some (some (.ref ef5)))
    (et5 : PySem.W.typeIn K (.ref ef5) = some (.type "function"))
    (el5 : K.lookup ef5 = some ⟨eoc5, eod5, .func (PySem.W.ksFn "__init__" "InvalidCost.__init__" (defArgs s_E5) (defBody s_E5) (defScope s_E5) .none ekV5 edc5 epm5 ean5 (.ref ecd5) ect5 ecc5), eosl5⟩)
    (ec5 : PySem.W.codeIn K (.ref ecd5) "InvalidCost.__init__" = true)
    (ed5 : K.lookup ecd5 = some ⟨e1_5, e2_5, .fields evs5, e3_5⟩)
    (ev5 : evs5[2]? = some (.str efl5 etk5))
    (ew5 : ((l.prog.main.file : Str) == efl5) = true)
    (ex5 : K.lookup ecc5 = some ⟨x1_5, x2_5, .cell (some (.ref C5)), x3_5⟩)
    (es5 : PySem.W.ks_superIn K C5 C5 "__init__" = some (some (.builtin "Exception.__init__")))
    (eb5 : PySem.W.subIn K (.ref C5) (.type "Exception") = some true)
    (em5 : PySem.W.mroIn K C5 (.ref C5) = some true)
    (ea5 : PySem.W.findIn K (.ref C5) "__setattr__" = some (some (.builtin "object.__setattr__")))
    (en5 : PySem.W.findIn K (.ref C5) "value" = some none)
    (ek5 : PySem.W.keepIn K (.ref C5) = true)
    (ey5 : PySem.W.typeIn K (.ref C5) = some (.type "type"))
    (xga5 : PySem.W.findIn K (.ref C5) "__getattribute__" = some (some (.builtin "BaseException.__getattribute__")))
    (xgg5 : PySem.W.findIn K (.ref C5) "__getattr__" = some none)
    (xex5 : PySem.W.subIn K (.ref C5) (.type "BaseException") = some true)
    (xhd5 : PySem.W.hasDictIn K C5 = true)
    (xca5 : PySem.W.findIn K (.ref C5) "__class__" = some (some (.builtin "object.__class__")))
    (xcn5 : PySem.W.specialIn K (.builtin "object.__class__") "__get__" = some (some (.builtin "getset_descriptor.__get__")))
    (xct5 : PySem.W.takesIn K (.builtin "object.__class__") = some true)
    (xcm5 : PySem.W.mroIn K C5 (.type "object") = some true)
    (aE6 : PySem.W.nsIn K mainGlobals "InvalidWishes" = some (some (.ref C6)))
    (eq6 : PySem.W.excInitIn K C6 ESX.exTail "Exception.__new__" = true)
    (eo6 : PySem.W.excOver K C6 ESX.exTail = true)
    (ei6 : PySem.W.findIn K (.ref C6) "__init__" = some (some (.ref ef6)))
    (et6 : PySem.W.typeIn K (.ref ef6) = some (.type "function"))
    (el6 : K.lookup ef6 = some ⟨eoc6, eod6, .func (PySem.W.ksFn "__init__" "InvalidWishes.__init__" (defArgs s_E6) (defBody s_E6) (defScope s_E6) .none ekV6 edc6 epm6 ean6 (.ref ecd6) ect6 ecc6), eosl6⟩)
    (ec6 : PySem.W.codeIn K (.ref ecd6) "InvalidWishes.__init__" = true)
    (ed6 : K.lookup ecd6 = some ⟨e1_6, e2_6, .fields evs6, e3_6⟩)
    (ev6 : evs6[2]? = some (.str efl6 etk6))
    (ew6 : ((l.prog.main.file : Str) == efl6) = true)
    (ex6 : K.lookup ecc6 = some ⟨x1_6, x2_6, .cell (some (.ref C6)), x3_6⟩)
    (es6 : PySem.W.ks_superIn K C6 C6 "__init__" = some (some (.builtin "Exception.__init__")))
    (eb6 : PySem.W.subIn K (.ref C6) (.type "Exception") = some true)
    (em6 : PySem.W.mroIn K C6 (.ref C6) = some true)
    (ea6 : PySem.W.findIn K (.ref C6) "__setattr__" = some (some (.builtin "object.__setattr__")))
    (en6 : PySem.W.findIn K (.ref C6) "value" = some none)
    (ek6 : PySem.W.keepIn K (.ref C6) = true)
    (ey6 : PySem.W.typeIn K (.ref C6) = some (.type "type"))
    (xga6 : PySem.W.findIn K (.ref C6) "__getattribute__" = some (some (.builtin "BaseException.__getattribute__")))
    (xgg6 : PySem.W.findIn K (.ref C6) "__getattr__" = some none)
    (xex6 : PySem.W.subIn K (.ref C6) (.type "BaseException") = some true)
    (xhd6 : PySem.W.hasDictIn K C6 = true)
    (xca6 : PySem.W.findIn K (.ref C6) "__class__" = some (some (.builtin "object.__class__")))
    (xcn6 : PySem.W.specialIn K (.builtin "object.__class__") "__get__" = some (some (.builtin "getset_descriptor.__get__")))
    (xct6 : PySem.W.takesIn K (.builtin "object.__class__") = some true)
    (xcm6 : PySem.W.mroIn K C6 (.type "object") = some true)
    (aE7 : PySem.W.nsIn K mainGlobals "InvalidStored" = some (some (.ref C7)))
    (eq7 : PySem.W.excInitIn K C7 ESX.exTail "Exception.__new__" = true)
    (eo7 : PySem.W.excOver K C7 ESX.exTail = true)
    (ei7 : PySem.W.findIn K (.ref C7) "__init__" = some (some (.ref ef7)))
    (et7 : PySem.W.typeIn K (.ref ef7) = some (.type "function"))
    (el7 : K.lookup ef7 = some ⟨eoc7, eod7, .func (PySem.W.ksFn "__init__" "InvalidStored.__init__" (defArgs s_E7) (defBody s_E7) (defScope s_E7) .none ekV7 edc7 epm7 ean7 (.ref ecd7) ect7 ecc7), eosl7⟩)
    (ec7 : PySem.W.codeIn K (.ref ecd7) "InvalidStored.__init__" = true)
    (ed7 : K.lookup ecd7 = some ⟨e1_7, e2_7, .fields evs7, e3_7⟩)
    (ev7 : evs7[2]? = some (.str efl7 etk7))
    (ew7 : ((l.prog.main.file : Str) == efl7) = true)
    (ex7 : K.lookup ecc7 = some ⟨x1_7, x2_7, .cell (some (.ref C7)), x3_7⟩)
    (es7 : PySem.W.ks_superIn K C7 C7 "__init__" = some (some (.builtin "Exception.__init__")))
    (eb7 : PySem.W.subIn K (.ref C7) (.type "Exception") = some true)
    (em7 : PySem.W.mroIn K C7 (.ref C7) = some true)
    (ea7 : PySem.W.findIn K (.ref C7) "__setattr__" = some (some (.builtin "object.__setattr__")))
    (en7 : PySem.W.findIn K (.ref C7) "value" = some none)
    (ek7 : PySem.W.keepIn K (.ref C7) = true)
    (ey7 : PySem.W.typeIn K (.ref C7) = some (.type "type"))
    (xga7 : PySem.W.findIn K (.ref C7) "__getattribute__" = some (some (.builtin "BaseException.__getattribute__")))
    (xgg7 : PySem.W.findIn K (.ref C7) "__getattr__" = some none)
    (xex7 : PySem.W.subIn K (.ref C7) (.type "BaseException") = some true)
    (xhd7 : PySem.W.hasDictIn K C7 = true)
    (xca7 : PySem.W.findIn K (.ref C7) "__class__" = some (some (.builtin "object.__class__")))
    (xcn7 : PySem.W.specialIn K (.builtin "object.__class__") "__get__" = some (some (.builtin "getset_descriptor.__get__")))
    (xct7 : PySem.W.takesIn K (.builtin "object.__class__") = some true)
    (xcm7 : PySem.W.mroIn K C7 (.type "object") = some true)
    (aE8 : PySem.W.nsIn K mainGlobals "InvalidPlacing" = some (some (.ref C8)))
    (eq8 : PySem.W.excInitIn K C8 ESX.exTail "Exception.__new__" = true)
    (eo8 : PySem.W.excOver K C8 ESX.exTail = true)
    (ei8 : PySem.W.findIn K (.ref C8) "__init__" = some (some (.ref ef8)))
    (et8 : PySem.W.typeIn K (.ref ef8) = some (.type "function"))
    (el8 : K.lookup ef8 = some ⟨eoc8, eod8, .func (PySem.W.ksFn "__init__" "InvalidPlacing.__init__" (defArgs s_E8) (defBody s_E8) (defScope s_E8) .none ekV8 edc8 epm8 ean8 (.ref ecd8) ect8 ecc8), eosl8⟩)
    (ec8 : PySem.W.codeIn K (.ref ecd8) "InvalidPlacing.__init__" = true)
    (ed8 : K.lookup ecd8 = some ⟨e1_8, e2_8, .fields evs8, e3_8⟩)
    (ev8 : evs8[2]? = some (.str efl8 etk8))
    (ew8 : ((l.prog.main.file : Str) == efl8) = true)
    (ex8 : K.lookup ecc8 = some ⟨x1_8, x2_8, .cell (some (.ref C8)), x3_8⟩)
    (es8 : PySem.W.ks_superIn K C8 C8 "__init__" = some (some (.builtin "Exception.__init__")))
    (eb8 : PySem.W.subIn K (.ref C8) (.type "Exception") = some true)
    (em8 : PySem.W.mroIn K C8 (.ref C8) = some true)
    (ea8 : PySem.W.findIn K (.ref C8) "__setattr__" = some (some (.builtin "object.__setattr__")))
    (en8 : PySem.W.findIn K (.ref C8) "value" = some none)
    (ek8 : PySem.W.keepIn K (.ref C8) = true)
    (ey8 : PySem.W.typeIn K (.ref C8) = some (.type "type"))
    (xga8 : PySem.W.findIn K (.ref C8) "__getattribute__" = some (some (.builtin "BaseException.__getattribute__")))
    (xgg8 : PySem.W.findIn K (.ref C8) "__getattr__" = some none)
    (xex8 : PySem.W.subIn K (.ref C8) (.type "BaseException") = some true)
    (xhd8 : PySem.W.hasDictIn K C8 = true)
    (xca8 : PySem.W.findIn K (.ref C8) "__class__" = some (some (.builtin "object.__class__")))
    (xcn8 : PySem.W.specialIn K (.builtin "object.__class__") "__get__" = some (some (.builtin "getset_descriptor.__get__")))
    (xct8 : PySem.W.takesIn K (.builtin "object.__class__") = some true)
    (xcm8 : PySem.W.mroIn K C8 (.type "object") = some true)
    (aE9 : PySem.W.nsIn K mainGlobals "InvalidNumber" = some (some (.ref C9)))
    (eq9 : PySem.W.excInitIn K C9 ESX.exTail "Exception.__new__" = true)
    (eo9 : PySem.W.excOver K C9 ESX.exTail = true)
    (ei9 : PySem.W.findIn K (.ref C9) "__init__" = some (some (.ref ef9)))
    (et9 : PySem.W.typeIn K (.ref ef9) = some (.type "function"))
    (el9 : K.lookup ef9 = some ⟨eoc9, eod9, .func (PySem.W.ksFn "__init__" "InvalidNumber.__init__" (defArgs s_E9) (defBody s_E9) (defScope s_E9) .none ekV9 edc9 epm9 ean9 (.ref ecd9) ect9 ecc9), eosl9⟩)
    (ec9 : PySem.W.codeIn K (.ref ecd9) "InvalidNumber.__init__" = true)
    (ed9 : K.lookup ecd9 = some ⟨e1_9, e2_9, .fields evs9, e3_9⟩)
    (ev9 : evs9[2]? = some (.str efl9 etk9))
    (ew9 : ((l.prog.main.file : Str) == efl9) = true)
    (ex9 : K.lookup ecc9 = some ⟨x1_9, x2_9, .cell (some (.ref C9)), x3_9⟩)
    (es9 : PySem.W.ks_superIn K C9 C9 "__init__" = some (some (.builtin "Exception.__init__")))
    (eb9 : PySem.W.subIn K (.ref C9) (.type "Exception") = some true)
    (em9 : PySem.W.mroIn K C9 (.ref C9) = some true)
    (ea9 : PySem.W.findIn K (.ref C9) "__setattr__" = some (some (.builtin "object.__setattr__")))
    (en9 : PySem.W.findIn K (.ref C9) "value" = some none)
    (ek9 : PySem.W.keepIn K (.ref C9) = true)
    (ey9 : PySem.W.typeIn K (.ref C9) = some (.type "type"))
    (xga9 : PySem.W.findIn K (.ref C9) "__getattribute__" = some (some (.builtin "BaseException.__getattribute__")))
    (xgg9 : PySem.W.findIn K (.ref C9) "__getattr__" = some none)
    (xex9 : PySem.W.subIn K (.ref C9) (.type "BaseException") = some true)
    (xhd9 : PySem.W.hasDictIn K C9 = true)
    (xca9 : PySem.W.findIn K (.ref C9) "__class__" = some (some (.builtin "object.__class__")))
    (xcn9 : PySem.W.specialIn K (.builtin "object.__class__") "__get__" = some (some (.builtin "getset_descriptor.__get__")))
    (xct9 : PySem.W.takesIn K (.builtin "object.__class__") = some true)
    (xcm9 : PySem.W.mroIn K C9 (.type "object") = some true)
    (aE10 : PySem.W.nsIn K mainGlobals "InvalidTable" = some (some (.ref C10)))
    (eq10 : PySem.W.excInitIn K C10 ESX.exTail "Exception.__new__" = true)
    (eo10 : PySem.W.excOver K C10 ESX.exTail = true)
    (ei10 : PySem.W.findIn K (.ref C10) "__init__" = some (some (.ref ef10)))
    (et10 : PySem.W.typeIn K (.ref ef10) = some (.type "function"))
    (el10 : K.lookup ef10 = some ⟨eoc10, eod10, .func (PySem.W.ksFn "__init__" "InvalidTable.__init__" (defArgs s_E10) (defBody s_E10) (defScope s_E10) .none ekV10 edc10 epm10 ean10 (.ref ecd10) ect10 ecc10), eosl10⟩)
    (ec10 : PySem.W.codeIn K (.ref ecd10) "InvalidTable.__init__" = true)
    (ed10 : K.lookup ecd10 = some ⟨e1_10, e2_10, .fields evs10, e3_10⟩)
    (ev10 : evs10[2]? = some (.str efl10 etk10))
    (ew10 : ((l.prog.main.file : Str) == efl10) = true)
    (ex10 : K.lookup ecc10 = some ⟨x1_10, x2_10, .cell (some (.ref C10)), x3_10⟩)
    (es10 : PySem.W.ks_superIn K C10 C10 "__init__" = some (some (.builtin "Exception.__init__")))
    (eb10 : PySem.W.subIn K (.ref C10) (.type "Exception") = some true)
    (em10 : PySem.W.mroIn K C10 (.ref C10) = some true)
    (ea10 : PySem.W.findIn K (.ref C10) "__setattr__" = some (some (.builtin "object.__setattr__")))
    (en10 : PySem.W.findIn K (.ref C10) "place" = some none)
    (ek10 : PySem.W.keepIn K (.ref C10) = true)
    (ey10 : PySem.W.typeIn K (.ref C10) = some (.type "type"))
    (xga10 : PySem.W.findIn K (.ref C10) "__getattribute__" = some (some (.builtin "BaseException.__getattribute__")))
    (xgg10 : PySem.W.findIn K (.ref C10) "__getattr__" = some none)
    (xex10 : PySem.W.subIn K (.ref C10) (.type "BaseException") = some true)
    (xhd10 : PySem.W.hasDictIn K C10 = true)
    (xca10 : PySem.W.findIn K (.ref C10) "__class__" = some (some (.builtin "object.__class__")))
    (xcn10 : PySem.W.specialIn K (.builtin "object.__class__") "__get__" = some (some (.builtin "getset_descriptor.__get__")))
    (xct10 : PySem.W.takesIn K (.builtin "object.__class__") = some true)
    (xcm10 : PySem.W.mroIn K C10 (.type "object") = some true)
    (aE11 : PySem.W.nsIn K mainGlobals "InvalidOperand" = some (some (.ref C11)))
    (eq11 : PySem.W.excInitIn K C11 ESX.exTail "Exception.__new__" = true)
    (eo11 : PySem.W.excOver K C11 ESX.exTail = true)
    (ei11 : PySem.W.findIn K (.ref C11) "__init__" = some (some (.ref ef11)))
    (et11 : PySem.W.typeIn K (.ref ef11) = some (.type "function"))
    (el11 : K.lookup ef11 = some ⟨eoc11, eod11, .func (PySem.W.ksFn "__init__" "InvalidOperand.__init__" (defArgs s_E11) (defBody s_E11) (defScope s_E11) .none ekV11 edc11 epm11 ean11 (.ref ecd11) ect11 ecc11), eosl11⟩)
    (ec11 : PySem.W.codeIn K (.ref ecd11) "InvalidOperand.__init__" = true)
    (ed11 : K.lookup ecd11 = some ⟨e1_11, e2_11, .fields evs11, e3_11⟩)
    (ev11 : evs11[2]? = some (.str efl11 etk11))
    (ew11 : ((l.prog.main.file : Str) == efl11) = true)
    (ex11 : K.lookup ecc11 = some ⟨x1_11, x2_11, .cell (some (.ref C11)), x3_11⟩)
    (es11 : PySem.W.ks_superIn K C11 C11 "__init__" = some (some (.builtin "Exception.__init__")))
    (eb11 : PySem.W.subIn K (.ref C11) (.type "Exception") = some true)
    (em11 : PySem.W.mroIn K C11 (.ref C11) = some true)
    (ea11 : PySem.W.findIn K (.ref C11) "__setattr__" = some (some (.builtin "object.__setattr__")))
    (en11 : PySem.W.findIn K (.ref C11) "other" = some none)
    (ek11 : PySem.W.keepIn K (.ref C11) = true)
    (ey11 : PySem.W.typeIn K (.ref C11) = some (.type "type"))
    (xga11 : PySem.W.findIn K (.ref C11) "__getattribute__" = some (some (.builtin "BaseException.__getattribute__")))
    (xgg11 : PySem.W.findIn K (.ref C11) "__getattr__" = some none)
    (xex11 : PySem.W.subIn K (.ref C11) (.type "BaseException") = some true)
    (xhd11 : PySem.W.hasDictIn K C11 = true)
    (xca11 : PySem.W.findIn K (.ref C11) "__class__" = some (some (.builtin "object.__class__")))
    (xcn11 : PySem.W.specialIn K (.builtin "object.__class__") "__get__" = some (some (.builtin "getset_descriptor.__get__")))
    (xct11 : PySem.W.takesIn K (.builtin "object.__class__") = some true)
    (xcm11 : PySem.W.mroIn K C11 (.type "object") = some true)
    (aE12 : PySem.W.nsIn K mainGlobals "LimitExceeded" = some (some (.ref C12)))
    (eq12 : PySem.W.excInitIn K C12 ESX.exTail "Exception.__new__" = true)
    (eo12 : PySem.W.excOver K C12 ESX.exTail = true)
    (ei12 : PySem.W.findIn K (.ref C12) "__init__" = some (some (.ref ef12)))
    (et12 : PySem.W.typeIn K (.ref ef12) = some (.type "function"))
    (el12 : K.lookup ef12 = some ⟨eoc12, eod12, .func (PySem.W.ksFn "__init__" "LimitExceeded.__init__" (defArgs s_E12) (defBody s_E12) (defScope s_E12) .none ekV12 edc12 epm12 ean12 (.ref ecd12) ect12 ecc12), eosl12⟩)
    (ec12 : PySem.W.codeIn K (.ref ecd12) "LimitExceeded.__init__" = true)
    (ed12 : K.lookup ecd12 = some ⟨e1_12, e2_12, .fields evs12, e3_12⟩)
    (ev12 : evs12[2]? = some (.str efl12 etk12))
    (ew12 : ((l.prog.main.file : Str) == efl12) = true)
    (ex12 : K.lookup ecc12 = some ⟨x1_12, x2_12, .cell (some (.ref C12)), x3_12⟩)
    (es12 : PySem.W.ks_superIn K C12 C12 "__init__" = some (some (.builtin "Exception.__init__")))
    (eb12 : PySem.W.subIn K (.ref C12) (.type "Exception") = some true)
    (em12 : PySem.W.mroIn K C12 (.ref C12) = some true)
    (ea12 : PySem.W.findIn K (.ref C12) "__setattr__" = some (some (.builtin "object.__setattr__")))
    (en12 : PySem.W.findIn K (.ref C12) "limit" = some none)
    (ek12 : PySem.W.keepIn K (.ref C12) = true)
    (ey12 : PySem.W.typeIn K (.ref C12) = some (.type "type"))
    (xga12 : PySem.W.findIn K (.ref C12) "__getattribute__" = some (some (.builtin "BaseException.__getattribute__")))
    (xgg12 : PySem.W.findIn K (.ref C12) "__getattr__" = some none)
    (xex12 : PySem.W.subIn K (.ref C12) (.type "BaseException") = some true)
    (xhd12 : PySem.W.hasDictIn K C12 = true)
    (xca12 : PySem.W.findIn K (.ref C12) "__class__" = some (some (.builtin "object.__class__")))
    (xcn12 : PySem.W.specialIn K (.builtin "object.__class__") "__get__" = some (some (.builtin "getset_descriptor.__get__")))
    (xct12 : PySem.W.takesIn K (.builtin "object.__class__") = some true)
    (xcm12 : PySem.W.mroIn K C12 (.type "object") = some true)
    (aE13 : PySem.W.nsIn K mainGlobals "Lost" = some (some (.ref C13)))
    (eq13 : PySem.W.excInitIn K C13 ESX.exTail "Exception.__new__" = true)
    (eo13 : PySem.W.excOver K C13 ESX.exTail = true)
    (ei13 : PySem.W.findIn K (.ref C13) "__init__" = some (some (.ref ef13)))
    (et13 : PySem.W.typeIn K (.ref ef13) = some (.type "function"))
    (el13 : K.lookup ef13 = some ⟨eoc13, eod13, .func (PySem.W.ksFn "__init__" "Lost.__init__" (defArgs s_E13) (defBody s_E13) (defScope s_E13) .none ekV13 edc13 epm13 ean13 (.ref ecd13) ect13 ecc13), eosl13⟩)
    (ec13 : PySem.W.codeIn K (.ref ecd13) "Lost.__init__" = true)
    (ed13 : K.lookup ecd13 = some ⟨e1_13, e2_13, .fields evs13, e3_13⟩)
    (ev13 : evs13[2]? = some (.str efl13 etk13))
    (ew13 : ((l.prog.main.file : Str) == efl13) = true)
    (ex13 : K.lookup ecc13 = some ⟨x1_13, x2_13, .cell (some (.ref C13)), x3_13⟩)
    (es13 : PySem.W.ks_superIn K C13 C13 "__init__" = some (some (.builtin "Exception.__init__")))
    (eb13 : PySem.W.subIn K (.ref C13) (.type "Exception") = some true)
    (em13 : PySem.W.mroIn K C13 (.ref C13) = some true)
    (ea13 : PySem.W.findIn K (.ref C13) "__setattr__" = some (some (.builtin "object.__setattr__")))
    (en13 : PySem.W.findIn K (.ref C13) "blind" = some none)
    (ek13 : PySem.W.keepIn K (.ref C13) = true)
    (ey13 : PySem.W.typeIn K (.ref C13) = some (.type "type"))
    (xga13 : PySem.W.findIn K (.ref C13) "__getattribute__" = some (some (.builtin "BaseException.__getattribute__")))
    (xgg13 : PySem.W.findIn K (.ref C13) "__getattr__" = some none)
    (xex13 : PySem.W.subIn K (.ref C13) (.type "BaseException") = some true)
    (xhd13 : PySem.W.hasDictIn K C13 = true)
    (xca13 : PySem.W.findIn K (.ref C13) "__class__" = some (some (.builtin "object.__class__")))
    (xcn13 : PySem.W.specialIn K (.builtin "object.__class__") "__get__" = some (some (.builtin "getset_descriptor.__get__")))
    (xct13 : PySem.W.takesIn K (.builtin "object.__class__") = some true)
    (xcm13 : PySem.W.mroIn K C13 (.type "object") = some true)
    (aE14 : PySem.W.nsIn K mainGlobals "Unsure" = some (some (.ref C14)))
    (eq14 : PySem.W.excInitIn K C14 ESX.exTail "Exception.__new__" = true)
    (eo14 : PySem.W.excOver K C14 ESX.exTail = true)
    (ei14 : PySem.W.findIn K (.ref C14) "__init__" = some (some (.ref ef14)))
    (et14 : PySem.W.typeIn K (.ref ef14) = some (.type "function"))
    (el14 : K.lookup ef14 = some ⟨eoc14, eod14, .func (PySem.W.ksFn "__init__" "Unsure.__init__" (defArgs s_E14) (defBody s_E14) (defScope s_E14) .none ekV14 edc14 epm14 ean14 (.ref ecd14) ect14 ecc14), eosl14⟩)
    (ec14 : PySem.W.codeIn K (.ref ecd14) "Unsure.__init__" = true)
    (ed14 : K.lookup ecd14 = some ⟨e1_14, e2_14, .fields evs14, e3_14⟩)
    (ev14 : evs14[2]? = some (.str efl14 etk14))
    (ew14 : ((l.prog.main.file : Str) == efl14) = true)
    (ex14 : K.lookup ecc14 = some ⟨x1_14, x2_14, .cell (some (.ref C14)), x3_14⟩)
    (es14 : PySem.W.ks_superIn K C14 C14 "__init__" = some (some (.builtin "Exception.__init__")))
    (eb14 : PySem.W.subIn K (.ref C14) (.type "Exception") = some true)
    (em14 : PySem.W.mroIn K C14 (.ref C14) = some true)
    (ea14 : PySem.W.findIn K (.ref C14) "__setattr__" = some (some (.builtin "object.__setattr__")))
    (en14 : PySem.W.findIn K (.ref C14) "found" = some none)
    (ek14 : PySem.W.keepIn K (.ref C14) = true)
    (ey14 : PySem.W.typeIn K (.ref C14) = some (.type "type"))
    (xga14 : PySem.W.findIn K (.ref C14) "__getattribute__" = some (some (.builtin "BaseException.__getattribute__")))
    (xgg14 : PySem.W.findIn K (.ref C14) "__getattr__" = some none)
    (xex14 : PySem.W.subIn K (.ref C14) (.type "BaseException") = some true)
    (xhd14 : PySem.W.hasDictIn K C14 = true)
    (xca14 : PySem.W.findIn K (.ref C14) "__class__" = some (some (.builtin "object.__class__")))
    (xcn14 : PySem.W.specialIn K (.builtin "object.__class__") "__get__" = some (some (.builtin "getset_descriptor.__get__")))
    (xct14 : PySem.W.takesIn K (.builtin "object.__class__") = some true)
    (xcm14 : PySem.W.mroIn K C14 (.type "object") = some true)
    (aE15 : PySem.W.nsIn K mainGlobals "Unseen" = some (some (.ref C15)))
    (eq15 : PySem.W.excInitIn K C15 ESX.exTail "Exception.__new__" = true)
    (eo15 : PySem.W.excOver K C15 ESX.exTail = true)
    (ei15 : PySem.W.findIn K (.ref C15) "__init__" = some (some (.ref ef15)))
    (et15 : PySem.W.typeIn K (.ref ef15) = some (.type "function"))
    (el15 : K.lookup ef15 = some ⟨eoc15, eod15, .func (PySem.W.ksFn "__init__" "Unseen.__init__" (defArgs s_E15) (defBody s_E15) (defScope s_E15) .none ekV15 edc15 epm15 ean15 (.ref ecd15) ect15 ecc15), eosl15⟩)
    (ec15 : PySem.W.codeIn K (.ref ecd15) "Unseen.__init__" = true)
    (ed15 : K.lookup ecd15 = some ⟨e1_15, e2_15, .fields evs15, e3_15⟩)
    (ev15 : evs15[2]? = some (.str efl15 etk15))
    (ew15 : ((l.prog.main.file : Str) == efl15) = true)
    (ex15 : K.lookup ecc15 = some ⟨x1_15, x2_15, .cell (some (.ref C15)), x3_15⟩)
    (es15 : PySem.W.ks_superIn K C15 C15 "__init__" = some (some (.builtin "Exception.__init__")))
    (eb15 : PySem.W.subIn K (.ref C15) (.type "Exception") = some true)
    (em15 : PySem.W.mroIn K C15 (.ref C15) = some true)
    (ea15 : PySem.W.findIn K (.ref C15) "__setattr__" = some (some (.builtin "object.__setattr__")))
    (eN15 : PySem.W.findIn K (.ref C15) "blind" = some none)
    (en15 : PySem.W.findIn K (.ref C15) "group" = some none)
    (ek15 : PySem.W.keepIn K (.ref C15) = true)
    (ey15 : PySem.W.typeIn K (.ref C15) = some (.type "type"))
    (xga15 : PySem.W.findIn K (.ref C15) "__getattribute__" = some (some (.builtin "BaseException.__getattribute__")))
    (xgg15 : PySem.W.findIn K (.ref C15) "__getattr__" = some none)
    (xex15 : PySem.W.subIn K (.ref C15) (.type "BaseException") = some true)
    (xhd15 : PySem.W.hasDictIn K C15 = true)
    (xca15 : PySem.W.findIn K (.ref C15) "__class__" = some (some (.builtin "object.__class__")))
    (xcn15 : PySem.W.specialIn K (.builtin "object.__class__") "__get__" = some (some (.builtin "getset_descriptor.__get__")))
    (xct15 : PySem.W.takesIn K (.builtin "object.__class__") = some true)
    (xcm15 : PySem.W.mroIn K C15 (.type "object") = some true)
    (aE16 : PySem.W.nsIn K mainGlobals "NoWay" = some (some (.ref C16)))
    (eq16 : PySem.W.excInitIn K C16 ESX.exTail "Exception.__new__" = true)
    (eo16 : PySem.W.excOver K C16 ESX.exTail = true)
    (ei16 : PySem.W.findIn K (.ref C16) "__init__" = some (some (.ref ef16)))
    (et16 : PySem.W.typeIn K (.ref ef16) = some (.type "function"))
    (el16 : K.lookup ef16 = some ⟨eoc16, eod16, .func (PySem.W.ksFn "__init__" "NoWay.__init__" (defArgs s_E16) (defBody s_E16) (defScope s_E16) .none ekV16 edc16 epm16 ean16 (.ref ecd16) ect16 ecc16), eosl16⟩)
    (ec16 : PySem.W.codeIn K (.ref ecd16) "NoWay.__init__" = true)
    (ed16 : K.lookup ecd16 = some ⟨e1_16, e2_16, .fields evs16, e3_16⟩)
    (ev16 : evs16[2]? = some (.str efl16 etk16))
    (ew16 : ((l.prog.main.file : Str) == efl16) = true)
    (ex16 : K.lookup ecc16 = some ⟨x1_16, x2_16, .cell (some (.ref C16)), x3_16⟩)
    (es16 : PySem.W.ks_superIn K C16 C16 "__init__" = some (some (.builtin "Exception.__init__")))
    (eb16 : PySem.W.subIn K (.ref C16) (.type "Exception") = some true)
    (em16 : PySem.W.mroIn K C16 (.ref C16) = some true)
    (ea16 : PySem.W.findIn K (.ref C16) "__setattr__" = some (some (.builtin "object.__setattr__")))
    (en16 : PySem.W.findIn K (.ref C16) "blocks" = some none)
    (ek16 : PySem.W.keepIn K (.ref C16) = true)
    (ey16 : PySem.W.typeIn K (.ref C16) = some (.type "type"))
    (xga16 : PySem.W.findIn K (.ref C16) "__getattribute__" = some (some (.builtin "BaseException.__getattribute__")))
    (xgg16 : PySem.W.findIn K (.ref C16) "__getattr__" = some none)
    (xex16 : PySem.W.subIn K (.ref C16) (.type "BaseException") = some true)
    (xhd16 : PySem.W.hasDictIn K C16 = true)
    (xca16 : PySem.W.findIn K (.ref C16) "__class__" = some (some (.builtin "object.__class__")))
    (xcn16 : PySem.W.specialIn K (.builtin "object.__class__") "__get__" = some (some (.builtin "getset_descriptor.__get__")))
    (xct16 : PySem.W.takesIn K (.builtin "object.__class__") = some true)
    (xcm16 : PySem.W.mroIn K C16 (.type "object") = some true)
    (kx_1_0 : PySem.W.kitOne K (.ref C1) (.ref C0) = some true)
    (kx_1_10 : PySem.W.kitOne K (.ref C1) (.ref C10) = some false)
    (kx_1_11 : PySem.W.kitOne K (.ref C1) (.ref C11) = some false)
    (kx_1_12 : PySem.W.kitOne K (.ref C1) (.ref C12) = some false)
    (kx_1_13 : PySem.W.kitOne K (.ref C1) (.ref C13) = some false)
    (kx_1_14 : PySem.W.kitOne K (.ref C1) (.ref C14) = some false)
    (kx_1_15 : PySem.W.kitOne K (.ref C1) (.ref C15) = some false)
    (kx_1_16 : PySem.W.kitOne K (.ref C1) (.ref C16) = some false)
    (kx_1_2 : PySem.W.kitOne K (.ref C1) (.ref C2) = some false)
    (kx_1_3 : PySem.W.kitOne K (.ref C1) (.ref C3) = some false)
    (kx_1_4 : PySem.W.kitOne K (.ref C1) (.ref C4) = some false)
    (kx_1_5 : PySem.W.kitOne K (.ref C1) (.ref C5) = some false)
    (kx_1_6 : PySem.W.kitOne K (.ref C1) (.ref C6) = some false)
    (kx_1_7 : PySem.W.kitOne K (.ref C1) (.ref C7) = some false)
    (kx_1_8 : PySem.W.kitOne K (.ref C1) (.ref C8) = some false)
    (kx_1_9 : PySem.W.kitOne K (.ref C1) (.ref C9) = some false)
    (kx_1_LookupError : PySem.W.kitOne K (.ref C1) (.type "LookupError") = some false)
    (kx_1_RuntimeError : PySem.W.kitOne K (.ref C1) (.type "RuntimeError") = some false)
    (kx_1_ValueError : PySem.W.kitOne K (.ref C1) (.type "ValueError") = some false)
    (kx_10_0 : PySem.W.kitOne K (.ref C10) (.ref C0) = some true)
    (kx_10_1 : PySem.W.kitOne K (.ref C10) (.ref C1) = some false)
    (kx_10_11 : PySem.W.kitOne K (.ref C10) (.ref C11) = some false)
    (kx_10_12 : PySem.W.kitOne K (.ref C10) (.ref C12) = some false)
    (kx_10_13 : PySem.W.kitOne K (.ref C10) (.ref C13) = some false)
    (kx_10_14 : PySem.W.kitOne K (.ref C10) (.ref C14) = some false)
    (kx_10_15 : PySem.W.kitOne K (.ref C10) (.ref C15) = some false)
    (kx_10_16 : PySem.W.kitOne K (.ref C10) (.ref C16) = some false)
    (kx_10_2 : PySem.W.kitOne K (.ref C10) (.ref C2) = some false)
    (kx_10_3 : PySem.W.kitOne K (.ref C10) (.ref C3) = some false)
    (kx_10_4 : PySem.W.kitOne K (.ref C10) (.ref C4) = some false)
    (kx_10_5 : PySem.W.kitOne K (.ref C10) (.ref C5) = some false)
    (kx_10_6 : PySem.W.kitOne K (.ref C10) (.ref C6) = some false)
    (kx_10_7 : PySem.W.kitOne K (.ref C10) (.ref C7) = some false)
    (kx_10_8 : PySem.W.kitOne K (.ref C10) (.ref C8) = some false)
    (kx_10_9 : PySem.W.kitOne K (.ref C10) (.ref C9) = some false)
    (kx_10_LookupError : PySem.W.kitOne K (.ref C10) (.type "LookupError") = some false)
    (kx_10_RuntimeError : PySem.W.kitOne K (.ref C10) (.type "RuntimeError") = some false)
    (kx_10_ValueError : PySem.W.kitOne K (.ref C10) (.type "ValueError") = some false)
    (kx_11_0 : PySem.W.kitOne K (.ref C11) (.ref C0) = some true)
    (kx_11_1 : PySem.W.kitOne K (.ref C11) (.ref C1) = some false)
    (kx_11_10 : PySem.W.kitOne K (.ref C11) (.ref C10) = some false)
    (kx_11_12 : PySem.W.kitOne K (.ref C11) (.ref C12) = some false)
    (kx_11_13 : PySem.W.kitOne K (.ref C11) (.ref C13) = some false)
    (kx_11_14 : PySem.W.kitOne K (.ref C11) (.ref C14) = some false)
    (kx_11_15 : PySem.W.kitOne K (.ref C11) (.ref C15) = some false)
    (kx_11_16 : PySem.W.kitOne K (.ref C11) (.ref C16) = some false)
    (kx_11_2 : PySem.W.kitOne K (.ref C11) (.ref C2) = some false)
    (kx_11_3 : PySem.W.kitOne K (.ref C11) (.ref C3) = some false)
    (kx_11_4 : PySem.W.kitOne K (.ref C11) (.ref C4) = some false)
    (kx_11_5 : PySem.W.kitOne K (.ref C11) (.ref C5) = some false)
    (kx_11_6 : PySem.W.kitOne K (.ref C11) (.ref C6) = some false)
    (kx_11_7 : PySem.W.kitOne K (.ref C11) (.ref C7) = some false)
    (kx_11_8 : PySem.W.kitOne K (.ref C11) (.ref C8) = some false)
    (kx_11_9 : PySem.W.kitOne K (.ref C11) (.ref C9) = some false)
    (kx_11_LookupError : PySem.W.kitOne K (.ref C11) (.type "LookupError") = some false)
    (kx_11_RuntimeError : PySem.W.kitOne K (.ref C11) (.type "RuntimeError") = some false)
    (kx_11_ValueError : PySem.W.kitOne K (.ref C11) (.type "ValueError") = some false)
    (kx_12_0 : PySem.W.kitOne K (.ref C12) (.ref C0) = some true)
    (kx_12_1 : PySem.W.kitOne K (.ref C12) (.ref C1) = some false)
    (kx_12_10 : PySem.W.kitOne K (.ref C12) (.ref C10) = some false)
    (kx_12_11 : PySem.W.kitOne K (.ref C12) (.ref C11) = some false)
    (kx_12_13 : PySem.W.kitOne K (.ref C12) (.ref C13) = some false)
    (kx_12_14 : PySem.W.kitOne K (.ref C12) (.ref C14) = some false)
    (kx_12_15 : PySem.W.kitOne K (.ref C12) (.ref C15) = some false)
    (kx_12_16 : PySem.W.kitOne K (.ref C12) (.ref C16) = some false)
    (kx_12_2 : PySem.W.kitOne K (.ref C12) (.ref C2) = some false)
    (kx_12_3 : PySem.W.kitOne K (.ref C12) (.ref C3) = some false)
    (kx_12_4 : PySem.W.kitOne K (.ref C12) (.ref C4) = some false)
    (kx_12_5 : PySem.W.kitOne K (.ref C12) (.ref C5) = some false)
    (kx_12_6 : PySem.W.kitOne K (.ref C12) (.ref C6) = some false)
    (kx_12_7 : PySem.W.kitOne K (.ref C12) (.ref C7) = some false)
    (kx_12_8 : PySem.W.kitOne K (.ref C12) (.ref C8) = some false)
    (kx_12_9 : PySem.W.kitOne K (.ref C12) (.ref C9) = some false)
    (kx_12_LookupError : PySem.W.kitOne K (.ref C12) (.type "LookupError") = some false)
    (kx_12_RuntimeError : PySem.W.kitOne K (.ref C12) (.type "RuntimeError") = some false)
    (kx_12_ValueError : PySem.W.kitOne K (.ref C12) (.type "ValueError") = some false)
    (kx_13_0 : PySem.W.kitOne K (.ref C13) (.ref C0) = some true)
    (kx_13_1 : PySem.W.kitOne K (.ref C13) (.ref C1) = some false)
    (kx_13_10 : PySem.W.kitOne K (.ref C13) (.ref C10) = some false)
    (kx_13_11 : PySem.W.kitOne K (.ref C13) (.ref C11) = some false)
    (kx_13_12 : PySem.W.kitOne K (.ref C13) (.ref C12) = some false)
    (kx_13_14 : PySem.W.kitOne K (.ref C13) (.ref C14) = some false)
    (kx_13_15 : PySem.W.kitOne K (.ref C13) (.ref C15) = some false)
    (kx_13_16 : PySem.W.kitOne K (.ref C13) (.ref C16) = some false)
    (kx_13_2 : PySem.W.kitOne K (.ref C13) (.ref C2) = some false)
    (kx_13_3 : PySem.W.kitOne K (.ref C13) (.ref C3) = some false)
    (kx_13_4 : PySem.W.kitOne K (.ref C13) (.ref C4) = some false)
    (kx_13_5 : PySem.W.kitOne K (.ref C13) (.ref C5) = some false)
    (kx_13_6 : PySem.W.kitOne K (.ref C13) (.ref C6) = some false)
    (kx_13_7 : PySem.W.kitOne K (.ref C13) (.ref C7) = some false)
    (kx_13_8 : PySem.W.kitOne K (.ref C13) (.ref C8) = some false)
    (kx_13_9 : PySem.W.kitOne K (.ref C13) (.ref C9) = some false)
    (kx_13_LookupError : PySem.W.kitOne K (.ref C13) (.type "LookupError") = some false)
    (kx_13_RuntimeError : PySem.W.kitOne K (.ref C13) (.type "RuntimeError") = some false)
    (kx_13_ValueError : PySem.W.kitOne K (.ref C13) (.type "ValueError") = some false)
    (kx_14_0 : PySem.W.kitOne K (.ref C14) (.ref C0) = some true)
    (kx_14_1 : PySem.W.kitOne K (.ref C14) (.ref C1) = some false)
    (kx_14_10 : PySem.W.kitOne K (.ref C14) (.ref C10) = some false)
    (kx_14_11 : PySem.W.kitOne K (.ref C14) (.ref C11) = some false)
    (kx_14_12 : PySem.W.kitOne K (.ref C14) (.ref C12) = some false)
    (kx_14_13 : PySem.W.kitOne K (.ref C14) (.ref C13) = some false)
    (kx_14_15 : PySem.W.kitOne K (.ref C14) (.ref C15) = some false)
    (kx_14_16 : PySem.W.kitOne K (.ref C14) (.ref C16) = some false)
    (kx_14_2 : PySem.W.kitOne K (.ref C14) (.ref C2) = some false)
    (kx_14_3 : PySem.W.kitOne K (.ref C14) (.ref C3) = some false)
    (kx_14_4 : PySem.W.kitOne K (.ref C14) (.ref C4) = some false)
    (kx_14_5 : PySem.W.kitOne K (.ref C14) (.ref C5) = some false)
    (kx_14_6 : PySem.W.kitOne K (.ref C14) (.ref C6) = some false)
    (kx_14_7 : PySem.W.kitOne K (.ref C14) (.ref C7) = some false)
    (kx_14_8 : PySem.W.kitOne K (.ref C14) (.ref C8) = some false)
    (kx_14_9 : PySem.W.kitOne K (.ref C14) (.ref C9) = some false)
    (kx_14_LookupError : PySem.W.kitOne K (.ref C14) (.type "LookupError") = some false)
    (kx_14_RuntimeError : PySem.W.kitOne K (.ref C14) (.type "RuntimeError") = some false)
    (kx_14_ValueError : PySem.W.kitOne K (.ref C14) (.type "ValueError") = some false)
    (kx_15_0 : PySem.W.kitOne K (.ref C15) (.ref C0) = some true)
    (kx_15_1 : PySem.W.kitOne K (.ref C15) (.ref C1) = some false)
    (kx_15_10 : PySem.W.kitOne K (.ref C15) (.ref C10) = some false)
    (kx_15_11 : PySem.W.kitOne K (.ref C15) (.ref C11) = some false)
    (kx_15_12 : PySem.W.kitOne K (.ref C15) (.ref C12) = some false)
    (kx_15_13 : PySem.W.kitOne K (.ref C15) (.ref C13) = some false)
    (kx_15_14 : PySem.W.kitOne K (.ref C15) (.ref C14) = some false)
    (kx_15_16 : PySem.W.kitOne K (.ref C15) (.ref C16) = some false)
    (kx_15_2 : PySem.W.kitOne K (.ref C15) (.ref C2) = some false)
    (kx_15_3 : PySem.W.kitOne K (.ref C15) (.ref C3) = some false)
    (kx_15_4 : PySem.W.kitOne K (.ref C15) (.ref C4) = some false)
    (kx_15_5 : PySem.W.kitOne K (.ref C15) (.ref C5) = some false)
    (kx_15_6 : PySem.W.kitOne K (.ref C15) (.ref C6) = some false)
    (kx_15_7 : PySem.W.kitOne K (.ref C15) (.ref C7) = some false)
    (kx_15_8 : PySem.W.kitOne K (.ref C15) (.ref C8) = some false)
    (kx_15_9 : PySem.W.kitOne K (.ref C15) (.ref C9) = some false)
    (kx_15_LookupError : PySem.W.kitOne K (.ref C15) (.type "LookupError") = some false)
    (kx_15_RuntimeError : PySem.W.kitOne K (.ref C15) (.type "RuntimeError") = some false)
    (kx_15_ValueError : PySem.W.kitOne K (.ref C15) (.type "ValueError") = some false)
    (kx_16_0 : PySem.W.kitOne K (.ref C16) (.ref C0) = some true)
    (kx_16_1 : PySem.W.kitOne K (.ref C16) (.ref C1) = some false)
    (kx_16_10 : PySem.W.kitOne K (.ref C16) (.ref C10) = some false)
    (kx_16_11 : PySem.W.kitOne K (.ref C16) (.ref C11) = some false)
    (kx_16_12 : PySem.W.kitOne K (.ref C16) (.ref C12) = some false)
    (kx_16_13 : PySem.W.kitOne K (.ref C16) (.ref C13) = some false)
    (kx_16_14 : PySem.W.kitOne K (.ref C16) (.ref C14) = some false)
    (kx_16_15 : PySem.W.kitOne K (.ref C16) (.ref C15) = some false)
    (kx_16_2 : PySem.W.kitOne K (.ref C16) (.ref C2) = some false)
    (kx_16_3 : PySem.W.kitOne K (.ref C16) (.ref C3) = some false)
    (kx_16_4 : PySem.W.kitOne K (.ref C16) (.ref C4) = some false)
    (kx_16_5 : PySem.W.kitOne K (.ref C16) (.ref C5) = some false)
    (kx_16_6 : PySem.W.kitOne K (.ref C16) (.ref C6) = some false)
    (kx_16_7 : PySem.W.kitOne K (.ref C16) (.ref C7) = some false)
    (kx_16_8 : PySem.W.kitOne K (.ref C16) (.ref C8) = some false)
    (kx_16_9 : PySem.W.kitOne K (.ref C16) (.ref C9) = some false)
    (kx_16_LookupError : PySem.W.kitOne K (.ref C16) (.type "LookupError") = some false)
    (kx_16_RuntimeError : PySem.W.kitOne K (.ref C16) (.type "RuntimeError") = some false)
    (kx_16_ValueError : PySem.W.kitOne K (.ref C16) (.type "ValueError") = some false)
    (kx_2_0 : PySem.W.kitOne K (.ref C2) (.ref C0) = some true)
    (kx_2_1 : PySem.W.kitOne K (.ref C2) (.ref C1) = some false)
    (kx_2_10 : PySem.W.kitOne K (.ref C2) (.ref C10) = some false)
    (kx_2_11 : PySem.W.kitOne K (.ref C2) (.ref C11) = some false)
    (kx_2_12 : PySem.W.kitOne K (.ref C2) (.ref C12) = some false)
    (kx_2_13 : PySem.W.kitOne K (.ref C2) (.ref C13) = some false)
    (kx_2_14 : PySem.W.kitOne K (.ref C2) (.ref C14) = some false)
    (kx_2_15 : PySem.W.kitOne K (.ref C2) (.ref C15) = some false)
    (kx_2_16 : PySem.W.kitOne K (.ref C2) (.ref C16) = some false)
    (kx_2_3 : PySem.W.kitOne K (.ref C2) (.ref C3) = some false)
    (kx_2_4 : PySem.W.kitOne K (.ref C2) (.ref C4) = some false)
    (kx_2_5 : PySem.W.kitOne K (.ref C2) (.ref C5) = some false)
    (kx_2_6 : PySem.W.kitOne K (.ref C2) (.ref C6) = some false)
    (kx_2_7 : PySem.W.kitOne K (.ref C2) (.ref C7) = some false)
    (kx_2_8 : PySem.W.kitOne K (.ref C2) (.ref C8) = some false)
    (kx_2_9 : PySem.W.kitOne K (.ref C2) (.ref C9) = some false)
    (kx_2_LookupError : PySem.W.kitOne K (.ref C2) (.type "LookupError") = some false)
    (kx_2_RuntimeError : PySem.W.kitOne K (.ref C2) (.type "RuntimeError") = some false)
    (kx_2_ValueError : PySem.W.kitOne K (.ref C2) (.type "ValueError") = some false)
    (kx_3_0 : PySem.W.kitOne K (.ref C3) (.ref C0) = some true)
    (kx_3_1 : PySem.W.kitOne K (.ref C3) (.ref C1) = some false)
    (kx_3_10 : PySem.W.kitOne K (.ref C3) (.ref C10) = some false)
    (kx_3_11 : PySem.W.kitOne K (.ref C3) (.ref C11) = some false)
    (kx_3_12 : PySem.W.kitOne K (.ref C3) (.ref C12) = some false)
    (kx_3_13 : PySem.W.kitOne K (.ref C3) (.ref C13) = some false)
    (kx_3_14 : PySem.W.kitOne K (.ref C3) (.ref C14) = some false)
    (kx_3_15 : PySem.W.kitOne K (.ref C3) (.ref C15) = some false)
    (kx_3_16 : PySem.W.kitOne K (.ref C3) (.ref C16) = some false)
    (kx_3_2 : PySem.W.kitOne K (.ref C3) (.ref C2) = some false)
    (kx_3_4 : PySem.W.kitOne K (.ref C3) (.ref C4) = some false)
    (kx_3_5 : PySem.W.kitOne K (.ref C3) (.ref C5) = some false)
    (kx_3_6 : PySem.W.kitOne K (.ref C3) (.ref C6) = some false)
    (kx_3_7 : PySem.W.kitOne K (.ref C3) (.ref C7) = some false)
    (kx_3_8 : PySem.W.kitOne K (.ref C3) (.ref C8) = some false)
    (kx_3_9 : PySem.W.kitOne K (.ref C3) (.ref C9) = some false)
    (kx_3_LookupError : PySem.W.kitOne K (.ref C3) (.type "LookupError") = some false)
    (kx_3_RuntimeError : PySem.W.kitOne K (.ref C3) (.type "RuntimeError") = some false)
    (kx_3_ValueError : PySem.W.kitOne K (.ref C3) (.type "ValueError") = some false)
    (kx_4_0 : PySem.W.kitOne K (.ref C4) (.ref C0) = some true)
    (kx_4_1 : PySem.W.kitOne K (.ref C4) (.ref C1) = some false)
    (kx_4_10 : PySem.W.kitOne K (.ref C4) (.ref C10) = some false)
    (kx_4_11 : PySem.W.kitOne K (.ref C4) (.ref C11) = some false)
    (kx_4_12 : PySem.W.kitOne K (.ref C4) (.ref C12) = some false)
    (kx_4_13 : PySem.W.kitOne K (.ref C4) (.ref C13) = some false)
    (kx_4_14 : PySem.W.kitOne K (.ref C4) (.ref C14) = some false)
    (kx_4_15 : PySem.W.kitOne K (.ref C4) (.ref C15) = some false)
    (kx_4_16 : PySem.W.kitOne K (.ref C4) (.ref C16) = some false)
    (kx_4_2 : PySem.W.kitOne K (.ref C4) (.ref C2) = some false)
    (kx_4_3 : PySem.W.kitOne K (.ref C4) (.ref C3) = some false)
    (kx_4_5 : PySem.W.kitOne K (.ref C4) (.ref C5) = some false)
    (kx_4_6 : PySem.W.kitOne K (.ref C4) (.ref C6) = some false)
    (kx_4_7 : PySem.W.kitOne K (.ref C4) (.ref C7) = some false)
    (kx_4_8 : PySem.W.kitOne K (.ref C4) (.ref C8) = some false)
    (kx_4_9 : PySem.W.kitOne K (.ref C4) (.ref C9) = some false)
    (kx_4_LookupError : PySem.W.kitOne K (.ref C4) (.type "LookupError") = some false)
    (kx_4_RuntimeError : PySem.W.kitOne K (.ref C4) (.type "RuntimeError") = some false)
    (kx_4_ValueError : PySem.W.kitOne K (.ref C4) (.type "ValueError") = some false)
    (kx_5_0 : PySem.W.kitOne K (.ref C5) (.ref C0) = some true)
    (kx_5_1 : PySem.W.kitOne K (.ref C5) (.ref C1) = some false)
    (kx_5_10 : PySem.W.kitOne K (.ref C5) (.ref C10) = some false)
    (kx_5_11 : PySem.W.kitOne K (.ref C5) (.ref C11) = some false)
    (kx_5_12 : PySem.W.kitOne K (.ref C5) (.ref C12) = some false)
    (kx_5_13 : PySem.W.kitOne K (.ref C5) (.ref C13) = some false)
    (kx_5_14 : PySem.W.kitOne K (.ref C5) (.ref C14) = some false)
    (kx_5_15 : PySem.W.kitOne K (.ref C5) (.ref C15) = some false)
    (kx_5_16 : PySem.W.kitOne K (.ref C5) (.ref C16) = some false)
    (kx_5_2 : PySem.W.kitOne K (.ref C5) (.ref C2) = some false)
    (kx_5_3 : PySem.W.kitOne K (.ref C5) (.ref C3) = some false)
    (kx_5_4 : PySem.W.kitOne K (.ref C5) (.ref C4) = some false)
    (kx_5_6 : PySem.W.kitOne K (.ref C5) (.ref C6) = some false)
    (kx_5_7 : PySem.W.kitOne K (.ref C5) (.ref C7) = some false)
    (kx_5_8 : PySem.W.kitOne K (.ref C5) (.ref C8) = some false)
    (kx_5_9 : PySem.W.kitOne K (.ref C5) (.ref C9) = some false)
    (kx_5_LookupError : PySem.W.kitOne K (.ref C5) (.type "LookupError") = some false)
    (kx_5_RuntimeError : PySem.W.kitOne K (.ref C5) (.type "RuntimeError") = some false)
    (kx_5_ValueError : PySem.W.kitOne K (.ref C5) (.type "ValueError") = some false)
    (kx_6_0 : PySem.W.kitOne K (.ref C6) (.ref C0) = some true)
    (kx_6_1 : PySem.W.kitOne K (.ref C6) (.ref C1) = some false)
    (kx_6_10 : PySem.W.kitOne K (.ref C6) (.ref C10) = some false)
    (kx_6_11 : PySem.W.kitOne K (.ref C6) (.ref C11) = some false)
    (kx_6_12 : PySem.W.kitOne K (.ref C6) (.ref C12) = some false)
    (kx_6_13 : PySem.W.kitOne K (.ref C6) (.ref C13) = some false)
    (kx_6_14 : PySem.W.kitOne K (.ref C6) (.ref C14) = some false)
    (kx_6_15 : PySem.W.kitOne K (.ref C6) (.ref C15) = some false)
    (kx_6_16 : PySem.W.kitOne K (.ref C6) (.ref C16) = some false)
    (kx_6_2 : PySem.W.kitOne K (.ref C6) (.ref C2) = some false)
    (kx_6_3 : PySem.W.kitOne K (.ref C6) (.ref C3) = some false)
    (kx_6_4 : PySem.W.kitOne K (.ref C6) (.ref C4) = some false)
    (kx_6_5 : PySem.W.kitOne K (.ref C6) (.ref C5) = some false)
    (kx_6_7 : PySem.W.kitOne K (.ref C6) (.ref C7) = some false)
    (kx_6_8 : PySem.W.kitOne K (.ref C6) (.ref C8) = some false)
    (kx_6_9 : PySem.W.kitOne K (.ref C6) (.ref C9) = some false)
    (kx_6_LookupError : PySem.W.kitOne K (.ref C6) (.type "LookupError") = some false)
    (kx_6_RuntimeError : PySem.W.kitOne K (.ref C6) (.type "RuntimeError") = some false)
    (kx_6_ValueError : PySem.W.kitOne K (.ref C6) (.type "ValueError") = some false)
    (kx_7_0 : PySem.W.kitOne K (.ref C7) (.ref C0) = some true)
    (kx_7_1 : PySem.W.kitOne K (.ref C7) (.ref C1) = some false)
    (kx_7_10 : PySem.W.kitOne K (.ref C7) (.ref C10) = some false)
    (kx_7_11 : PySem.W.kitOne K (.ref C7) (.ref C11) = some false)
    (kx_7_12 : PySem.W.kitOne K (.ref C7) (.ref C12) = some false)
    (kx_7_13 : PySem.W.kitOne K (.ref C7) (.ref C13) = some false)
    (kx_7_14 : PySem.W.kitOne K (.ref C7) (.ref C14) = some false)
    (kx_7_15 : PySem.W.kitOne K (.ref C7) (.ref C15) = some false)
    (kx_7_16 : PySem.W.kitOne K (.ref C7) (.ref C16) = some false)
    (kx_7_2 : PySem.W.kitOne K (.ref C7) (.ref C2) = some false)
    (kx_7_3 : PySem.W.kitOne K (.ref C7) (.ref C3) = some false)
    (kx_7_4 : PySem.W.kitOne K (.ref C7) (.ref C4) = some false)
    (kx_7_5 : PySem.W.kitOne K (.ref C7) (.ref C5) = some false)
    (kx_7_6 : PySem.W.kitOne K (.ref C7) (.ref C6) = some false)
    (kx_7_8 : PySem.W.kitOne K (.ref C7) (.ref C8) = some false)
    (kx_7_9 : PySem.W.kitOne K (.ref C7) (.ref C9) = some false)
    (kx_7_LookupError : PySem.W.kitOne K (.ref C7) (.type "LookupError") = some false)
    (kx_7_RuntimeError : PySem.W.kitOne K (.ref C7) (.type "RuntimeError") = some false)
    (kx_7_ValueError : PySem.W.kitOne K (.ref C7) (.type "ValueError") = some false)
    (kx_8_0 : PySem.W.kitOne K (.ref C8) (.ref C0) = some true)
    (kx_8_1 : PySem.W.kitOne K (.ref C8) (.ref C1) = some false)
    (kx_8_10 : PySem.W.kitOne K (.ref C8) (.ref C10) = some false)
    (kx_8_11 : PySem.W.kitOne K (.ref C8) (.ref C11) = some false)
    (kx_8_12 : PySem.W.kitOne K (.ref C8) (.ref C12) = some false)
    (kx_8_13 : PySem.W.kitOne K (.ref C8) (.ref C13) = some false)
    (kx_8_14 : PySem.W.kitOne K (.ref C8) (.ref C14) = some false)
    (kx_8_15 : PySem.W.kitOne K (.ref C8) (.ref C15) = some false)
    (kx_8_16 : PySem.W.kitOne K (.ref C8) (.ref C16) = some false)
    (kx_8_2 : PySem.W.kitOne K (.ref C8) (.ref C2) = some false)
    (kx_8_3 : PySem.W.kitOne K (.ref C8) (.ref C3) = some false)
    (kx_8_4 : PySem.W.kitOne K (.ref C8) (.ref C4) = some false)
    (kx_8_5 : PySem.W.kitOne K (.ref C8) (.ref C5) = some false)
    (kx_8_6 : PySem.W.kitOne K (.ref C8) (.ref C6) = some false)
    (kx_8_7 : PySem.W.kitOne K (.ref C8) (.ref C7) = some false)
    (kx_8_9 : PySem.W.kitOne K (.ref C8) (.ref C9) = some false)
    (kx_8_LookupError : PySem.W.kitOne K (.ref C8) (.type "LookupError") = some false)
    (kx_8_RuntimeError : PySem.W.kitOne K (.ref C8) (.type "RuntimeError") = some false)
    (kx_8_ValueError : PySem.W.kitOne K (.ref C8) (.type "ValueError") = some false)
    (kx_9_0 : PySem.W.kitOne K (.ref C9) (.ref C0) = some true)
    (kx_9_1 : PySem.W.kitOne K (.ref C9) (.ref C1) = some false)
    (kx_9_10 : PySem.W.kitOne K (.ref C9) (.ref C10) = some false)
    (kx_9_11 : PySem.W.kitOne K (.ref C9) (.ref C11) = some false)
    (kx_9_12 : PySem.W.kitOne K (.ref C9) (.ref C12) = some false)
    (kx_9_13 : PySem.W.kitOne K (.ref C9) (.ref C13) = some false)
    (kx_9_14 : PySem.W.kitOne K (.ref C9) (.ref C14) = some false)
    (kx_9_15 : PySem.W.kitOne K (.ref C9) (.ref C15) = some false)
    (kx_9_16 : PySem.W.kitOne K (.ref C9) (.ref C16) = some false)
    (kx_9_2 : PySem.W.kitOne K (.ref C9) (.ref C2) = some false)
    (kx_9_3 : PySem.W.kitOne K (.ref C9) (.ref C3) = some false)
    (kx_9_4 : PySem.W.kitOne K (.ref C9) (.ref C4) = some false)
    (kx_9_5 : PySem.W.kitOne K (.ref C9) (.ref C5) = some false)
    (kx_9_6 : PySem.W.kitOne K (.ref C9) (.ref C6) = some false)
    (kx_9_7 : PySem.W.kitOne K (.ref C9) (.ref C7) = some false)
    (kx_9_8 : PySem.W.kitOne K (.ref C9) (.ref C8) = some false)
    (kx_9_LookupError : PySem.W.kitOne K (.ref C9) (.type "LookupError") = some false)
    (kx_9_RuntimeError : PySem.W.kitOne K (.ref C9) (.type "RuntimeError") = some false)
    (kx_9_ValueError : PySem.W.kitOne K (.ref C9) (.type "ValueError") = some false)
    (z_LookupError : PySem.W.nsIn K mainGlobals "LookupError" = some none)
    (z_RuntimeError : PySem.W.nsIn K mainGlobals "RuntimeError" = some none)
    (z_ValueError : PySem.W.nsIn K mainGlobals "ValueError" = some none)
    (z_int : PySem.W.nsIn K mainGlobals "int" = some none)
    (z_isinstance : PySem.W.nsIn K mainGlobals "isinstance" = some none)
    (z_len : PySem.W.nsIn K mainGlobals "len" = some none)
    (z_max : PySem.W.nsIn K mainGlobals "max" = some none)
    (z_min : PySem.W.nsIn K mainGlobals "min" = some none)
    (z_range : PySem.W.nsIn K mainGlobals "range" = some none)
    (z_repr : PySem.W.nsIn K mainGlobals "repr" = some none)
    (cs : List (Addr × Addr × Addr)) (hcl : cs.length = ([] : List Str).length) (hcs : ∀ (i : Nat) (x : Str) (p : Addr × Addr × Addr), ([] : List Str)[i]? = some x → cs[i]? = some p → MkT mg h x p.1 p.2.1 p.2.2) :
    ∃ tb : List (Addr × Str), (∀ p ∈ tb, ∃ r ∈ cs, r.2.2 = p.1) ∧ ∀ base : Heap, K.In base → base.Ns mainGlobals mg → SysD base → (∀ r ∈ cs, LamX.TabB base mg r.2.1 r.2.2) → FnG l.prog w K mg base 3 fa (spLaw tb K) := by
  have e := hfa.symm.trans (PySem.W.mg_of X G a7)
  obtain rfl : f7 = fa := by cases e; rfl
  match cs, hcl with
  | [], _ =>
    have T : Txt l.prog (kOf [C0, C1, C2, C3, C4, C5, C6, C7, C8, C9, C10, C11, C12, C13, C14, C15, C16] []) (adOf [f0, f1, f2, f3, f4, f5, f6, f7]) (adOf [0, 0, 0, 0, 0, 0, 0, 0]) (taOf [0, 0, 0, 0, 0, 0, 0, 0]) K mg := {
    f_source := ⟨_, fun_mk (st := s_source) l0 c0 k0, (fun_mk (st := s_source) l0 c0 k0).binds (ps := ["_law_script", "_law_turn"]) fun _ _ _ _ _ _ us hl => match us, hl with | [_, _], _ => rfl⟩
    m_source := PySem.W.mg_of X G a0
    f_draw := ⟨_, fun_mk (st := s_draw) l1 c1 k1, (fun_mk (st := s_draw) l1 c1 k1).binds (ps := ["_law_source_here", "_law_amount"]) fun _ _ _ _ _ _ us hl => match us, hl with | [_, _], _ => rfl⟩
    m_draw := PySem.W.mg_of X G a1
    f_pick := ⟨_, fun_mk (st := s_pick) l2 c2 k2, (fun_mk (st := s_pick) l2 c2 k2).binds (ps := ["_law_source_here", "_law_items"]) fun _ _ _ _ _ _ us hl => match us, hl with | [_, _], _ => rfl⟩
    m_pick := PySem.W.mg_of X G a2
    f_made := ⟨_, fun_mk (st := s_made) l3 c3 k3, (fun_mk (st := s_made) l3 c3 k3).binds (ps := ["_law_one", "_law_two"]) fun _ _ _ _ _ _ us hl => match us, hl with | [_, _], _ => rfl⟩
    m_made := PySem.W.mg_of X G a3
    f_named := ⟨_, fun_mk (st := s_named) l4 c4 k4, (fun_mk (st := s_named) l4 c4 k4).binds (ps := ["_law_one", "_law_two"]) fun _ _ _ _ _ _ us hl => match us, hl with | [_, _], _ => rfl⟩
    m_named := PySem.W.mg_of X G a4
    f_kept := ⟨_, fun_mk (st := s_kept) l5 c5 k5, (fun_mk (st := s_kept) l5 c5 k5).binds (ps := ["_law_made_here"]) fun _ _ _ _ _ _ us hl => match us, hl with | [_], _ => rfl⟩
    m_kept := PySem.W.mg_of X G a5
    f_kinds := ⟨_, fun_mk (st := s_kinds) l6 c6 k6, (fun_mk (st := s_kinds) l6 c6 k6).binds (ps := ["_law_error"]) fun _ _ _ _ _ _ us hl => match us, hl with | [_], _ => rfl⟩
    m_kinds := PySem.W.mg_of X G a6
    f_law := ⟨_, fun_mk (st := s_law) l7 c7 k7, (fun_mk (st := s_law) l7 c7 k7).binds (ps := ["_law_script"]) fun _ _ _ _ _ _ us hl => match us, hl with | [_], _ => rfl⟩
    m_law := PySem.W.mg_of X G a7
    ge_0 := PySem.W.mg_of X G aE0
    xf_1 := rfl
    nfe_1 := en1
    xfc_1 := ⟨xga1, xgg1, xex1, xhd1⟩
    exc_1 := ⟨xga1, xgg1, xex1, xhd1, xca1, xcn1, xct1, xcm1⟩
    em_1 := ⟨_, ⟨PySem.F.excBase_Exception, PySem.F.store_Exception, PySem.W.kxs_Exception, eq1, eo1, ei1, et1, ⟨_, _, _, _, _, _, _, _, _, _, el1, ec1, ⟨_, _, _, _, _, _, ed1, ev1, ew1⟩, _, _, _, ex1⟩, ⟨fun h => (by cases h), fun a h => (by cases h; rfl)⟩, iniG_ok (by decide +kernel), es1, z_super, etp, eop, eb1, em1, ea1, ek1, ey1, ⟨xga1, xgg1, xex1, xhd1⟩⟩, ⟨rfl, by decide, rfl, fun L cd cc => ⟨_, _, _, _, _, rfl, ⟨_, _, _, _, _, _, _, _, _, rfl, rfl, rfl, rfl, rfl⟩, rfl⟩⟩⟩
    ge_1 := PySem.W.mg_of X G aE1
    xf_2 := rfl
    nfe_2 := en2
    xfc_2 := ⟨xga2, xgg2, xex2, xhd2⟩
    exc_2 := ⟨xga2, xgg2, xex2, xhd2, xca2, xcn2, xct2, xcm2⟩
    em_2 := ⟨_, ⟨PySem.F.excBase_Exception, PySem.F.store_Exception, PySem.W.kxs_Exception, eq2, eo2, ei2, et2, ⟨_, _, _, _, _, _, _, _, _, _, el2, ec2, ⟨_, _, _, _, _, _, ed2, ev2, ew2⟩, _, _, _, ex2⟩, ⟨fun h => (by cases h), fun a h => (by cases h; rfl)⟩, iniG_ok (by decide +kernel), es2, z_super, etp, eop, eb2, em2, ea2, ek2, ey2, ⟨xga2, xgg2, xex2, xhd2⟩⟩, ⟨rfl, by decide, rfl, fun L cd cc => ⟨_, _, _, _, _, rfl, ⟨_, _, _, _, _, _, _, _, _, rfl, rfl, rfl, rfl, rfl⟩, rfl⟩⟩⟩
    ge_2 := PySem.W.mg_of X G aE2
    xf_3 := rfl
    nfe_3 := en3
    xfc_3 := ⟨xga3, xgg3, xex3, xhd3⟩
    exc_3 := ⟨xga3, xgg3, xex3, xhd3, xca3, xcn3, xct3, xcm3⟩
    em_3 := ⟨_, ⟨PySem.F.excBase_Exception, PySem.F.store_Exception, PySem.W.kxs_Exception, eq3, eo3, ei3, et3, ⟨_, _, _, _, _, _, _, _, _, _, el3, ec3, ⟨_, _, _, _, _, _, ed3, ev3, ew3⟩, _, _, _, ex3⟩, ⟨fun h => (by cases h), fun a h => (by cases h; rfl)⟩, iniG_ok (by decide +kernel), es3, z_super, etp, eop, eb3, em3, ea3, ek3, ey3, ⟨xga3, xgg3, xex3, xhd3⟩⟩, ⟨rfl, by decide, rfl, fun L cd cc => ⟨_, _, _, _, _, rfl, ⟨_, _, _, _, _, _, _, _, _, rfl, rfl, rfl, rfl, rfl⟩, rfl⟩⟩⟩
    ge_3 := PySem.W.mg_of X G aE3
    xf_4 := rfl
    nfe_4 := en4
    xfc_4 := ⟨xga4, xgg4, xex4, xhd4⟩
    exc_4 := ⟨xga4, xgg4, xex4, xhd4, xca4, xcn4, xct4, xcm4⟩
    em_4 := ⟨_, ⟨PySem.F.excBase_Exception, PySem.F.store_Exception, PySem.W.kxs_Exception, eq4, eo4, ei4, et4, ⟨_, _, _, _, _, _, _, _, _, _, el4, ec4, ⟨_, _, _, _, _, _, ed4, ev4, ew4⟩, _, _, _, ex4⟩, ⟨fun h => (by cases h), fun a h => (by cases h; rfl)⟩, iniG_ok (by decide +kernel), es4, z_super, etp, eop, eb4, em4, ea4, ek4, ey4, ⟨xga4, xgg4, xex4, xhd4⟩⟩, ⟨rfl, by decide, rfl, fun L cd cc => ⟨_, _, _, _, _, rfl, ⟨_, _, _, _, _, _, _, _, _, rfl, rfl, rfl, rfl, rfl⟩, rfl⟩⟩⟩
    ge_4 := PySem.W.mg_of X G aE4
    xf_5 := rfl
    nfe_5 := en5
    xfc_5 := ⟨xga5, xgg5, xex5, xhd5⟩
    exc_5 := ⟨xga5, xgg5, xex5, xhd5, xca5, xcn5, xct5, xcm5⟩
    em_5 := ⟨_, ⟨PySem.F.excBase_Exception, PySem.F.store_Exception, PySem.W.kxs_Exception, eq5, eo5, ei5, et5, ⟨_, _, _, _, _, _, _, _, _, _, el5, ec5, ⟨_, _, _, _, _, _, ed5, ev5, ew5⟩, _, _, _, ex5⟩, ⟨fun h => (by cases h), fun a h => (by cases h; rfl)⟩, iniG_ok (by decide +kernel), es5, z_super, etp, eop, eb5, em5, ea5, ek5, ey5, ⟨xga5, xgg5, xex5, xhd5⟩⟩, ⟨rfl, by decide, rfl, fun L cd cc => ⟨_, _, _, _, _, rfl, ⟨_, _, _, _, _, _, _, _, _, rfl, rfl, rfl, rfl, rfl⟩, rfl⟩⟩⟩
    ge_5 := PySem.W.mg_of X G aE5
    xf_6 := rfl
    nfe_6 := en6
    xfc_6 := ⟨xga6, xgg6, xex6, xhd6⟩
    exc_6 := ⟨xga6, xgg6, xex6, xhd6, xca6, xcn6, xct6, xcm6⟩
    em_6 := ⟨_, ⟨PySem.F.excBase_Exception, PySem.F.store_Exception, PySem.W.kxs_Exception, eq6, eo6, ei6, et6, ⟨_, _, _, _, _, _, _, _, _, _, el6, ec6, ⟨_, _, _, _, _, _, ed6, ev6, ew6⟩, _, _, _, ex6⟩, ⟨fun h => (by cases h), fun a h => (by cases h; rfl)⟩, iniG_ok (by decide +kernel), es6, z_super, etp, eop, eb6, em6, ea6, ek6, ey6, ⟨xga6, xgg6, xex6, xhd6⟩⟩, ⟨rfl, by decide, rfl, fun L cd cc => ⟨_, _, _, _, _, rfl, ⟨_, _, _, _, _, _, _, _, _, rfl, rfl, rfl, rfl, rfl⟩, rfl⟩⟩⟩
    ge_6 := PySem.W.mg_of X G aE6
    xf_7 := rfl
    nfe_7 := en7
    xfc_7 := ⟨xga7, xgg7, xex7, xhd7⟩
    exc_7 := ⟨xga7, xgg7, xex7, xhd7, xca7, xcn7, xct7, xcm7⟩
    em_7 := ⟨_, ⟨PySem.F.excBase_Exception, PySem.F.store_Exception, PySem.W.kxs_Exception, eq7, eo7, ei7, et7, ⟨_, _, _, _, _, _, _, _, _, _, el7, ec7, ⟨_, _, _, _, _, _, ed7, ev7, ew7⟩, _, _, _, ex7⟩, ⟨fun h => (by cases h), fun a h => (by cases h; rfl)⟩, iniG_ok (by decide +kernel), es7, z_super, etp, eop, eb7, em7, ea7, ek7, ey7, ⟨xga7, xgg7, xex7, xhd7⟩⟩, ⟨rfl, by decide, rfl, fun L cd cc => ⟨_, _, _, _, _, rfl, ⟨_, _, _, _, _, _, _, _, _, rfl, rfl, rfl, rfl, rfl⟩, rfl⟩⟩⟩
    ge_7 := PySem.W.mg_of X G aE7
    xf_8 := rfl
    nfe_8 := en8
    xfc_8 := ⟨xga8, xgg8, xex8, xhd8⟩
    exc_8 := ⟨xga8, xgg8, xex8, xhd8, xca8, xcn8, xct8, xcm8⟩
    em_8 := ⟨_, ⟨PySem.F.excBase_Exception, PySem.F.store_Exception, PySem.W.kxs_Exception, eq8, eo8, ei8, et8, ⟨_, _, _, _, _, _, _, _, _, _, el8, ec8, ⟨_, _, _, _, _, _, ed8, ev8, ew8⟩, _, _, _, ex8⟩, ⟨fun h => (by cases h), fun a h => (by cases h; rfl)⟩, iniG_ok (by decide +kernel), es8, z_super, etp, eop, eb8, em8, ea8, ek8, ey8, ⟨xga8, xgg8, xex8, xhd8⟩⟩, ⟨rfl, by decide, rfl, fun L cd cc => ⟨_, _, _, _, _, rfl, ⟨_, _, _, _, _, _, _, _, _, rfl, rfl, rfl, rfl, rfl⟩, rfl⟩⟩⟩
    ge_8 := PySem.W.mg_of X G aE8
    xf_9 := rfl
    nfe_9 := en9
    xfc_9 := ⟨xga9, xgg9, xex9, xhd9⟩
    exc_9 := ⟨xga9, xgg9, xex9, xhd9, xca9, xcn9, xct9, xcm9⟩
    em_9 := ⟨_, ⟨PySem.F.excBase_Exception, PySem.F.store_Exception, PySem.W.kxs_Exception, eq9, eo9, ei9, et9, ⟨_, _, _, _, _, _, _, _, _, _, el9, ec9, ⟨_, _, _, _, _, _, ed9, ev9, ew9⟩, _, _, _, ex9⟩, ⟨fun h => (by cases h), fun a h => (by cases h; rfl)⟩, iniG_ok (by decide +kernel), es9, z_super, etp, eop, eb9, em9, ea9, ek9, ey9, ⟨xga9, xgg9, xex9, xhd9⟩⟩, ⟨rfl, by decide, rfl, fun L cd cc => ⟨_, _, _, _, _, rfl, ⟨_, _, _, _, _, _, _, _, _, rfl, rfl, rfl, rfl, rfl⟩, rfl⟩⟩⟩
    ge_9 := PySem.W.mg_of X G aE9
    xf_10 := rfl
    nfe_10 := en10
    xfc_10 := ⟨xga10, xgg10, xex10, xhd10⟩
    exc_10 := ⟨xga10, xgg10, xex10, xhd10, xca10, xcn10, xct10, xcm10⟩
    em_10 := ⟨_, ⟨PySem.F.excBase_Exception, PySem.F.store_Exception, PySem.W.kxs_Exception, eq10, eo10, ei10, et10, ⟨_, _, _, _, _, _, _, _, _, _, el10, ec10, ⟨_, _, _, _, _, _, ed10, ev10, ew10⟩, _, _, _, ex10⟩, ⟨fun h => (by cases h), fun a h => (by cases h; rfl)⟩, iniG_ok (by decide +kernel), es10, z_super, etp, eop, eb10, em10, ea10, ek10, ey10, ⟨xga10, xgg10, xex10, xhd10⟩⟩, ⟨rfl, by decide, rfl, fun L cd cc => ⟨_, _, _, _, _, rfl, ⟨_, _, _, _, _, _, _, _, _, rfl, rfl, rfl, rfl, rfl⟩, rfl⟩⟩⟩
    ge_10 := PySem.W.mg_of X G aE10
    xf_11 := rfl
    nfe_11 := en11
    xfc_11 := ⟨xga11, xgg11, xex11, xhd11⟩
    exc_11 := ⟨xga11, xgg11, xex11, xhd11, xca11, xcn11, xct11, xcm11⟩
    em_11 := ⟨_, ⟨PySem.F.excBase_Exception, PySem.F.store_Exception, PySem.W.kxs_Exception, eq11, eo11, ei11, et11, ⟨_, _, _, _, _, _, _, _, _, _, el11, ec11, ⟨_, _, _, _, _, _, ed11, ev11, ew11⟩, _, _, _, ex11⟩, ⟨fun h => (by cases h), fun a h => (by cases h; rfl)⟩, iniG_ok (by decide +kernel), es11, z_super, etp, eop, eb11, em11, ea11, ek11, ey11, ⟨xga11, xgg11, xex11, xhd11⟩⟩, ⟨rfl, by decide, rfl, fun L cd cc => ⟨_, _, _, _, _, rfl, ⟨_, _, _, _, _, _, _, _, _, rfl, rfl, rfl, rfl, rfl⟩, rfl⟩⟩⟩
    ge_11 := PySem.W.mg_of X G aE11
    xf_12 := rfl
    nfe_12 := en12
    xfc_12 := ⟨xga12, xgg12, xex12, xhd12⟩
    exc_12 := ⟨xga12, xgg12, xex12, xhd12, xca12, xcn12, xct12, xcm12⟩
    em_12 := ⟨_, ⟨PySem.F.excBase_Exception, PySem.F.store_Exception, PySem.W.kxs_Exception, eq12, eo12, ei12, et12, ⟨_, _, _, _, _, _, _, _, _, _, el12, ec12, ⟨_, _, _, _, _, _, ed12, ev12, ew12⟩, _, _, _, ex12⟩, ⟨fun h => (by cases h), fun a h => (by cases h; rfl)⟩, iniG_ok (by decide +kernel), es12, z_super, etp, eop, eb12, em12, ea12, ek12, ey12, ⟨xga12, xgg12, xex12, xhd12⟩⟩, ⟨rfl, by decide, rfl, fun L cd cc => ⟨_, _, _, _, _, rfl, ⟨_, _, _, _, _, _, _, _, _, rfl, rfl, rfl, rfl, rfl⟩, rfl⟩⟩⟩
    ge_12 := PySem.W.mg_of X G aE12
    xf_13 := rfl
    nfe_13 := en13
    xfc_13 := ⟨xga13, xgg13, xex13, xhd13⟩
    exc_13 := ⟨xga13, xgg13, xex13, xhd13, xca13, xcn13, xct13, xcm13⟩
    em_13 := ⟨_, ⟨PySem.F.excBase_Exception, PySem.F.store_Exception, PySem.W.kxs_Exception, eq13, eo13, ei13, et13, ⟨_, _, _, _, _, _, _, _, _, _, el13, ec13, ⟨_, _, _, _, _, _, ed13, ev13, ew13⟩, _, _, _, ex13⟩, ⟨fun h => (by cases h), fun a h => (by cases h; rfl)⟩, iniG_ok (by decide +kernel), es13, z_super, etp, eop, eb13, em13, ea13, ek13, ey13, ⟨xga13, xgg13, xex13, xhd13⟩⟩, ⟨rfl, by decide, rfl, fun L cd cc => ⟨_, _, _, _, _, rfl, ⟨_, _, _, _, _, _, _, _, _, rfl, rfl, rfl, rfl, rfl⟩, rfl⟩⟩⟩
    ge_13 := PySem.W.mg_of X G aE13
    xf_14 := rfl
    nfe_14 := en14
    xfc_14 := ⟨xga14, xgg14, xex14, xhd14⟩
    exc_14 := ⟨xga14, xgg14, xex14, xhd14, xca14, xcn14, xct14, xcm14⟩
    em_14 := ⟨_, ⟨PySem.F.excBase_Exception, PySem.F.store_Exception, PySem.W.kxs_Exception, eq14, eo14, ei14, et14, ⟨_, _, _, _, _, _, _, _, _, _, el14, ec14, ⟨_, _, _, _, _, _, ed14, ev14, ew14⟩, _, _, _, ex14⟩, ⟨fun h => (by cases h), fun a h => (by cases h; rfl)⟩, iniG_ok (by decide +kernel), es14, z_super, etp, eop, eb14, em14, ea14, ek14, ey14, ⟨xga14, xgg14, xex14, xhd14⟩⟩, ⟨rfl, by decide, rfl, fun L cd cc => ⟨_, _, _, _, _, rfl, ⟨_, _, _, _, _, _, _, _, _, rfl, rfl, rfl, rfl, rfl⟩, rfl⟩⟩⟩
    ge_14 := PySem.W.mg_of X G aE14
    xf_15 := rfl
    nf2_15 := eN15
    nfe_15 := en15
    xfc_15 := ⟨xga15, xgg15, xex15, xhd15⟩
    exc_15 := ⟨xga15, xgg15, xex15, xhd15, xca15, xcn15, xct15, xcm15⟩
    em_15 := ⟨_, ⟨PySem.F.excBase_Exception, PySem.F.store_Exception, PySem.W.kxs_Exception, eq15, eo15, ei15, et15, ⟨_, _, _, _, _, _, _, _, _, _, el15, ec15, ⟨_, _, _, _, _, _, ed15, ev15, ew15⟩, _, _, _, ex15⟩, ⟨fun h => (by cases h), fun a h => (by cases h; rfl)⟩, iniG_ok (by decide +kernel), es15, z_super, etp, eop, eb15, em15, ea15, ek15, ey15, ⟨xga15, xgg15, xex15, xhd15⟩⟩, ⟨rfl, rfl, by decide, by decide, by decide, by decide, rfl, rfl, fun L cd cc => ⟨_, _, _, _, _, _, _, _, _, _, _, _, rfl, ⟨_, _, _, _, _, _, _, _, _, rfl, rfl, rfl, rfl, rfl⟩, rfl, rfl, rfl, rfl, rfl⟩⟩⟩
    ge_15 := PySem.W.mg_of X G aE15
    xf_16 := rfl
    nfe_16 := en16
    xfc_16 := ⟨xga16, xgg16, xex16, xhd16⟩
    exc_16 := ⟨xga16, xgg16, xex16, xhd16, xca16, xcn16, xct16, xcm16⟩
    em_16 := ⟨_, ⟨PySem.F.excBase_Exception, PySem.F.store_Exception, PySem.W.kxs_Exception, eq16, eo16, ei16, et16, ⟨_, _, _, _, _, _, _, _, _, _, el16, ec16, ⟨_, _, _, _, _, _, ed16, ev16, ew16⟩, _, _, _, ex16⟩, ⟨fun h => (by cases h), fun a h => (by cases h; rfl)⟩, iniG_ok (by decide +kernel), es16, z_super, etp, eop, eb16, em16, ea16, ek16, ey16, ⟨xga16, xgg16, xex16, xhd16⟩⟩, ⟨rfl, by decide, rfl, fun L cd cc => ⟨_, _, _, _, _, rfl, ⟨_, _, _, _, _, _, _, _, _, rfl, rfl, rfl, rfl, rfl⟩, rfl⟩⟩⟩
    ge_16 := PySem.W.mg_of X G aE16
    kx_1_0 := kx_1_0
    kx_1_1 := kit_same
    kx_1_10 := kx_1_10
    kx_1_11 := kx_1_11
    kx_1_12 := kx_1_12
    kx_1_13 := kx_1_13
    kx_1_14 := kx_1_14
    kx_1_15 := kx_1_15
    kx_1_16 := kx_1_16
    kx_1_2 := kx_1_2
    kx_1_3 := kx_1_3
    kx_1_4 := kx_1_4
    kx_1_5 := kx_1_5
    kx_1_6 := kx_1_6
    kx_1_7 := kx_1_7
    kx_1_8 := kx_1_8
    kx_1_9 := kx_1_9
    kx_1_LookupError := kx_1_LookupError
    kx_1_RuntimeError := kx_1_RuntimeError
    kx_1_ValueError := kx_1_ValueError
    kx_10_0 := kx_10_0
    kx_10_1 := kx_10_1
    kx_10_10 := kit_same
    kx_10_11 := kx_10_11
    kx_10_12 := kx_10_12
    kx_10_13 := kx_10_13
    kx_10_14 := kx_10_14
    kx_10_15 := kx_10_15
    kx_10_16 := kx_10_16
    kx_10_2 := kx_10_2
    kx_10_3 := kx_10_3
    kx_10_4 := kx_10_4
    kx_10_5 := kx_10_5
    kx_10_6 := kx_10_6
    kx_10_7 := kx_10_7
    kx_10_8 := kx_10_8
    kx_10_9 := kx_10_9
    kx_10_LookupError := kx_10_LookupError
    kx_10_RuntimeError := kx_10_RuntimeError
    kx_10_ValueError := kx_10_ValueError
    kx_11_0 := kx_11_0
    kx_11_1 := kx_11_1
    kx_11_10 := kx_11_10
    kx_11_11 := kit_same
    kx_11_12 := kx_11_12
    kx_11_13 := kx_11_13
    kx_11_14 := kx_11_14
    kx_11_15 := kx_11_15
    kx_11_16 := kx_11_16
    kx_11_2 := kx_11_2
    kx_11_3 := kx_11_3
    kx_11_4 := kx_11_4
    kx_11_5 := kx_11_5
    kx_11_6 := kx_11_6
    kx_11_7 := kx_11_7
    kx_11_8 := kx_11_8
    kx_11_9 := kx_11_9
    kx_11_LookupError := kx_11_LookupError
    kx_11_RuntimeError := kx_11_RuntimeError
    kx_11_ValueError := kx_11_ValueError
    kx_12_0 := kx_12_0
    kx_12_1 := kx_12_1
    kx_12_10 := kx_12_10
    kx_12_11 := kx_12_11
    kx_12_12 := kit_same
    kx_12_13 := kx_12_13
    kx_12_14 := kx_12_14
    kx_12_15 := kx_12_15
    kx_12_16 := kx_12_16
    kx_12_2 := kx_12_2
    kx_12_3 := kx_12_3
    kx_12_4 := kx_12_4
    kx_12_5 := kx_12_5
    kx_12_6 := kx_12_6
    kx_12_7 := kx_12_7
    kx_12_8 := kx_12_8
    kx_12_9 := kx_12_9
    kx_12_LookupError := kx_12_LookupError
    kx_12_RuntimeError := kx_12_RuntimeError
    kx_12_ValueError := kx_12_ValueError
    kx_13_0 := kx_13_0
    kx_13_1 := kx_13_1
    kx_13_10 := kx_13_10
    kx_13_11 := kx_13_11
    kx_13_12 := kx_13_12
    kx_13_13 := kit_same
    kx_13_14 := kx_13_14
    kx_13_15 := kx_13_15
    kx_13_16 := kx_13_16
    kx_13_2 := kx_13_2
    kx_13_3 := kx_13_3
    kx_13_4 := kx_13_4
    kx_13_5 := kx_13_5
    kx_13_6 := kx_13_6
    kx_13_7 := kx_13_7
    kx_13_8 := kx_13_8
    kx_13_9 := kx_13_9
    kx_13_LookupError := kx_13_LookupError
    kx_13_RuntimeError := kx_13_RuntimeError
    kx_13_ValueError := kx_13_ValueError
    kx_14_0 := kx_14_0
    kx_14_1 := kx_14_1
    kx_14_10 := kx_14_10
    kx_14_11 := kx_14_11
    kx_14_12 := kx_14_12
    kx_14_13 := kx_14_13
    kx_14_14 := kit_same
    kx_14_15 := kx_14_15
    kx_14_16 := kx_14_16
    kx_14_2 := kx_14_2
    kx_14_3 := kx_14_3
    kx_14_4 := kx_14_4
    kx_14_5 := kx_14_5
    kx_14_6 := kx_14_6
    kx_14_7 := kx_14_7
    kx_14_8 := kx_14_8
    kx_14_9 := kx_14_9
    kx_14_LookupError := kx_14_LookupError
    kx_14_RuntimeError := kx_14_RuntimeError
    kx_14_ValueError := kx_14_ValueError
    kx_15_0 := kx_15_0
    kx_15_1 := kx_15_1
    kx_15_10 := kx_15_10
    kx_15_11 := kx_15_11
    kx_15_12 := kx_15_12
    kx_15_13 := kx_15_13
    kx_15_14 := kx_15_14
    kx_15_15 := kit_same
    kx_15_16 := kx_15_16
    kx_15_2 := kx_15_2
    kx_15_3 := kx_15_3
    kx_15_4 := kx_15_4
    kx_15_5 := kx_15_5
    kx_15_6 := kx_15_6
    kx_15_7 := kx_15_7
    kx_15_8 := kx_15_8
    kx_15_9 := kx_15_9
    kx_15_LookupError := kx_15_LookupError
    kx_15_RuntimeError := kx_15_RuntimeError
    kx_15_ValueError := kx_15_ValueError
    kx_16_0 := kx_16_0
    kx_16_1 := kx_16_1
    kx_16_10 := kx_16_10
    kx_16_11 := kx_16_11
    kx_16_12 := kx_16_12
    kx_16_13 := kx_16_13
    kx_16_14 := kx_16_14
    kx_16_15 := kx_16_15
    kx_16_16 := kit_same
    kx_16_2 := kx_16_2
    kx_16_3 := kx_16_3
    kx_16_4 := kx_16_4
    kx_16_5 := kx_16_5
    kx_16_6 := kx_16_6
    kx_16_7 := kx_16_7
    kx_16_8 := kx_16_8
    kx_16_9 := kx_16_9
    kx_16_LookupError := kx_16_LookupError
    kx_16_RuntimeError := kx_16_RuntimeError
    kx_16_ValueError := kx_16_ValueError
    kx_2_0 := kx_2_0
    kx_2_1 := kx_2_1
    kx_2_10 := kx_2_10
    kx_2_11 := kx_2_11
    kx_2_12 := kx_2_12
    kx_2_13 := kx_2_13
    kx_2_14 := kx_2_14
    kx_2_15 := kx_2_15
    kx_2_16 := kx_2_16
    kx_2_2 := kit_same
    kx_2_3 := kx_2_3
    kx_2_4 := kx_2_4
    kx_2_5 := kx_2_5
    kx_2_6 := kx_2_6
    kx_2_7 := kx_2_7
    kx_2_8 := kx_2_8
    kx_2_9 := kx_2_9
    kx_2_LookupError := kx_2_LookupError
    kx_2_RuntimeError := kx_2_RuntimeError
    kx_2_ValueError := kx_2_ValueError
    kx_3_0 := kx_3_0
    kx_3_1 := kx_3_1
    kx_3_10 := kx_3_10
    kx_3_11 := kx_3_11
    kx_3_12 := kx_3_12
    kx_3_13 := kx_3_13
    kx_3_14 := kx_3_14
    kx_3_15 := kx_3_15
    kx_3_16 := kx_3_16
    kx_3_2 := kx_3_2
    kx_3_3 := kit_same
    kx_3_4 := kx_3_4
    kx_3_5 := kx_3_5
    kx_3_6 := kx_3_6
    kx_3_7 := kx_3_7
    kx_3_8 := kx_3_8
    kx_3_9 := kx_3_9
    kx_3_LookupError := kx_3_LookupError
    kx_3_RuntimeError := kx_3_RuntimeError
    kx_3_ValueError := kx_3_ValueError
    kx_4_0 := kx_4_0
    kx_4_1 := kx_4_1
    kx_4_10 := kx_4_10
    kx_4_11 := kx_4_11
    kx_4_12 := kx_4_12
    kx_4_13 := kx_4_13
    kx_4_14 := kx_4_14
    kx_4_15 := kx_4_15
    kx_4_16 := kx_4_16
    kx_4_2 := kx_4_2
    kx_4_3 := kx_4_3
    kx_4_4 := kit_same
    kx_4_5 := kx_4_5
    kx_4_6 := kx_4_6
    kx_4_7 := kx_4_7
    kx_4_8 := kx_4_8
    kx_4_9 := kx_4_9
    kx_4_LookupError := kx_4_LookupError
    kx_4_RuntimeError := kx_4_RuntimeError
    kx_4_ValueError := kx_4_ValueError
    kx_5_0 := kx_5_0
    kx_5_1 := kx_5_1
    kx_5_10 := kx_5_10
    kx_5_11 := kx_5_11
    kx_5_12 := kx_5_12
    kx_5_13 := kx_5_13
    kx_5_14 := kx_5_14
    kx_5_15 := kx_5_15
    kx_5_16 := kx_5_16
    kx_5_2 := kx_5_2
    kx_5_3 := kx_5_3
    kx_5_4 := kx_5_4
    kx_5_5 := kit_same
    kx_5_6 := kx_5_6
    kx_5_7 := kx_5_7
    kx_5_8 := kx_5_8
    kx_5_9 := kx_5_9
    kx_5_LookupError := kx_5_LookupError
    kx_5_RuntimeError := kx_5_RuntimeError
    kx_5_ValueError := kx_5_ValueError
    kx_6_0 := kx_6_0
    kx_6_1 := kx_6_1
    kx_6_10 := kx_6_10
    kx_6_11 := kx_6_11
    kx_6_12 := kx_6_12
    kx_6_13 := kx_6_13
    kx_6_14 := kx_6_14
    kx_6_15 := kx_6_15
    kx_6_16 := kx_6_16
    kx_6_2 := kx_6_2
    kx_6_3 := kx_6_3
    kx_6_4 := kx_6_4
    kx_6_5 := kx_6_5
    kx_6_6 := kit_same
    kx_6_7 := kx_6_7
    kx_6_8 := kx_6_8
    kx_6_9 := kx_6_9
    kx_6_LookupError := kx_6_LookupError
    kx_6_RuntimeError := kx_6_RuntimeError
    kx_6_ValueError := kx_6_ValueError
    kx_7_0 := kx_7_0
    kx_7_1 := kx_7_1
    kx_7_10 := kx_7_10
    kx_7_11 := kx_7_11
    kx_7_12 := kx_7_12
    kx_7_13 := kx_7_13
    kx_7_14 := kx_7_14
    kx_7_15 := kx_7_15
    kx_7_16 := kx_7_16
    kx_7_2 := kx_7_2
    kx_7_3 := kx_7_3
    kx_7_4 := kx_7_4
    kx_7_5 := kx_7_5
    kx_7_6 := kx_7_6
    kx_7_7 := kit_same
    kx_7_8 := kx_7_8
    kx_7_9 := kx_7_9
    kx_7_LookupError := kx_7_LookupError
    kx_7_RuntimeError := kx_7_RuntimeError
    kx_7_ValueError := kx_7_ValueError
    kx_8_0 := kx_8_0
    kx_8_1 := kx_8_1
    kx_8_10 := kx_8_10
    kx_8_11 := kx_8_11
    kx_8_12 := kx_8_12
    kx_8_13 := kx_8_13
    kx_8_14 := kx_8_14
    kx_8_15 := kx_8_15
    kx_8_16 := kx_8_16
    kx_8_2 := kx_8_2
    kx_8_3 := kx_8_3
    kx_8_4 := kx_8_4
    kx_8_5 := kx_8_5
    kx_8_6 := kx_8_6
    kx_8_7 := kx_8_7
    kx_8_8 := kit_same
    kx_8_9 := kx_8_9
    kx_8_LookupError := kx_8_LookupError
    kx_8_RuntimeError := kx_8_RuntimeError
    kx_8_ValueError := kx_8_ValueError
    kx_9_0 := kx_9_0
    kx_9_1 := kx_9_1
    kx_9_10 := kx_9_10
    kx_9_11 := kx_9_11
    kx_9_12 := kx_9_12
    kx_9_13 := kx_9_13
    kx_9_14 := kx_9_14
    kx_9_15 := kx_9_15
    kx_9_16 := kx_9_16
    kx_9_2 := kx_9_2
    kx_9_3 := kx_9_3
    kx_9_4 := kx_9_4
    kx_9_5 := kx_9_5
    kx_9_6 := kx_9_6
    kx_9_7 := kx_9_7
    kx_9_8 := kx_9_8
    kx_9_9 := kit_same
    kx_9_LookupError := kx_9_LookupError
    kx_9_RuntimeError := kx_9_RuntimeError
    kx_9_ValueError := kx_9_ValueError
    z_LookupError := PySem.W.mg_none_of X G z_LookupError
    z_RuntimeError := PySem.W.mg_none_of X G z_RuntimeError
    z_ValueError := PySem.W.mg_none_of X G z_ValueError
    z_int := PySem.W.mg_none_of X G z_int
    z_isinstance := PySem.W.mg_none_of X G z_isinstance
    z_len := PySem.W.mg_none_of X G z_len
    z_max := PySem.W.mg_none_of X G z_max
    z_min := PySem.W.mg_none_of X G z_min
    z_range := PySem.W.mg_none_of X G z_range
    z_repr := PySem.W.mg_none_of X G z_repr }
    refine ⟨[], fun p hp => ?_, fun base _ _ sy tbs => FnG.imp (ok_law T ⟨sy, fun i hi => ?_⟩) (law_imp (k := kOf [C0, C1, C2, C3, C4, C5, C6, C7, C8, C9, C10, C11, C12, C13, C14, C15, C16] []) law_true)⟩
    · exact nomatch hp
    · exact nomatch hi
end LW

open PySem PySem.W PyProof.Rows in
set_option maxRecDepth 100000 in
set_option maxHeartbeats 0 in
theorem PySem.Challenge.cw_leastreads_k41_classes_of_errors_holds : PySem.Challenge.rw_leastreads_k41_classes_of_errors.Holds := by
  w_on; o_law; k_head; (case hw => w_witness2)
  k_fill
  refine DL.law_walkG (l := PySem.Challenge.rw_leastreads_k41_classes_of_errors) (lvl := 3) rfl (by decide +kernel) rfl ⟨rfl, by decide, by decide⟩ (fun w h Y => PySem.W.kIn_of Y) [] (by decide +kernel) (fun w => by kernel_rfl) ?F
  case F =>
    intro w mg fa h KX G hmg
    refine' LW.all_mk (l := PySem.Challenge.rw_leastreads_k41_classes_of_errors) KX G hmg ?a0 ?l0 ?c0 ?k0 ?a1 ?l1 ?c1 ?k1 ?a2 ?l2 ?c2 ?k2 ?a3 ?l3 ?c3 ?k3 ?a4 ?l4 ?c4 ?k4 ?a5 ?l5 ?c5 ?k5 ?a6 ?l6 ?c6 ?k6 ?a7 ?l7 ?c7 ?k7 ?z_super ?etp ?eop ?aE0 ?aE1 ?eq1 ?eo1 ?ei1 ?et1 ?el1 ?ec1 ?ed1 ?ev1 ?ew1 ?ex1 ?es1 ?eb1 ?em1 ?ea1 ?en1 ?ek1 ?ey1 ?xga1 ?xgg1 ?xex1 ?xhd1 ?xca1 ?xcn1 ?xct1 ?xcm1 ?aE2 ?eq2 ?eo2 ?ei2 ?et2 ?el2 ?ec2 ?ed2 ?ev2 ?ew2 ?ex2 ?es2 ?eb2 ?em2 ?ea2 ?en2 ?ek2 ?ey2 ?xga2 ?xgg2 ?xex2 ?xhd2 ?xca2 ?xcn2 ?xct2 ?xcm2 ?aE3 ?eq3 ?eo3 ?ei3 ?et3 ?el3 ?ec3 ?ed3 ?ev3 ?ew3 ?ex3 ?es3 ?eb3 ?em3 ?ea3 ?en3 ?ek3 ?ey3 ?xga3 ?xgg3 ?xex3 ?xhd3 ?xca3 ?xcn3 ?xct3 ?xcm3 ?aE4 ?eq4 ?eo4 ?ei4 ?et4 ?el4 ?ec4 ?ed4 ?ev4 ?ew4 ?ex4 ?es4 ?eb4 ?em4 ?ea4 ?en4 ?ek4 ?ey4 ?xga4 ?xgg4 ?xex4 ?xhd4 ?xca4 ?xcn4 ?xct4 ?xcm4 ?aE5 ?eq5 ?eo5 ?ei5 ?et5 ?el5 ?ec5 ?ed5 ?ev5 ?ew5 ?ex5 ?es5 ?eb5 ?em5 ?ea5 ?en5 ?ek5 ?ey5 ?xga5 ?xgg5 ?xex5 ?xhd5 ?xca5 ?xcn5 ?xct5 ?xcm5 ?aE6 ?eq6 ?eo6 ?ei6 ?et6 ?el6 ?ec6 ?ed6 ?ev6 ?ew6 ?ex6 ?es6 ?eb6 ?em6 ?ea6 ?en6 ?ek6 ?ey6 ?xga6 ?xgg6 ?xex6 ?xhd6 ?xca6 ?xcn6 ?xct6 ?xcm6 ?aE7 ?eq7 ?eo7 ?ei7 ?et7 ?el7 ?ec7 ?ed7 ?ev7 ?ew7 ?ex7 ?es7 ?eb7 ?em7 ?ea7 ?en7 ?ek7 ?ey7 ?xga7 ?xgg7 ?xex7 ?xhd7 ?xca7 ?xcn7 ?xct7 ?xcm7 ?aE8 ?eq8 ?eo8 ?ei8 ?et8 ?el8 ?ec8 ?ed8 ?ev8 ?ew8 ?ex8 ?es8 ?eb8 ?em8 ?ea8 ?en8 ?ek8 ?ey8 ?xga8 ?xgg8 ?xex8 ?xhd8 ?xca8 ?xcn8 ?xct8 ?xcm8 ?aE9 ?eq9 ?eo9 ?ei9 ?et9 ?el9 ?ec9 ?ed9 ?ev9 ?ew9 ?ex9 ?es9 ?eb9 ?em9 ?ea9 ?en9 ?ek9 ?ey9 ?xga9 ?xgg9 ?xex9 ?xhd9 ?xca9 ?xcn9 ?xct9 ?xcm9 ?aE10 ?eq10 ?eo10 ?ei10 ?et10 ?el10 ?ec10 ?ed10 ?ev10 ?ew10 ?ex10 ?es10 ?eb10 ?em10 ?ea10 ?en10 ?ek10 ?ey10 ?xga10 ?xgg10 ?xex10 ?xhd10 ?xca10 ?xcn10 ?xct10 ?xcm10 ?aE11 ?eq11 ?eo11 ?ei11 ?et11 ?el11 ?ec11 ?ed11 ?ev11 ?ew11 ?ex11 ?es11 ?eb11 ?em11 ?ea11 ?en11 ?ek11 ?ey11 ?xga11 ?xgg11 ?xex11 ?xhd11 ?xca11 ?xcn11 ?xct11 ?xcm11 ?aE12 ?eq12 ?eo12 ?ei12 ?et12 ?el12 ?ec12 ?ed12 ?ev12 ?ew12 ?ex12 ?es12 ?eb12 ?em12 ?ea12 ?en12 ?ek12 ?ey12 ?xga12 ?xgg12 ?xex12 ?xhd12 ?xca12 ?xcn12 ?xct12 ?xcm12 ?aE13 ?eq13 ?eo13 ?ei13 ?et13 ?el13 ?ec13 ?ed13 ?ev13 ?ew13 ?ex13 ?es13 ?eb13 ?em13 ?ea13 ?en13 ?ek13 ?ey13 ?xga13 ?xgg13 ?xex13 ?xhd13 ?xca13 ?xcn13 ?xct13 ?xcm13 ?aE14 ?eq14 ?eo14 ?ei14 ?et14 ?el14 ?ec14 ?ed14 ?ev14 ?ew14 ?ex14 ?es14 ?eb14 ?em14 ?ea14 ?en14 ?ek14 ?ey14 ?xga14 ?xgg14 ?xex14 ?xhd14 ?xca14 ?xcn14 ?xct14 ?xcm14 ?aE15 ?eq15 ?eo15 ?ei15 ?et15 ?el15 ?ec15 ?ed15 ?ev15 ?ew15 ?ex15 ?es15 ?eb15 ?em15 ?ea15 ?eN15 ?en15 ?ek15 ?ey15 ?xga15 ?xgg15 ?xex15 ?xhd15 ?xca15 ?xcn15 ?xct15 ?xcm15 ?aE16 ?eq16 ?eo16 ?ei16 ?et16 ?el16 ?ec16 ?ed16 ?ev16 ?ew16 ?ex16 ?es16 ?eb16 ?em16 ?ea16 ?en16 ?ek16 ?ey16 ?xga16 ?xgg16 ?xex16 ?xhd16 ?xca16 ?xcn16 ?xct16 ?xcm16 ?kx_1_0 ?kx_1_10 ?kx_1_11 ?kx_1_12 ?kx_1_13 ?kx_1_14 ?kx_1_15 ?kx_1_16 ?kx_1_2 ?kx_1_3 ?kx_1_4 ?kx_1_5 ?kx_1_6 ?kx_1_7 ?kx_1_8 ?kx_1_9 ?kx_1_LookupError ?kx_1_RuntimeError ?kx_1_ValueError ?kx_10_0 ?kx_10_1 ?kx_10_11 ?kx_10_12 ?kx_10_13 ?kx_10_14 ?kx_10_15 ?kx_10_16 ?kx_10_2 ?kx_10_3 ?kx_10_4 ?kx_10_5 ?kx_10_6 ?kx_10_7 ?kx_10_8 ?kx_10_9 ?kx_10_LookupError ?kx_10_RuntimeError ?kx_10_ValueError ?kx_11_0 ?kx_11_1 ?kx_11_10 ?kx_11_12 ?kx_11_13 ?kx_11_14 ?kx_11_15 ?kx_11_16 ?kx_11_2 ?kx_11_3 ?kx_11_4 ?kx_11_5 ?kx_11_6 ?kx_11_7 ?kx_11_8 ?kx_11_9 ?kx_11_LookupError ?kx_11_RuntimeError ?kx_11_ValueError ?kx_12_0 ?kx_12_1 ?kx_12_10 ?kx_12_11 ?kx_12_13 ?kx_12_14 ?kx_12_15 ?kx_12_16 ?kx_12_2 ?kx_12_3 ?kx_12_4 ?kx_12_5 ?kx_12_6 ?kx_12_7 ?kx_12_8 ?kx_12_9 ?kx_12_LookupError ?kx_12_RuntimeError ?kx_12_ValueError ?kx_13_0 ?kx_13_1 ?kx_13_10 ?kx_13_11 ?kx_13_12 ?kx_13_14 ?kx_13_15 ?kx_13_16 ?kx_13_2 ?kx_13_3 ?kx_13_4 ?kx_13_5 ?kx_13_6 ?kx_13_7 ?kx_13_8 ?kx_13_9 ?kx_13_LookupError ?kx_13_RuntimeError ?kx_13_ValueError ?kx_14_0 ?kx_14_1 ?kx_14_10 ?kx_14_11 ?kx_14_12 ?kx_14_13 ?kx_14_15 ?kx_14_16 ?kx_14_2 ?kx_14_3 ?kx_14_4 ?kx_14_5 ?kx_14_6 ?kx_14_7 ?kx_14_8 ?kx_14_9 ?kx_14_LookupError ?kx_14_RuntimeError ?kx_14_ValueError ?kx_15_0 ?kx_15_1 ?kx_15_10 ?kx_15_11 ?kx_15_12 ?kx_15_13 ?kx_15_14 ?kx_15_16 ?kx_15_2 ?kx_15_3 ?kx_15_4 ?kx_15_5 ?kx_15_6 ?kx_15_7 ?kx_15_8 ?kx_15_9 ?kx_15_LookupError ?kx_15_RuntimeError ?kx_15_ValueError ?kx_16_0 ?kx_16_1 ?kx_16_10 ?kx_16_11 ?kx_16_12 ?kx_16_13 ?kx_16_14 ?kx_16_15 ?kx_16_2 ?kx_16_3 ?kx_16_4 ?kx_16_5 ?kx_16_6 ?kx_16_7 ?kx_16_8 ?kx_16_9 ?kx_16_LookupError ?kx_16_RuntimeError ?kx_16_ValueError ?kx_2_0 ?kx_2_1 ?kx_2_10 ?kx_2_11 ?kx_2_12 ?kx_2_13 ?kx_2_14 ?kx_2_15 ?kx_2_16 ?kx_2_3 ?kx_2_4 ?kx_2_5 ?kx_2_6 ?kx_2_7 ?kx_2_8 ?kx_2_9 ?kx_2_LookupError ?kx_2_RuntimeError ?kx_2_ValueError ?kx_3_0 ?kx_3_1 ?kx_3_10 ?kx_3_11 ?kx_3_12 ?kx_3_13 ?kx_3_14 ?kx_3_15 ?kx_3_16 ?kx_3_2 ?kx_3_4 ?kx_3_5 ?kx_3_6 ?kx_3_7 ?kx_3_8 ?kx_3_9 ?kx_3_LookupError ?kx_3_RuntimeError ?kx_3_ValueError ?kx_4_0 ?kx_4_1 ?kx_4_10 ?kx_4_11 ?kx_4_12 ?kx_4_13 ?kx_4_14 ?kx_4_15 ?kx_4_16 ?kx_4_2 ?kx_4_3 ?kx_4_5 ?kx_4_6 ?kx_4_7 ?kx_4_8 ?kx_4_9 ?kx_4_LookupError ?kx_4_RuntimeError ?kx_4_ValueError ?kx_5_0 ?kx_5_1 ?kx_5_10 ?kx_5_11 ?kx_5_12 ?kx_5_13 ?kx_5_14 ?kx_5_15 ?kx_5_16 ?kx_5_2 ?kx_5_3 ?kx_5_4 ?kx_5_6 ?kx_5_7 ?kx_5_8 ?kx_5_9 ?kx_5_LookupError ?kx_5_RuntimeError ?kx_5_ValueError ?kx_6_0 ?kx_6_1 ?kx_6_10 ?kx_6_11 ?kx_6_12 ?kx_6_13 ?kx_6_14 ?kx_6_15 ?kx_6_16 ?kx_6_2 ?kx_6_3 ?kx_6_4 ?kx_6_5 ?kx_6_7 ?kx_6_8 ?kx_6_9 ?kx_6_LookupError ?kx_6_RuntimeError ?kx_6_ValueError ?kx_7_0 ?kx_7_1 ?kx_7_10 ?kx_7_11 ?kx_7_12 ?kx_7_13 ?kx_7_14 ?kx_7_15 ?kx_7_16 ?kx_7_2 ?kx_7_3 ?kx_7_4 ?kx_7_5 ?kx_7_6 ?kx_7_8 ?kx_7_9 ?kx_7_LookupError ?kx_7_RuntimeError ?kx_7_ValueError ?kx_8_0 ?kx_8_1 ?kx_8_10 ?kx_8_11 ?kx_8_12 ?kx_8_13 ?kx_8_14 ?kx_8_15 ?kx_8_16 ?kx_8_2 ?kx_8_3 ?kx_8_4 ?kx_8_5 ?kx_8_6 ?kx_8_7 ?kx_8_9 ?kx_8_LookupError ?kx_8_RuntimeError ?kx_8_ValueError ?kx_9_0 ?kx_9_1 ?kx_9_10 ?kx_9_11 ?kx_9_12 ?kx_9_13 ?kx_9_14 ?kx_9_15 ?kx_9_16 ?kx_9_2 ?kx_9_3 ?kx_9_4 ?kx_9_5 ?kx_9_6 ?kx_9_7 ?kx_9_8 ?kx_9_LookupError ?kx_9_RuntimeError ?kx_9_ValueError ?z_LookupError ?z_RuntimeError ?z_ValueError ?z_int ?z_isinstance ?z_len ?z_max ?z_min ?z_range ?z_repr
    (case a0 => k_is)
    (case l0 => k_is)
    (case c0 => k_is)
    (case k0 => k_is)
    (case a1 => k_is)
    (case l1 => k_is)
    (case c1 => k_is)
    (case k1 => k_is)
    (case a2 => k_is)
    (case l2 => k_is)
    (case c2 => k_is)
    (case k2 => k_is)
    (case a3 => k_is)
    (case l3 => k_is)
    (case c3 => k_is)
    (case k3 => k_is)
    (case a4 => k_is)
    (case l4 => k_is)
    (case c4 => k_is)
    (case k4 => k_is)
    (case a5 => k_is)
    (case l5 => k_is)
    (case c5 => k_is)
    (case k5 => k_is)
    (case a6 => k_is)
    (case l6 => k_is)
    (case c6 => k_is)
    (case k6 => k_is)
    (case a7 => k_is)
    (case l7 => k_is)
    (case c7 => k_is)
    (case k7 => k_is)
    (case z_super => k_is)
    (case etp => decide +kernel)
    (case eop => k_is)
    (case aE0 => k_is)
    (case aE1 => k_is)
    (case eq1 => first | k_is | kernel_rfl)
    (case eo1 => first | k_is | kernel_rfl)
    (case ei1 => k_is)
    (case et1 => k_is)
    (case el1 => k_is)
    (case ec1 => k_is)
    (case ed1 => k_is)
    (case ev1 => rfl)
    (case ew1 => decide +kernel)
    (case ex1 => k_is)
    (case es1 => first | k_is | kernel_rfl)
    (case eb1 => k_is)
    (case em1 => k_is)
    (case ea1 => k_is)
    (case en1 => k_is)
    (case ek1 => k_is)
    (case ey1 => k_is)
    (case xga1 => k_is)
    (case xgg1 => k_is)
    (case xex1 => k_is)
    (case xhd1 => k_is)
    (case xca1 => k_is)
    (case xcn1 => k_is)
    (case xct1 => k_is)
    (case xcm1 => k_is)
    (case aE2 => k_is)
    (case eq2 => first | k_is | kernel_rfl)
    (case eo2 => first | k_is | kernel_rfl)
    (case ei2 => k_is)
    (case et2 => k_is)
    (case el2 => k_is)
    (case ec2 => k_is)
    (case ed2 => k_is)
    (case ev2 => rfl)
    (case ew2 => decide +kernel)
    (case ex2 => k_is)
    (case es2 => first | k_is | kernel_rfl)
    (case eb2 => k_is)
    (case em2 => k_is)
    (case ea2 => k_is)
    (case en2 => k_is)
    (case ek2 => k_is)
    (case ey2 => k_is)
    (case xga2 => k_is)
    (case xgg2 => k_is)
    (case xex2 => k_is)
    (case xhd2 => k_is)
    (case xca2 => k_is)
    (case xcn2 => k_is)
    (case xct2 => k_is)
    (case xcm2 => k_is)
    (case aE3 => k_is)
    (case eq3 => first | k_is | kernel_rfl)
    (case eo3 => first | k_is | kernel_rfl)
    (case ei3 => k_is)
    (case et3 => k_is)
    (case el3 => k_is)
    (case ec3 => k_is)
    (case ed3 => k_is)
    (case ev3 => rfl)
    (case ew3 => decide +kernel)
    (case ex3 => k_is)
    (case es3 => first | k_is | kernel_rfl)
    (case eb3 => k_is)
    (case em3 => k_is)
    (case ea3 => k_is)
    (case en3 => k_is)
    (case ek3 => k_is)
    (case ey3 => k_is)
    (case xga3 => k_is)
    (case xgg3 => k_is)
    (case xex3 => k_is)
    (case xhd3 => k_is)
    (case xca3 => k_is)
    (case xcn3 => k_is)
    (case xct3 => k_is)
    (case xcm3 => k_is)
    (case aE4 => k_is)
    (case eq4 => first | k_is | kernel_rfl)
    (case eo4 => first | k_is | kernel_rfl)
    (case ei4 => k_is)
    (case et4 => k_is)
    (case el4 => k_is)
    (case ec4 => k_is)
    (case ed4 => k_is)
    (case ev4 => rfl)
    (case ew4 => decide +kernel)
    (case ex4 => k_is)
    (case es4 => first | k_is | kernel_rfl)
    (case eb4 => k_is)
    (case em4 => k_is)
    (case ea4 => k_is)
    (case en4 => k_is)
    (case ek4 => k_is)
    (case ey4 => k_is)
    (case xga4 => k_is)
    (case xgg4 => k_is)
    (case xex4 => k_is)
    (case xhd4 => k_is)
    (case xca4 => k_is)
    (case xcn4 => k_is)
    (case xct4 => k_is)
    (case xcm4 => k_is)
    (case aE5 => k_is)
    (case eq5 => first | k_is | kernel_rfl)
    (case eo5 => first | k_is | kernel_rfl)
    (case ei5 => k_is)
    (case et5 => k_is)
    (case el5 => k_is)
    (case ec5 => k_is)
    (case ed5 => k_is)
    (case ev5 => rfl)
    (case ew5 => decide +kernel)
    (case ex5 => k_is)
    (case es5 => first | k_is | kernel_rfl)
    (case eb5 => k_is)
    (case em5 => k_is)
    (case ea5 => k_is)
    (case en5 => k_is)
    (case ek5 => k_is)
    (case ey5 => k_is)
    (case xga5 => k_is)
    (case xgg5 => k_is)
    (case xex5 => k_is)
    (case xhd5 => k_is)
    (case xca5 => k_is)
    (case xcn5 => k_is)
    (case xct5 => k_is)
    (case xcm5 => k_is)
    (case aE6 => k_is)
    (case eq6 => first | k_is | kernel_rfl)
    (case eo6 => first | k_is | kernel_rfl)
    (case ei6 => k_is)
    (case et6 => k_is)
    (case el6 => k_is)
    (case ec6 => k_is)
    (case ed6 => k_is)
    (case ev6 => rfl)
    (case ew6 => decide +kernel)
    (case ex6 => k_is)
    (case es6 => first | k_is | kernel_rfl)
    (case eb6 => k_is)
    (case em6 => k_is)
    (case ea6 => k_is)
    (case en6 => k_is)
    (case ek6 => k_is)
    (case ey6 => k_is)
    (case xga6 => k_is)
    (case xgg6 => k_is)
    (case xex6 => k_is)
    (case xhd6 => k_is)
    (case xca6 => k_is)
    (case xcn6 => k_is)
    (case xct6 => k_is)
    (case xcm6 => k_is)
    (case aE7 => k_is)
    (case eq7 => first | k_is | kernel_rfl)
    (case eo7 => first | k_is | kernel_rfl)
    (case ei7 => k_is)
    (case et7 => k_is)
    (case el7 => k_is)
    (case ec7 => k_is)
    (case ed7 => k_is)
    (case ev7 => rfl)
    (case ew7 => decide +kernel)
    (case ex7 => k_is)
    (case es7 => first | k_is | kernel_rfl)
    (case eb7 => k_is)
    (case em7 => k_is)
    (case ea7 => k_is)
    (case en7 => k_is)
    (case ek7 => k_is)
    (case ey7 => k_is)
    (case xga7 => k_is)
    (case xgg7 => k_is)
    (case xex7 => k_is)
    (case xhd7 => k_is)
    (case xca7 => k_is)
    (case xcn7 => k_is)
    (case xct7 => k_is)
    (case xcm7 => k_is)
    (case aE8 => k_is)
    (case eq8 => first | k_is | kernel_rfl)
    (case eo8 => first | k_is | kernel_rfl)
    (case ei8 => k_is)
    (case et8 => k_is)
    (case el8 => k_is)
    (case ec8 => k_is)
    (case ed8 => k_is)
    (case ev8 => rfl)
    (case ew8 => decide +kernel)
    (case ex8 => k_is)
    (case es8 => first | k_is | kernel_rfl)
    (case eb8 => k_is)
    (case em8 => k_is)
    (case ea8 => k_is)
    (case en8 => k_is)
    (case ek8 => k_is)
    (case ey8 => k_is)
    (case xga8 => k_is)
    (case xgg8 => k_is)
    (case xex8 => k_is)
    (case xhd8 => k_is)
    (case xca8 => k_is)
    (case xcn8 => k_is)
    (case xct8 => k_is)
    (case xcm8 => k_is)
    (case aE9 => k_is)
    (case eq9 => first | k_is | kernel_rfl)
    (case eo9 => first | k_is | kernel_rfl)
    (case ei9 => k_is)
    (case et9 => k_is)
    (case el9 => k_is)
    (case ec9 => k_is)
    (case ed9 => k_is)
    (case ev9 => rfl)
    (case ew9 => decide +kernel)
    (case ex9 => k_is)
    (case es9 => first | k_is | kernel_rfl)
    (case eb9 => k_is)
    (case em9 => k_is)
    (case ea9 => k_is)
    (case en9 => k_is)
    (case ek9 => k_is)
    (case ey9 => k_is)
    (case xga9 => k_is)
    (case xgg9 => k_is)
    (case xex9 => k_is)
    (case xhd9 => k_is)
    (case xca9 => k_is)
    (case xcn9 => k_is)
    (case xct9 => k_is)
    (case xcm9 => k_is)
    (case aE10 => k_is)
    (case eq10 => first | k_is | kernel_rfl)
    (case eo10 => first | k_is | kernel_rfl)
    (case ei10 => k_is)
    (case et10 => k_is)
    (case el10 => k_is)
    (case ec10 => k_is)
    (case ed10 => k_is)
    (case ev10 => rfl)
    (case ew10 => decide +kernel)
    (case ex10 => k_is)
    (case es10 => first | k_is | kernel_rfl)
    (case eb10 => k_is)
    (case em10 => k_is)
    (case ea10 => k_is)
    (case en10 => k_is)
    (case ek10 => k_is)
    (case ey10 => k_is)
    (case xga10 => k_is)
    (case xgg10 => k_is)
    (case xex10 => k_is)
    (case xhd10 => k_is)
    (case xca10 => k_is)
    (case xcn10 => k_is)
    (case xct10 => k_is)
    (case xcm10 => k_is)
    (case aE11 => k_is)
    (case eq11 => first | k_is | kernel_rfl)
    (case eo11 => first | k_is | kernel_rfl)
    (case ei11 => k_is)
    (case et11 => k_is)
    (case el11 => k_is)
    (case ec11 => k_is)
    (case ed11 => k_is)
    (case ev11 => rfl)
    (case ew11 => decide +kernel)
    (case ex11 => k_is)
    (case es11 => first | k_is | kernel_rfl)
    (case eb11 => k_is)
    (case em11 => k_is)
    (case ea11 => k_is)
    (case en11 => k_is)
    (case ek11 => k_is)
    (case ey11 => k_is)
    (case xga11 => k_is)
    (case xgg11 => k_is)
    (case xex11 => k_is)
    (case xhd11 => k_is)
    (case xca11 => k_is)
    (case xcn11 => k_is)
    (case xct11 => k_is)
    (case xcm11 => k_is)
    (case aE12 => k_is)
    (case eq12 => first | k_is | kernel_rfl)
    (case eo12 => first | k_is | kernel_rfl)
    (case ei12 => k_is)
    (case et12 => k_is)
    (case el12 => k_is)
    (case ec12 => k_is)
    (case ed12 => k_is)
    (case ev12 => rfl)
    (case ew12 => decide +kernel)
    (case ex12 => k_is)
    (case es12 => first | k_is | kernel_rfl)
    (case eb12 => k_is)
    (case em12 => k_is)
    (case ea12 => k_is)
    (case en12 => k_is)
    (case ek12 => k_is)
    (case ey12 => k_is)
    (case xga12 => k_is)
    (case xgg12 => k_is)
    (case xex12 => k_is)
    (case xhd12 => k_is)
    (case xca12 => k_is)
    (case xcn12 => k_is)
    (case xct12 => k_is)
    (case xcm12 => k_is)
    (case aE13 => k_is)
    (case eq13 => first | k_is | kernel_rfl)
    (case eo13 => first | k_is | kernel_rfl)
    (case ei13 => k_is)
    (case et13 => k_is)
    (case el13 => k_is)
    (case ec13 => k_is)
    (case ed13 => k_is)
    (case ev13 => rfl)
    (case ew13 => decide +kernel)
    (case ex13 => k_is)
    (case es13 => first | k_is | kernel_rfl)
    (case eb13 => k_is)
    (case em13 => k_is)
    (case ea13 => k_is)
    (case en13 => k_is)
    (case ek13 => k_is)
    (case ey13 => k_is)
    (case xga13 => k_is)
    (case xgg13 => k_is)
    (case xex13 => k_is)
    (case xhd13 => k_is)
    (case xca13 => k_is)
    (case xcn13 => k_is)
    (case xct13 => k_is)
    (case xcm13 => k_is)
    (case aE14 => k_is)
    (case eq14 => first | k_is | kernel_rfl)
    (case eo14 => first | k_is | kernel_rfl)
    (case ei14 => k_is)
    (case et14 => k_is)
    (case el14 => k_is)
    (case ec14 => k_is)
    (case ed14 => k_is)
    (case ev14 => rfl)
    (case ew14 => decide +kernel)
    (case ex14 => k_is)
    (case es14 => first | k_is | kernel_rfl)
    (case eb14 => k_is)
    (case em14 => k_is)
    (case ea14 => k_is)
    (case en14 => k_is)
    (case ek14 => k_is)
    (case ey14 => k_is)
    (case xga14 => k_is)
    (case xgg14 => k_is)
    (case xex14 => k_is)
    (case xhd14 => k_is)
    (case xca14 => k_is)
    (case xcn14 => k_is)
    (case xct14 => k_is)
    (case xcm14 => k_is)
    (case aE15 => k_is)
    (case eq15 => first | k_is | kernel_rfl)
    (case eo15 => first | k_is | kernel_rfl)
    (case ei15 => k_is)
    (case et15 => k_is)
    (case el15 => k_is)
    (case ec15 => k_is)
    (case ed15 => k_is)
    (case ev15 => rfl)
    (case ew15 => decide +kernel)
    (case ex15 => k_is)
    (case es15 => first | k_is | kernel_rfl)
    (case eb15 => k_is)
    (case em15 => k_is)
    (case ea15 => k_is)
    (case eN15 => k_is)
    (case en15 => k_is)
    (case ek15 => k_is)
    (case ey15 => k_is)
    (case xga15 => k_is)
    (case xgg15 => k_is)
    (case xex15 => k_is)
    (case xhd15 => k_is)
    (case xca15 => k_is)
    (case xcn15 => k_is)
    (case xct15 => k_is)
    (case xcm15 => k_is)
    (case aE16 => k_is)
    (case eq16 => first | k_is | kernel_rfl)
    (case eo16 => first | k_is | kernel_rfl)
    (case ei16 => k_is)
    (case et16 => k_is)
    (case el16 => k_is)
    (case ec16 => k_is)
    (case ed16 => k_is)
    (case ev16 => rfl)
    (case ew16 => decide +kernel)
    (case ex16 => k_is)
    (case es16 => first | k_is | kernel_rfl)
    (case eb16 => k_is)
    (case em16 => k_is)
    (case ea16 => k_is)
    (case en16 => k_is)
    (case ek16 => k_is)
    (case ey16 => k_is)
    (case xga16 => k_is)
    (case xgg16 => k_is)
    (case xex16 => k_is)
    (case xhd16 => k_is)
    (case xca16 => k_is)
    (case xcn16 => k_is)
    (case xct16 => k_is)
    (case xcm16 => k_is)
    (case kx_1_0 => first | k_is | kernel_rfl)
    (case kx_1_10 => first | k_is | kernel_rfl)
    (case kx_1_11 => first | k_is | kernel_rfl)
    (case kx_1_12 => first | k_is | kernel_rfl)
    (case kx_1_13 => first | k_is | kernel_rfl)
    (case kx_1_14 => first | k_is | kernel_rfl)
    (case kx_1_15 => first | k_is | kernel_rfl)
    (case kx_1_16 => first | k_is | kernel_rfl)
    (case kx_1_2 => first | k_is | kernel_rfl)
    (case kx_1_3 => first | k_is | kernel_rfl)
    (case kx_1_4 => first | k_is | kernel_rfl)
    (case kx_1_5 => first | k_is | kernel_rfl)
    (case kx_1_6 => first | k_is | kernel_rfl)
    (case kx_1_7 => first | k_is | kernel_rfl)
    (case kx_1_8 => first | k_is | kernel_rfl)
    (case kx_1_9 => first | k_is | kernel_rfl)
    (case kx_1_LookupError => first | k_is | kernel_rfl)
    (case kx_1_RuntimeError => first | k_is | kernel_rfl)
    (case kx_1_ValueError => first | k_is | kernel_rfl)
    (case kx_10_0 => first | k_is | kernel_rfl)
    (case kx_10_1 => first | k_is | kernel_rfl)
    (case kx_10_11 => first | k_is | kernel_rfl)
    (case kx_10_12 => first | k_is | kernel_rfl)
    (case kx_10_13 => first | k_is | kernel_rfl)
    (case kx_10_14 => first | k_is | kernel_rfl)
    (case kx_10_15 => first | k_is | kernel_rfl)
    (case kx_10_16 => first | k_is | kernel_rfl)
    (case kx_10_2 => first | k_is | kernel_rfl)
    (case kx_10_3 => first | k_is | kernel_rfl)
    (case kx_10_4 => first | k_is | kernel_rfl)
    (case kx_10_5 => first | k_is | kernel_rfl)
    (case kx_10_6 => first | k_is | kernel_rfl)
    (case kx_10_7 => first | k_is | kernel_rfl)
    (case kx_10_8 => first | k_is | kernel_rfl)
    (case kx_10_9 => first | k_is | kernel_rfl)
    (case kx_10_LookupError => first | k_is | kernel_rfl)
    (case kx_10_RuntimeError => first | k_is | kernel_rfl)
    (case kx_10_ValueError => first | k_is | kernel_rfl)
    (case kx_11_0 => first | k_is | kernel_rfl)
    (case kx_11_1 => first | k_is | kernel_rfl)
    (case kx_11_10 => first | k_is | kernel_rfl)
    (case kx_11_12 => first | k_is | kernel_rfl)
    (case kx_11_13 => first | k_is | kernel_rfl)
    (case kx_11_14 => first | k_is | kernel_rfl)
    (case kx_11_15 => first | k_is | kernel_rfl)
    (case kx_11_16 => first | k_is | kernel_rfl)
    (case kx_11_2 => first | k_is | kernel_rfl)
    (case kx_11_3 => first | k_is | kernel_rfl)
    (case kx_11_4 => first | k_is | kernel_rfl)
    (case kx_11_5 => first | k_is | kernel_rfl)
    (case kx_11_6 => first | k_is | kernel_rfl)
    (case kx_11_7 => first | k_is | kernel_rfl)
    (case kx_11_8 => first | k_is | kernel_rfl)
    (case kx_11_9 => first | k_is | kernel_rfl)
    (case kx_11_LookupError => first | k_is | kernel_rfl)
    (case kx_11_RuntimeError => first | k_is | kernel_rfl)
    (case kx_11_ValueError => first | k_is | kernel_rfl)
    (case kx_12_0 => first | k_is | kernel_rfl)
    (case kx_12_1 => first | k_is | kernel_rfl)
    (case kx_12_10 => first | k_is | kernel_rfl)
    (case kx_12_11 => first | k_is | kernel_rfl)
    (case kx_12_13 => first | k_is | kernel_rfl)
    (case kx_12_14 => first | k_is | kernel_rfl)
    (case kx_12_15 => first | k_is | kernel_rfl)
    (case kx_12_16 => first | k_is | kernel_rfl)
    (case kx_12_2 => first | k_is | kernel_rfl)
    (case kx_12_3 => first | k_is | kernel_rfl)
    (case kx_12_4 => first | k_is | kernel_rfl)
    (case kx_12_5 => first | k_is | kernel_rfl)
    (case kx_12_6 => first | k_is | kernel_rfl)
    (case kx_12_7 => first | k_is | kernel_rfl)
    (case kx_12_8 => first | k_is | kernel_rfl)
    (case kx_12_9 => first | k_is | kernel_rfl)
    (case kx_12_LookupError => first | k_is | kernel_rfl)
    (case kx_12_RuntimeError => first | k_is | kernel_rfl)
    (case kx_12_ValueError => first | k_is | kernel_rfl)
    (case kx_13_0 => first | k_is | kernel_rfl)
    (case kx_13_1 => first | k_is | kernel_rfl)
    (case kx_13_10 => first | k_is | kernel_rfl)
    (case kx_13_11 => first | k_is | kernel_rfl)
    (case kx_13_12 => first | k_is | kernel_rfl)
    (case kx_13_14 => first | k_is | kernel_rfl)
    (case kx_13_15 => first | k_is | kernel_rfl)
    (case kx_13_16 => first | k_is | kernel_rfl)
    (case kx_13_2 => first | k_is | kernel_rfl)
    (case kx_13_3 => first | k_is | kernel_rfl)
    (case kx_13_4 => first | k_is | kernel_rfl)
    (case kx_13_5 => first | k_is | kernel_rfl)
    (case kx_13_6 => first | k_is | kernel_rfl)
    (case kx_13_7 => first | k_is | kernel_rfl)
    (case kx_13_8 => first | k_is | kernel_rfl)
    (case kx_13_9 => first | k_is | kernel_rfl)
    (case kx_13_LookupError => first | k_is | kernel_rfl)
    (case kx_13_RuntimeError => first | k_is | kernel_rfl)
    (case kx_13_ValueError => first | k_is | kernel_rfl)
    (case kx_14_0 => first | k_is | kernel_rfl)
    (case kx_14_1 => first | k_is | kernel_rfl)
    (case kx_14_10 => first | k_is | kernel_rfl)
    (case kx_14_11 => first | k_is | kernel_rfl)
    (case kx_14_12 => first | k_is | kernel_rfl)
    (case kx_14_13 => first | k_is | kernel_rfl)
    (case kx_14_15 => first | k_is | kernel_rfl)
    (case kx_14_16 => first | k_is | kernel_rfl)
    (case kx_14_2 => first | k_is | kernel_rfl)
    (case kx_14_3 => first | k_is | kernel_rfl)
    (case kx_14_4 => first | k_is | kernel_rfl)
    (case kx_14_5 => first | k_is | kernel_rfl)
    (case kx_14_6 => first | k_is | kernel_rfl)
    (case kx_14_7 => first | k_is | kernel_rfl)
    (case kx_14_8 => first | k_is | kernel_rfl)
    (case kx_14_9 => first | k_is | kernel_rfl)
    (case kx_14_LookupError => first | k_is | kernel_rfl)
    (case kx_14_RuntimeError => first | k_is | kernel_rfl)
    (case kx_14_ValueError => first | k_is | kernel_rfl)
    (case kx_15_0 => first | k_is | kernel_rfl)
    (case kx_15_1 => first | k_is | kernel_rfl)
    (case kx_15_10 => first | k_is | kernel_rfl)
    (case kx_15_11 => first | k_is | kernel_rfl)
    (case kx_15_12 => first | k_is | kernel_rfl)
    (case kx_15_13 => first | k_is | kernel_rfl)
    (case kx_15_14 => first | k_is | kernel_rfl)
    (case kx_15_16 => first | k_is | kernel_rfl)
    (case kx_15_2 => first | k_is | kernel_rfl)
    (case kx_15_3 => first | k_is | kernel_rfl)
    (case kx_15_4 => first | k_is | kernel_rfl)
    (case kx_15_5 => first | k_is | kernel_rfl)
    (case kx_15_6 => first | k_is | kernel_rfl)
    (case kx_15_7 => first | k_is | kernel_rfl)
    (case kx_15_8 => first | k_is | kernel_rfl)
    (case kx_15_9 => first | k_is | kernel_rfl)
    (case kx_15_LookupError => first | k_is | kernel_rfl)
    (case kx_15_RuntimeError => first | k_is | kernel_rfl)
    (case kx_15_ValueError => first | k_is | kernel_rfl)
    (case kx_16_0 => first | k_is | kernel_rfl)
    (case kx_16_1 => first | k_is | kernel_rfl)
    (case kx_16_10 => first | k_is | kernel_rfl)
    (case kx_16_11 => first | k_is | kernel_rfl)
    (case kx_16_12 => first | k_is | kernel_rfl)
    (case kx_16_13 => first | k_is | kernel_rfl)
    (case kx_16_14 => first | k_is | kernel_rfl)
    (case kx_16_15 => first | k_is | kernel_rfl)
    (case kx_16_2 => first | k_is | kernel_rfl)
    (case kx_16_3 => first | k_is | kernel_rfl)
    (case kx_16_4 => first | k_is | kernel_rfl)
    (case kx_16_5 => first | k_is | kernel_rfl)
    (case kx_16_6 => first | k_is | kernel_rfl)
    (case kx_16_7 => first | k_is | kernel_rfl)
    (case kx_16_8 => first | k_is | kernel_rfl)
    (case kx_16_9 => first | k_is | kernel_rfl)
    (case kx_16_LookupError => first | k_is | kernel_rfl)
    (case kx_16_RuntimeError => first | k_is | kernel_rfl)
    (case kx_16_ValueError => first | k_is | kernel_rfl)
    (case kx_2_0 => first | k_is | kernel_rfl)
    (case kx_2_1 => first | k_is | kernel_rfl)
    (case kx_2_10 => first | k_is | kernel_rfl)
    (case kx_2_11 => first | k_is | kernel_rfl)
    (case kx_2_12 => first | k_is | kernel_rfl)
    (case kx_2_13 => first | k_is | kernel_rfl)
    (case kx_2_14 => first | k_is | kernel_rfl)
    (case kx_2_15 => first | k_is | kernel_rfl)
    (case kx_2_16 => first | k_is | kernel_rfl)
    (case kx_2_3 => first | k_is | kernel_rfl)
    (case kx_2_4 => first | k_is | kernel_rfl)
    (case kx_2_5 => first | k_is | kernel_rfl)
    (case kx_2_6 => first | k_is | kernel_rfl)
    (case kx_2_7 => first | k_is | kernel_rfl)
    (case kx_2_8 => first | k_is | kernel_rfl)
    (case kx_2_9 => first | k_is | kernel_rfl)
    (case kx_2_LookupError => first | k_is | kernel_rfl)
    (case kx_2_RuntimeError => first | k_is | kernel_rfl)
    (case kx_2_ValueError => first | k_is | kernel_rfl)
    (case kx_3_0 => first | k_is | kernel_rfl)
    (case kx_3_1 => first | k_is | kernel_rfl)
    (case kx_3_10 => first | k_is | kernel_rfl)
    (case kx_3_11 => first | k_is | kernel_rfl)
    (case kx_3_12 => first | k_is | kernel_rfl)
    (case kx_3_13 => first | k_is | kernel_rfl)
    (case kx_3_14 => first | k_is | kernel_rfl)
    (case kx_3_15 => first | k_is | kernel_rfl)
    (case kx_3_16 => first | k_is | kernel_rfl)
    (case kx_3_2 => first | k_is | kernel_rfl)
    (case kx_3_4 => first | k_is | kernel_rfl)
    (case kx_3_5 => first | k_is | kernel_rfl)
    (case kx_3_6 => first | k_is | kernel_rfl)
    (case kx_3_7 => first | k_is | kernel_rfl)
    (case kx_3_8 => first | k_is | kernel_rfl)
    (case kx_3_9 => first | k_is | kernel_rfl)
    (case kx_3_LookupError => first | k_is | kernel_rfl)
    (case kx_3_RuntimeError => first | k_is | kernel_rfl)
    (case kx_3_ValueError => first | k_is | kernel_rfl)
    (case kx_4_0 => first | k_is | kernel_rfl)
    (case kx_4_1 => first | k_is | kernel_rfl)
    (case kx_4_10 => first | k_is | kernel_rfl)
    (case kx_4_11 => first | k_is | kernel_rfl)
    (case kx_4_12 => first | k_is | kernel_rfl)
    (case kx_4_13 => first | k_is | kernel_rfl)
    (case kx_4_14 => first | k_is | kernel_rfl)
    (case kx_4_15 => first | k_is | kernel_rfl)
    (case kx_4_16 => first | k_is | kernel_rfl)
    (case kx_4_2 => first | k_is | kernel_rfl)
    (case kx_4_3 => first | k_is | kernel_rfl)
    (case kx_4_5 => first | k_is | kernel_rfl)
    (case kx_4_6 => first | k_is | kernel_rfl)
    (case kx_4_7 => first | k_is | kernel_rfl)
    (case kx_4_8 => first | k_is | kernel_rfl)
    (case kx_4_9 => first | k_is | kernel_rfl)
    (case kx_4_LookupError => first | k_is | kernel_rfl)
    (case kx_4_RuntimeError => first | k_is | kernel_rfl)
    (case kx_4_ValueError => first | k_is | kernel_rfl)
    (case kx_5_0 => first | k_is | kernel_rfl)
    (case kx_5_1 => first | k_is | kernel_rfl)
    (case kx_5_10 => first | k_is | kernel_rfl)
    (case kx_5_11 => first | k_is | kernel_rfl)
    (case kx_5_12 => first | k_is | kernel_rfl)
    (case kx_5_13 => first | k_is | kernel_rfl)
    (case kx_5_14 => first | k_is | kernel_rfl)
    (case kx_5_15 => first | k_is | kernel_rfl)
    (case kx_5_16 => first | k_is | kernel_rfl)
    (case kx_5_2 => first | k_is | kernel_rfl)
    (case kx_5_3 => first | k_is | kernel_rfl)
    (case kx_5_4 => first | k_is | kernel_rfl)
    (case kx_5_6 => first | k_is | kernel_rfl)
    (case kx_5_7 => first | k_is | kernel_rfl)
    (case kx_5_8 => first | k_is | kernel_rfl)
    (case kx_5_9 => first | k_is | kernel_rfl)
    (case kx_5_LookupError => first | k_is | kernel_rfl)
    (case kx_5_RuntimeError => first | k_is | kernel_rfl)
    (case kx_5_ValueError => first | k_is | kernel_rfl)
    (case kx_6_0 => first | k_is | kernel_rfl)
    (case kx_6_1 => first | k_is | kernel_rfl)
    (case kx_6_10 => first | k_is | kernel_rfl)
    (case kx_6_11 => first | k_is | kernel_rfl)
    (case kx_6_12 => first | k_is | kernel_rfl)
    (case kx_6_13 => first | k_is | kernel_rfl)
    (case kx_6_14 => first | k_is | kernel_rfl)
    (case kx_6_15 => first | k_is | kernel_rfl)
    (case kx_6_16 => first | k_is | kernel_rfl)
    (case kx_6_2 => first | k_is | kernel_rfl)
    (case kx_6_3 => first | k_is | kernel_rfl)
    (case kx_6_4 => first | k_is | kernel_rfl)
    (case kx_6_5 => first | k_is | kernel_rfl)
    (case kx_6_7 => first | k_is | kernel_rfl)
    (case kx_6_8 => first | k_is | kernel_rfl)
    (case kx_6_9 => first | k_is | kernel_rfl)
    (case kx_6_LookupError => first | k_is | kernel_rfl)
    (case kx_6_RuntimeError => first | k_is | kernel_rfl)
    (case kx_6_ValueError => first | k_is | kernel_rfl)
    (case kx_7_0 => first | k_is | kernel_rfl)
    (case kx_7_1 => first | k_is | kernel_rfl)
    (case kx_7_10 => first | k_is | kernel_rfl)
    (case kx_7_11 => first | k_is | kernel_rfl)
    (case kx_7_12 => first | k_is | kernel_rfl)
    (case kx_7_13 => first | k_is | kernel_rfl)
    (case kx_7_14 => first | k_is | kernel_rfl)
    (case kx_7_15 => first | k_is | kernel_rfl)
    (case kx_7_16 => first | k_is | kernel_rfl)
    (case kx_7_2 => first | k_is | kernel_rfl)
    (case kx_7_3 => first | k_is | kernel_rfl)
    (case kx_7_4 => first | k_is | kernel_rfl)
    (case kx_7_5 => first | k_is | kernel_rfl)
    (case kx_7_6 => first | k_is | kernel_rfl)
    (case kx_7_8 => first | k_is | kernel_rfl)
    (case kx_7_9 => first | k_is | kernel_rfl)
    (case kx_7_LookupError => first | k_is | kernel_rfl)
    (case kx_7_RuntimeError => first | k_is | kernel_rfl)
    (case kx_7_ValueError => first | k_is | kernel_rfl)
    (case kx_8_0 => first | k_is | kernel_rfl)
    (case kx_8_1 => first | k_is | kernel_rfl)
    (case kx_8_10 => first | k_is | kernel_rfl)
    (case kx_8_11 => first | k_is | kernel_rfl)
    (case kx_8_12 => first | k_is | kernel_rfl)
    (case kx_8_13 => first | k_is | kernel_rfl)
    (case kx_8_14 => first | k_is | kernel_rfl)
    (case kx_8_15 => first | k_is | kernel_rfl)
    (case kx_8_16 => first | k_is | kernel_rfl)
    (case kx_8_2 => first | k_is | kernel_rfl)
    (case kx_8_3 => first | k_is | kernel_rfl)
    (case kx_8_4 => first | k_is | kernel_rfl)
    (case kx_8_5 => first | k_is | kernel_rfl)
    (case kx_8_6 => first | k_is | kernel_rfl)
    (case kx_8_7 => first | k_is | kernel_rfl)
    (case kx_8_9 => first | k_is | kernel_rfl)
    (case kx_8_LookupError => first | k_is | kernel_rfl)
    (case kx_8_RuntimeError => first | k_is | kernel_rfl)
    (case kx_8_ValueError => first | k_is | kernel_rfl)
    (case kx_9_0 => first | k_is | kernel_rfl)
    (case kx_9_1 => first | k_is | kernel_rfl)
    (case kx_9_10 => first | k_is | kernel_rfl)
    (case kx_9_11 => first | k_is | kernel_rfl)
    (case kx_9_12 => first | k_is | kernel_rfl)
    (case kx_9_13 => first | k_is | kernel_rfl)
    (case kx_9_14 => first | k_is | kernel_rfl)
    (case kx_9_15 => first | k_is | kernel_rfl)
    (case kx_9_16 => first | k_is | kernel_rfl)
    (case kx_9_2 => first | k_is | kernel_rfl)
    (case kx_9_3 => first | k_is | kernel_rfl)
    (case kx_9_4 => first | k_is | kernel_rfl)
    (case kx_9_5 => first | k_is | kernel_rfl)
    (case kx_9_6 => first | k_is | kernel_rfl)
    (case kx_9_7 => first | k_is | kernel_rfl)
    (case kx_9_8 => first | k_is | kernel_rfl)
    (case kx_9_LookupError => first | k_is | kernel_rfl)
    (case kx_9_RuntimeError => first | k_is | kernel_rfl)
    (case kx_9_ValueError => first | k_is | kernel_rfl)
    (case z_LookupError => k_is)
    (case z_RuntimeError => k_is)
    (case z_ValueError => k_is)
    (case z_int => k_is)
    (case z_isinstance => k_is)
    (case z_len => k_is)
    (case z_max => k_is)
    (case z_min => k_is)
    (case z_range => k_is)
    (case z_repr => k_is)
