import PyProof.Rows.All
import Wide.All
import OpenK.AllK
import Wide.FinOn
import HandS.ForMost
import HandS.ForExc
import HandS.Slots
import HandS.SlotsOwn
import HandS.Zip
import HandS.Lambda
import HandS.ExcInit
import HandS.TupAny
import HandS.TupMul
import HandS.TupLe
import HandS.IsInst
import HandS.Wide
import HandS.Flow
import HandS.Deep
import HandS.Star
import HandS.ClsMeth
import KE.KOpsOwn
import HandS.EndTab
import KE.KEqDeep
import HandS.ExcSuper
import HandS.ExcField
import KE.KExcSuper
import HandS.TryMany
import HandS.RaiseMore
import HandS.Dict
import HandS.Text
import HandS.ExcIs
import HandS.SetFor
import HandS.Strs
import KE.GoesMore
import HandS.Style
import HandS.Small
import HandS.Iter
import PyProof.StrBlock2
import KE.KExcIs
import HandS.MakeKwOnly
import HandS.ExcValue
import KE.DataMinMax
import HandS.Conv
import KE.SortKeyHeap
import HandS.SortKw
import HandS.Defaults
import HandS.Head0
import HandS.Head1
import HandS.Head2
import HandS.HeadHook1
import HandS.OwnEq
import HandS.TupSets
import PySem.Challenge.RW_leastreads_k05_whole_spaces_joined_and_m
set_option Elab.async false
set_option linter.all false
set_option maxRecDepth 100000
set_option maxHeartbeats 4000000
namespace DL
open PySem L2
inductive D where
  | non | bl (b : Bool) | int (i : Int) | str (s : Str)
  | lst (xs : List D) | tup (xs : List D) | loc (n : Nat) | obj (c : Nat) (xs : List D) | cls (c : Nat)
  | dct (ks : List Key) (xs : List D) | fdc (ks : List Key) (xs : List D) | err (c : Nat) (xs : List D)
inductive Cell where
  | lst (xs : List D)
  | ins (c : Nat) (xs : List (Option D))
  | dct (ks : List Key) (xs : List D)
abbrev Store := List (Option Cell)
abbrev Lam := List (Addr × Addr)
abbrev DEnv := List (Option D)
inductive Res (α : Type) where
  | ok (a : α) (m : Store)
  | exn (c : Nat) (fs : List D) (m : Store)
  | bad
def M (α : Type) : Type := Store → Res α
def M.pure {α : Type} (a : α) : M α := fun m => .ok a m
def M.bind {α β : Type} (x : M α) (f : α → M β) : M β := fun m =>
  match x m with
  | .ok a m' => f a m'
  | .exn c fs m' => .exn c fs m'
  | .bad => .bad
def M.bad {α : Type} : M α := fun _ => .bad
def M.exn {α : Type} (c : Nat) (fs : List D) : M α := fun m => .exn c fs m
instance : Monad M where
  pure := M.pure
  bind := M.bind
/-- the law's constants: where each class stands, the fields of each error class -/
structure Kx where
  cl : Nat → Addr
  xf : Nat → List Str
  tb : List (Addr × Str) := []
mutual
inductive Rp (k : Kx) (K : PySem.W.Frag) (G : Hp) (L : Lam) : V → D → Prop
  | non : Rp k K G L .non .non
  | bl (b : Bool) : Rp k K G L (.bl b) (.bl b)
  | int (i : Int) : Rp k K G L (.int i) (.int i)
  | str (x : Str) : Rp k K G L (.str x) (.str x)
  | lst {a : Addr} {xs : List V} {ds : List D} : SqL K G a xs → RpA k K G L xs ds → Rp k K G L (.ref a) (.lst ds)
  | tup {a : Addr} {xs : List V} {ds : List D} : SqT K G a xs → RpA k K G L xs ds → Rp k K G L (.ref a) (.tup ds)
  | loc {n : Nat} {a b : Addr} : L[n]? = some (a, b) → Rp k K G L (.ref a) (.loc n)
  | cls (c : Nat) : Rp k K G L (.ref (k.cl c)) (.cls c)
  | dct {ks : List Key} {a : Addr} {vs : List V} {ds : List D} : G a = some (.dK (ks.zip vs)) → ks.length = vs.length → RpA k K G L vs ds → Rp k K G L (.ref a) (.dct ks ds)
  | fdc {ks : List Key} {a : Addr} {o : Obj} {vs : List V} {ds : List D} : G a = some (.frz o (.dK (ks.zip vs))) → ks.length = vs.length → RpA k K G L vs ds → Rp k K G L (.ref a) (.fdc ks ds)
  | err {c : Nat} {a dx : Addr} {vs : List V} {ds : List D} : G a = some (exo a (k.cl c) (some dx)) → G dx = some (exd dx ((k.xf c).zip vs)) → (k.xf c).length = vs.length → RpA k K G L vs ds → Rp k K G L (.ref a) (.err c ds)
  | err0 {c : Nat} {a : Addr} : k.xf c = [] → G a = some (exo a (k.cl c) none) → Rp k K G L (.ref a) (.err c [])
  | obj {c : Nat} {a dx : Addr} {vs : List V} {ds : List D} : SlX.Slt G a (k.cl c) dx (vs.map some) → RpA k K G L vs ds → Rp k K G L (.ref a) (.obj c ds)
inductive RpA (k : Kx) (K : PySem.W.Frag) (G : Hp) (L : Lam) : List V → List D → Prop
  | nil : RpA k K G L [] []
  | cons {v : V} {vs : List V} {d : D} {ds : List D} : Rp k K G L v d → RpA k K G L vs ds → RpA k K G L (v :: vs) (d :: ds)
end
section
variable {k : Kx} {K : PySem.W.Frag} {G G' : Hp} {L L' : Lam}
theorem sqT_mono {H H' : Hp} {a : Addr} {xs : List V} (e : Same H H') (h : SqT K H a xs) : SqT K H' a xs := by
  rcases h with (h | ⟨o, h⟩) | h
  · exact .inl (.inl (e _ _ h))
  · exact .inl (.inr ⟨o, e _ _ h⟩)
  · exact .inr h
theorem slt_mono {H H' : Hp} {a C dx : Addr} {vs : List (Option V)} (e : Same H H') (h : SlX.Slt H a C dx vs) : SlX.Slt H' a C dx vs := by
  rcases h with ⟨h1, h2⟩ | ⟨h1, h2⟩
  · exact .inl ⟨e _ _ h1, h2⟩
  · exact .inr ⟨e _ _ h1, e _ _ h2⟩
theorem pre_get {α : Type} {l l' : List α} {n : Nat} {x : α} (p : l <+: l') (h : l[n]? = some x) : l'[n]? = some x := by
  obtain ⟨t, rfl⟩ := p
  rw [List.getElem?_append_left (List.getElem?_eq_some_iff.mp h).1]
  exact h
mutual
theorem Rp.mono (e : Same G G') (l : L <+: L') : ∀ (d : D) (v : V), Rp k K G L v d → Rp k K G' L' v d
  | .non, _, h => by cases h; exact .non
  | .bl b, _, h => by cases h; exact .bl b
  | .int i, _, h => by cases h; exact .int i
  | .str i, _, h => by cases h; exact .str i
  | .lst ds, _, h => by
    cases h with
    | lst hs ha => exact .lst (e.seq hs) (RpA.mono e l ds _ ha)
  | .tup ds, _, h => by
    cases h with
    | tup hs ha => exact .tup (sqT_mono e hs) (RpA.mono e l ds _ ha)
  | .loc n, _, h => by
    cases h with
    | loc hn => exact .loc (pre_get l hn)
  | .obj c ds, _, h => by
    cases h with
    | obj hs ha => exact .obj (slt_mono e hs) (RpA.mono e l ds _ ha)
  | .cls c, _, h => by cases h; exact .cls c
  | .dct ks ds, _, h => by
    cases h with
    | dct hs hl ha => exact .dct (e _ _ hs) hl (RpA.mono e l ds _ ha)
  | .fdc ks ds, _, h => by
    cases h with
    | fdc hs hl ha => exact .fdc (e _ _ hs) hl (RpA.mono e l ds _ ha)
  | .err c ds, _, h => by
    cases h with
    | err h1 h2 hl ha => exact .err (e _ _ h1) (e _ _ h2) hl (RpA.mono e l ds _ ha)
    | err0 h0 h1 => exact .err0 h0 (e _ _ h1)
theorem RpA.mono (e : Same G G') (l : L <+: L') : ∀ (ds : List D) (vs : List V), RpA k K G L vs ds → RpA k K G' L' vs ds
  | [], _, h => by cases h; exact .nil
  | d :: ds, _, h => by
    cases h with
    | cons h1 h2 => exact .cons (Rp.mono e l d _ h1) (RpA.mono e l ds _ h2)
end
theorem RpA.len : ∀ {vs : List V} {ds : List D}, RpA k K G L vs ds → vs.length = ds.length
  | [], _, h => by cases h; rfl
  | v :: vs, _, h => by
    cases h with
    | cons _ h2 => simp [h2.len]
theorem RpA.get : ∀ {vs : List V} {ds : List D} {i : Nat} {d : D}, RpA k K G L vs ds → ds[i]? = some d → ∃ v, vs[i]? = some v ∧ Rp k K G L v d
  | _, [], _, _, h, e => by simp at e
  | _, d :: ds, 0, _, h, e => by
    cases h with
    | cons h1 _ => simp at e; subst e; exact ⟨_, rfl, h1⟩
  | _, d :: ds, i + 1, _, h, e => by
    cases h with
    | cons _ h2 =>
      obtain ⟨v, e1, e2⟩ := RpA.get (i := i) h2 (by simpa using e)
      exact ⟨v, by simpa using e1, e2⟩
theorem RpA.get2 : ∀ {vs : List V} {ds : List D} {i : Nat} {v : V}, RpA k K G L vs ds → vs[i]? = some v → ∃ d, ds[i]? = some d ∧ Rp k K G L v d
  | [], _, _, _, h, e => by simp at e
  | v :: vs, _, 0, _, h, e => by
    cases h with
    | cons h1 _ => simp at e; subst e; exact ⟨_, rfl, h1⟩
  | v :: vs, _, i + 1, _, h, e => by
    cases h with
    | cons _ h2 =>
      obtain ⟨d, e1, e2⟩ := RpA.get2 (i := i) h2 (by simpa using e)
      exact ⟨d, by simpa using e1, e2⟩
theorem RpA.append : ∀ {vs ws : List V} {ds es : List D}, RpA k K G L vs ds → RpA k K G L ws es → RpA k K G L (vs ++ ws) (ds ++ es)
  | [], _, _, _, h, h' => by cases h; exact h'
  | _ :: _, _, _, _, h, h' => by
    cases h with
    | cons h1 h2 => exact .cons h1 (h2.append h')
theorem RpA.take : ∀ (n : Nat) {vs : List V} {ds : List D}, RpA k K G L vs ds → RpA k K G L (vs.take n) (ds.take n)
  | 0, _, _, _ => .nil
  | n + 1, [], _, h => by cases h; exact .nil
  | n + 1, _ :: _, _, h => by
    cases h with
    | cons h1 h2 => exact .cons h1 (h2.take n)
theorem RpA.drop : ∀ (n : Nat) {vs : List V} {ds : List D}, RpA k K G L vs ds → RpA k K G L (vs.drop n) (ds.drop n)
  | 0, _, _, h => h
  | n + 1, [], _, h => by cases h; exact .nil
  | n + 1, _ :: _, _, h => by
    cases h with
    | cons h1 h2 => exact h2.drop n
theorem RpA.set : ∀ (n : Nat) {vs : List V} {ds : List D} {v : V} {d : D}, RpA k K G L vs ds → Rp k K G L v d → RpA k K G L (vs.set n v) (ds.set n d)
  | _, [], _, _, _, h, _ => by cases h; exact .nil
  | 0, _ :: _, _, _, _, h, hv => by
    cases h with
    | cons h1 h2 => exact .cons hv h2
  | n + 1, _ :: _, _, _, _, h, hv => by
    cases h with
    | cons h1 h2 => exact .cons h1 (h2.set n hv)
end
/-- no table of code objects -/
def NT (o : HO) : Prop := ∀ ps, o ≠ .tbl ps
/-- neither a table nor a code object -/
def NC (o : HO) : Prop := NT o ∧ ∀ c q, o ≠ LamX.CodeO c q
/-- nothing is tracked there, but a table, perhaps -/
def Bare (H : Hp) (a : Addr) : Prop := ∀ o, H a = some o → ¬ NT o
theorem bare_none {H : Hp} {a : Addr} (h : H a = none) : Bare H a := fun o e => by
  rw [h] at e
  cases e
theorem ne_of_bare {H : Hp} {a b : Addr} {o : HO} (h : H a = some o) (n : NT o) (q : Bare H b) : a ≠ b := fun e => by
  subst e
  exact q o h n
theorem tabs_upd {T : List (Addr × Str)} {H : Hp} {p : Addr} {o : HO} (t : LamX.Tabs T H) (h : ∀ u, H p = some u → NC u) : LamX.Tabs T (upd H p o) := fun q hq => by
  obtain ⟨ps, h1, h2, h3⟩ := t q hq
  have ne : ∀ {b : Addr} {u : HO}, H b = some u → ¬ NC u → b ≠ p := fun {b u} e n z => by
    subst z
    exact n (h u e)
  refine ⟨ps, by rw [upd_ne (ne h1 fun z => z.1 ps rfl)]; exact h1, h2, fun pos cv hc => ?_⟩
  obtain ⟨c, e1, e2⟩ := h3 pos cv hc
  exact ⟨c, e1, by rw [upd_ne (ne e2 fun z => z.2 _ _ rfl)]; exact e2⟩
theorem nc_none {H : Hp} {p : Addr} (h : H p = none) : ∀ u, H p = some u → NC u := fun u e => by
  rw [h] at e
  cases e
theorem nc_lst (vs : List V) : NC (.lst vs) := ⟨fun _ e => (by cases e), fun c q e => (by unfold LamX.CodeO at e; cases e)⟩
theorem nc_ins (a b : Addr) (fs : List (Str × V)) : NC (.ins a b fs) := ⟨fun _ e => (by cases e), fun c q e => (by unfold LamX.CodeO at e; cases e)⟩
theorem nc_own (a : Addr) : NC (.own a) := ⟨fun _ e => (by cases e), fun c q e => (by unfold LamX.CodeO at e; cases e)⟩
theorem nc_xd (fs : List (Str × V)) : NC (.xd fs) := ⟨fun _ e => (by cases e), fun c q e => (by unfold LamX.CodeO at e; cases e)⟩
theorem nc_at {H : Hp} {p : Addr} {o : HO} (h : H p = some o) (n : NC o) : ∀ u, H p = some u → NC u := fun u e => by
  rw [h] at e
  cases e
  exact n
/-- a heap with the same object everywhere up to n -/
def fillH (o : Obj) (n : Nat) : Heap := ⟨Array.replicate n o, {}⟩
theorem fillH_get {o : Obj} {n b : Nat} {u : Obj} (e : (fillH o n).get? b = some u) : u = o := by
  unfold fillH Heap.get? at e
  by_cases hb : b < n
  · simp only [Array.getElem?_replicate, hb, if_true] at e
    split at e
    · cases e
    · exact (Option.some.inj e).symm
  · simp only [Array.getElem?_replicate, hb, if_false] at e
    cases e
theorem fillH_at {cl : Value} {vs : Array Value} {n b : Nat} (hb : b < n) : (fillH ({ cls := cl, data := .fields vs } : Obj) n).get? b = some ({ cls := cl, data := .fields vs } : Obj) := by
  unfold fillH Heap.get?
  simp only [Array.getElem?_replicate, hb, if_true]
theorem nc_slO (a C dx : Addr) (vs : List (Option V)) : NC (SlX.SlO a C dx vs) := by
  refine ⟨fun _ e => (by unfold SlX.SlO at e; cases e), fun c q e => ?_⟩
  unfold SlX.SlO LamX.CodeO at e
  have e2 := HO.ext.inj e
  have h2 := congrFun e2 (fillH { cls := .none, data := .fields #[.none, .str q 0] } (c + 1))
  have h3 : ∃ sl : Array (Option Value), (fillH { cls := .none, data := .fields #[.none, .str q 0] } (c + 1)).get? a = some { PySem.W.instObj C dx with slots := sl } ∧ SlX.SlR vs sl := by
    rw [h2]
    exact ⟨_, #[.none, .str q 0], 0, fillH_at (Nat.lt_succ_self c), rfl, rfl⟩
  obtain ⟨sl, h4, _⟩ := h3
  have h5 := fillH_get h4
  have h6 := congrArg Obj.data h5
  cases h6
def RpO (k : Kx) (K : PySem.W.Frag) (G : Hp) (L : Lam) (vs : List (Option V)) (ss : List (Option D)) : Prop :=
  vs.length = ss.length ∧ ∀ (i : Nat) (d : D), ss[i]? = some (some d) → ∃ v, vs[i]? = some (some v) ∧ Rp k K G L v d
def CellR (k : Kx) (K : PySem.W.Frag) (G H : Hp) (L : Lam) (a b : Addr) : Cell → Prop
  | .lst ds => b = a ∧ ∃ vs, H a = some (.lst vs) ∧ RpA k K G L vs ds
  | .ins c ss => ∃ vs, SlX.Slt H a (k.cl c) b vs ∧ RpO k K G L vs ss ∧ (∃ o, H b = some o ∧ NC o) ∧ a ≠ b
  | .dct ks ds => b = a ∧ ∃ vs, H a = some (.dK (ks.zip vs)) ∧ ks.length = vs.length ∧ RpA k K G L vs ds
def Live (m : Store) (n : Nat) : Prop := ∃ c, m[n]? = some (some c)
structure Wd (k : Kx) (K : PySem.W.Frag) (G H : Hp) (L : Lam) (m : Store) : Prop where
  ext : Same G H
  len : L.length = m.length
  tk : ∀ p ∈ L, (∃ o, H p.1 = some o ∧ NT o) ∧ ∃ o, H p.2 = some o ∧ NT o
  tab : LamX.Tabs k.tb H
  gt : ∀ a o, G a = some o → NT o
  cell : ∀ (n : Nat) (c : Cell), m[n]? = some (some c) → ∃ a b, L[n]? = some (a, b) ∧ G a = none ∧ G b = none ∧ CellR k K G H L a b c
  apart : ∀ (i j : Nat) (a b a' b' : Addr), Live m i → Live m j → i ≠ j → L[i]? = some (a, b) → L[j]? = some (a', b') → a ≠ a' ∧ a ≠ b' ∧ b ≠ a' ∧ b ≠ b'
/-- an error's own dict, by its fields -/
def XR (k : Kx) (K : PySem.W.Frag) (G : Hp) (L : Lam) (c : Nat) (fs : List D) (d : Addr) : Prop :=
  ∃ gs : List V, gs.length = (k.xf c).length ∧ G d = some (.xd ((k.xf c).zip gs)) ∧ RpA k K G L gs fs
/-- a step of the world: data grow, locations are added, all else that stands stays and stays out of the data -/
structure Stp (G H : Hp) (L : Lam) (G' H' : Hp) (L' : Lam) : Prop where
  g : Same G G'
  l : L <+: L'
  tr : ∀ a, Bare H' a → Bare H a
  keep : ∀ a o, H a = some o → NT o → (∀ p ∈ L, a ≠ p.1 ∧ a ≠ p.2) → H' a = some o ∧ (G a = none → G' a = none)
  nl : ∀ p ∈ L', p ∈ L ∨ (Bare H p.1 ∧ Bare H p.2)
theorem Stp.refl (G H : Hp) (L : Lam) : Stp G H L G H L := ⟨Same.refl G, List.prefix_rfl, fun _ h => h, fun a o h _ _ => ⟨h, id⟩, fun p h => .inl h⟩
theorem Stp.trans {G H G1 H1 G2 H2 : Hp} {L L1 L2 : Lam} (a : Stp G H L G1 H1 L1) (b : Stp G1 H1 L1 G2 H2 L2) : Stp G H L G2 H2 L2 where
  g := a.g.trans b.g
  l := a.l.trans b.l
  tr := fun x h => a.tr x (b.tr x h)
  keep := fun x o h nt n => by
    obtain ⟨h1, g1⟩ := a.keep x o h nt n
    obtain ⟨h2, g2⟩ := b.keep x o h1 nt fun p hp => by
      rcases a.nl p hp with q | ⟨q1, q2⟩
      · exact n p q
      · exact ⟨ne_of_bare h nt q1, ne_of_bare h nt q2⟩
    exact ⟨h2, fun q => g2 (g1 q)⟩
  nl := fun p hp => by
    rcases b.nl p hp with q | ⟨q1, q2⟩
    · exact a.nl p q
    · exact .inr ⟨a.tr _ q1, a.tr _ q2⟩
def Good {α : Type} (k : Kx) (K : PySem.W.Frag) (E : XK) (G H : Hp) (L : Lam) (r : Res α) (Q : α → Store → Hp → Hp → Lam → Prop) : Prop :=
  match r with
  | .ok a m => ∀ G' H' L', Stp G H L G' H' L' → Wd k K G' H' L' m → Q a m G' H' L'
  | .exn c fs m => ∀ G' H' L' d, Stp G H L G' H' L' → Wd k K G' H' L' m → XR k K G' L' c fs d → E (.ref (k.cl c)) (some d) H'
  | .bad => False
section
variable {k : Kx} {K : PySem.W.Frag} {E : XK} {G H : Hp} {L : Lam} {α β : Type}
theorem pre_refl (l : List α) : l <+: l := List.prefix_rfl
theorem Good.mono {r : Res α} {Q Q' : α → Store → Hp → Hp → Lam → Prop} (h : Good k K E G H L r Q) (q : ∀ a m G' H' L', Stp G H L G' H' L' → Wd k K G' H' L' m → Q a m G' H' L' → Q' a m G' H' L') : Good k K E G H L r Q' := by
  cases r with
  | ok a m => exact fun G' H' L' e w => q a m G' H' L' e w (h G' H' L' e w)
  | exn c fs m => exact h
  | bad => exact h
theorem Good.up {G0 H0 : Hp} {L0 : Lam} {r : Res α} {Q : α → Store → Hp → Hp → Lam → Prop} (h : Good k K E G0 H0 L0 r Q) (e : Stp G0 H0 L0 G H L) : Good k K E G H L r Q := by
  cases r with
  | ok a m => exact fun G' H' L' e' w => h G' H' L' (e.trans e') w
  | exn c fs m => exact fun G' H' L' d e' w x => h G' H' L' d (e.trans e') w x
  | bad => exact h
theorem Good.bind {x : M α} {f : α → M β} {m : Store} {Q : β → Store → Hp → Hp → Lam → Prop} (h : Good k K E G H L ((x >>= f) m) Q) :
    Good k K E G H L (x m) (fun a m' G' H' L' => Good k K E G' H' L' (f a m') Q) := by
  have h' : Good k K E G H L (M.bind x f m) Q := h
  unfold M.bind at h'
  cases e : x m with
  | ok a m' =>
    rw [e] at h'
    exact fun G' H' L' e1 w => Good.up h' e1
  | exn c fs m' =>
    rw [e] at h'
    exact h'
  | bad =>
    rw [e] at h'
    exact h'
theorem Good.ret {a : α} {m : Store} {Q : α → Store → Hp → Hp → Lam → Prop} (h : Good k K E G H L ((pure a : M α) m) Q) (w : Wd k K G H L m) : Q a m G H L :=
  h G H L (Stp.refl G H L) w
theorem Good.okE {a : α} {m : Store} {Q : α → Store → Hp → Hp → Lam → Prop} (h : Good k K E G H L (.ok a m) Q) (w : Wd k K G H L m) : Q a m G H L :=
  h G H L (Stp.refl G H L) w
end
def Sg (k : Kx) (K : PySem.W.Frag) (G : Hp) (L : Lam) (s : L2.St) (e : DEnv) : Prop :=
  s.length = e.length ∧ ∀ (i : Nat) (d : D), e[i]? = some (some d) → ∃ v, s[i]? = some (some v) ∧ Rp k K G L v d
section
variable {k : Kx} {K : PySem.W.Frag} {G G' : Hp} {L L' : Lam} {s : L2.St} {e : DEnv}
theorem Sg.mono (h : Sg k K G L s e) (g : Same G G') (l : L <+: L') : Sg k K G' L' s e :=
  ⟨h.1, fun i d q => let ⟨v, a, b⟩ := h.2 i d q; ⟨v, a, Rp.mono g l _ _ b⟩⟩
theorem Sg.set (h : Sg k K G L s e) (i : Nat) {v : V} {d : D} (r : Rp k K G L v d) : Sg k K G L (s.set i (some v)) (e.set i (some d)) := by
  refine ⟨by rw [List.length_set, List.length_set]; exact h.1, fun j d' q => ?_⟩
  by_cases hj : i = j
  · subst hj
    by_cases hi : i < e.length
    · rw [List.getElem?_set_self hi] at q
      cases q
      exact ⟨v, by rw [List.getElem?_set_self (by rw [h.1]; exact hi)], r⟩
    · rw [List.getElem?_eq_none (by simpa using hi)] at q
      cases q
  · rw [List.getElem?_set_ne hj] at q
    obtain ⟨v', a, b⟩ := h.2 j d' q
    exact ⟨v', by rw [List.getElem?_set_ne hj]; exact a, b⟩
end
inductive Out where
  | nx (e : DEnv) | rt (d : D) | bk (e : DEnv) | ct (e : DEnv)
section
variable (k : Kx) (K : PySem.W.Frag) (E : XK)
def dE (m : DEnv → M D) : TE := fun s H Q => ∃ e G L μ, Sg k K G L s e ∧ Wd k K G H L μ ∧ Good k K E G H L (m e μ) fun d _ G' H' L' => ∀ v, Rp k K G' L' v d → Q v H'
def dT (m : DEnv → M Bool) : TT := fun s H Q => ∃ e G L μ, Sg k K G L s e ∧ Wd k K G H L μ ∧ Good k K E G H L (m e μ) fun b _ _ H' _ => Q b H'
def dA (m : DEnv → M (List D)) : TA := fun s H Q => ∃ e G L μ, Sg k K G L s e ∧ Wd k K G H L μ ∧ Good k K E G H L (m e μ) fun ds _ G' H' L' => ∀ vs, RpA k K G' L' vs ds → Q vs H'
def OutOk (Ds : Ends) (o : Out) (G H : Hp) (L : Lam) : Prop :=
  match o with
  | .nx e => ∀ s, Sg k K G L s e → Ds.nx s H
  | .rt d => ∀ v, Rp k K G L v d → Ds.rt v H
  | .bk e => ∀ s, Sg k K G L s e → Ds.bk s H
  | .ct e => ∀ s, Sg k K G L s e → Ds.ct s H
def dS (m : DEnv → M Out) : TS := fun Ds s H => ∃ e G L μ, Sg k K G L s e ∧ Wd k K G H L μ ∧ Good k K E G H L (m e μ) fun o _ G' H' L' => OutOk k K Ds o G' H' L'
/-- a target: d is handed in; ts: the slots that it may store to -/
def dG (ts : List Nat) (g : D → DEnv → M DEnv) : TG := fun v s H Q => ∃ d e G L μ, Sg k K G L s e ∧ Rp k K G L v d ∧ Wd k K G H L μ ∧ Good k K E G H L (g d e μ) fun e' _ G' H' L' => ∀ s', Sg k K G' L' s' e' → (s'.length = s.length ∧ ∀ i, i ∉ ts → s'[i]? = s[i]?) → Q s' H'
end
abbrev JE (k : Kx) (X : Cx) (E : XK) (e : Expr) (m : DEnv → M D) : Prop := PE X e (dE k X.K E m)
abbrev JT (k : Kx) (X : Cx) (E : XK) (e : Expr) (m : DEnv → M Bool) : Prop := PT X e (dT k X.K E m)
abbrev JW (k : Kx) (X : Cx) (E : XK) (e : Expr) (m : DEnv → M Bool) : Prop := PW X e (dT k X.K E m)
abbrev JA (k : Kx) (X : Cx) (E : XK) (es : List Expr) (m : DEnv → M (List D)) : Prop := PA X es (dA k X.K E m)
abbrev JS (k : Kx) (X : Cx) (E : XK) (st : Stmt) (m : DEnv → M Out) : Prop := PS X st (dS k X.K E m)
abbrev JB (k : Kx) (X : Cx) (E : XK) (st : List Stmt) (m : DEnv → M Out) : Prop := PSs X st (dS k X.K E m)
abbrev JG (k : Kx) (X : Cx) (E : XK) (e : Expr) (ts : List Nat) (g : D → DEnv → M DEnv) : Prop := PG X e (dG k X.K E ts g)
section
variable {X : Cx}
theorem PE.imp {e : Expr} {t t' : TE} (h : PE X e t) (q : ∀ s H Q, t' s H Q → t s H Q) : PE X e t' := ⟨fun pins s σ H Q I hw => h.run pins s σ H Q I (q _ _ _ hw)⟩
theorem PT.imp {e : Expr} {t t' : TT} (h : PT X e t) (q : ∀ s H Q, t' s H Q → t s H Q) : PT X e t' := ⟨fun pins s σ H Q I hw => h.run pins s σ H Q I (q _ _ _ hw)⟩
theorem PW.imp {e : Expr} {t t' : TT} (h : PW X e t) (q : ∀ s H Q, t' s H Q → t s H Q) : PW X e t' := ⟨fun wh pins s σ H Q I hw => h.run wh pins s σ H Q I (q _ _ _ hw)⟩
theorem PA.imp {e : List Expr} {t t' : TA} (h : PA X e t) (q : ∀ s H Q, t' s H Q → t s H Q) : PA X e t' := ⟨fun pos pins s σ H Q I hw => h.run pos pins s σ H Q I (q _ _ _ hw)⟩
theorem PS.imp {e : Stmt} {t t' : TS} (h : PS X e t) (q : ∀ D s H, t' D s H → t D s H) : PS X e t' := ⟨fun pins s σ H D I hw => h.run pins s σ H D I (q _ _ _ hw)⟩
theorem PSs.imp {e : List Stmt} {t t' : TS} (h : PSs X e t) (q : ∀ D s H, t' D s H → t D s H) : PSs X e t' := ⟨fun pins s σ H D I hw => h.run pins s σ H D I (q _ _ _ hw)⟩
theorem PG.imp {e : Expr} {t t' : TG} (h : PG X e t) (q : ∀ v s H Q, t' v s H Q → t v s H Q) : PG X e t' := ⟨fun pins s σ H x u Q I r hw => h.run pins s σ H x u Q I r (q _ _ _ _ hw)⟩
end
end DL
namespace DL
open PySem L2
section
variable {k : Kx} {K : PySem.W.Frag} {G H : Hp} {L : Lam} {m : Store}
theorem Same.new {H : Hp} {p : Addr} {o : HO} (h : H p = none) : Same H (upd H p o) := fun b u e => by
  rw [upd_ne (ne_of_none e h)]
  exact e
theorem nt_upd {H : Hp} {a x : Addr} {o : HO} (n : NT o) (h : ∃ u, H x = some u ∧ NT u) : ∃ u, upd H a o x = some u ∧ NT u := by
  by_cases e : x = a
  · subst e
    exact ⟨o, upd_same, n⟩
  · rw [upd_ne e]
    exact h
theorem nt_keep {H : Hp} {a x : Addr} {o : HO} (hn : H a = none) (h : ∃ u, H x = some u ∧ NT u) : ∃ u, upd H a o x = some u ∧ NT u := by
  obtain ⟨u, e, n⟩ := h
  rw [upd_ne (ne_of_none e hn)]
  exact ⟨u, e, n⟩
theorem gt_upd {G : Hp} {p : Addr} {o : HO} (n : NT o) (g : ∀ a o, G a = some o → NT o) : ∀ a u, upd G p o a = some u → NT u := fun a u e => by
  by_cases h : a = p
  · subst h
    rw [upd_same] at e
    cases e
    exact n
  · rw [upd_ne h] at e
    exact g a u e
theorem bare_upd {H : Hp} {p : Addr} {o : HO} (h : Bare H p) {a : Addr} (e : Bare (upd H p o) a) : Bare H a := by
  by_cases ha : a = p
  · subst ha
    exact h
  · intro u q
    exact e u (by rw [upd_ne ha]; exact q)
theorem Wd.gnone (w : Wd k K G H L m) {p : Addr} (h : H p = none) : G p = none := by
  cases e : G p with
  | none => rfl
  | some o =>
    rw [w.ext p o e] at h
    cases h
theorem CellR.addr {a b : Addr} {c : Cell} (r : CellR k K G H L a b c) : (∃ o, H a = some o) ∧ ∃ o, H b = some o := by
  cases c with
  | lst ds =>
    obtain ⟨rfl, vs, h, _⟩ := r
    exact ⟨⟨_, h⟩, ⟨_, h⟩⟩
  | dct ks ds =>
    obtain ⟨rfl, vs, h, _⟩ := r
    exact ⟨⟨_, h⟩, ⟨_, h⟩⟩
  | ins c ss =>
    obtain ⟨vs, h, _, ⟨ob, hb, _⟩, _⟩ := r
    refine ⟨?_, ⟨ob, hb⟩⟩
    rcases h with ⟨h1, _⟩ | ⟨h1, _⟩
    · exact ⟨_, h1⟩
    · exact ⟨_, h1⟩
/-- H and G may grow where the cell does not look -/
theorem CellR.step {G' H' : Hp} {L' : Lam} {a b : Addr} {c : Cell} (r : CellR k K G H L a b c) (g : Same G G') (l : L <+: L') (ha : H' a = H a) (hb : H' b = H b) : CellR k K G' H' L' a b c := by
  cases c with
  | lst ds =>
    obtain ⟨rfl, vs, h, q⟩ := r
    exact ⟨rfl, vs, by rw [ha]; exact h, RpA.mono g l _ _ q⟩
  | dct ks ds =>
    obtain ⟨rfl, vs, h, hl, q⟩ := r
    exact ⟨rfl, vs, by rw [ha]; exact h, hl, RpA.mono g l _ _ q⟩
  | ins c ss =>
    obtain ⟨vs, h, q, ⟨o, ho, nc⟩, ne⟩ := r
    refine ⟨vs, ?_, ⟨q.1, fun i d e => let ⟨v, x, y⟩ := q.2 i d e; ⟨v, x, Rp.mono g l _ _ y⟩⟩, ⟨o, by rw [hb]; exact ho, nc⟩, ne⟩
    rcases h with ⟨h1, h2⟩ | ⟨h1, h2⟩
    · exact .inl ⟨by rw [ha]; exact h1, h2⟩
    · exact .inr ⟨by rw [ha]; exact h1, by rw [hb]; exact h2⟩
/-- a new object, into the data -/
theorem Wd.new (w : Wd k K G H L m) {p : Addr} {o : HO} (h : H p = none) (no : NT o := by exact fun _ e => (by cases e)) : Wd k K (upd G p o) (upd H p o) L m where
  ext := fun b u e => by
    by_cases hb : b = p
    · subst hb
      rw [upd_same] at e ⊢
      exact e
    · rw [upd_ne hb] at e ⊢
      exact w.ext b u e
  len := w.len
  tk := fun q hq => ⟨nt_upd no (w.tk q hq).1, nt_upd no (w.tk q hq).2⟩
  tab := tabs_upd w.tab (nc_none h)
  gt := gt_upd no w.gt
  cell := fun n c e => by
    obtain ⟨a, b, hl, ga, gb, r⟩ := w.cell n c e
    obtain ⟨⟨oa, ha⟩, ⟨ob, hb⟩⟩ := r.addr
    have na := ne_of_none ha h
    have nb := ne_of_none hb h
    exact ⟨a, b, hl, by rw [upd_ne na]; exact ga, by rw [upd_ne nb]; exact gb, r.step (Same.new (w.gnone h)) (pre_refl L) (upd_ne na) (upd_ne nb)⟩
  apart := w.apart
/-- a new object, not of the data -/
theorem Wd.junk (w : Wd k K G H L m) {p : Addr} {o : HO} (h : H p = none) : Wd k K G (upd H p o) L m where
  ext := fun b u e => by
    have q := w.ext b u e
    rw [upd_ne (ne_of_none q h)]
    exact q
  len := w.len
  tk := fun q hq => ⟨nt_keep h (w.tk q hq).1, nt_keep h (w.tk q hq).2⟩
  tab := tabs_upd w.tab (nc_none h)
  gt := w.gt
  cell := fun n c e => by
    obtain ⟨a, b, hl, ga, gb, r⟩ := w.cell n c e
    obtain ⟨⟨oa, ha⟩, ⟨ob, hb⟩⟩ := r.addr
    exact ⟨a, b, hl, ga, gb, r.step (Same.refl G) (pre_refl L) (upd_ne (ne_of_none ha h)) (upd_ne (ne_of_none hb h))⟩
  apart := w.apart
theorem live_app {m : Store} {c : Option Cell} {i : Nat} (h : Live (m ++ [c]) i) : Live m i ∨ i = m.length := by
  obtain ⟨x, hx⟩ := h
  by_cases hi : i < m.length
  · exact .inl ⟨x, by rw [List.getElem?_append_left hi] at hx; exact hx⟩
  · right
    have h1 := (List.getElem?_eq_some_iff.mp hx).1
    simp at h1
    omega
theorem live_lt {m : Store} {i : Nat} (h : Live m i) : i < m.length := by
  obtain ⟨c, e⟩ := h
  exact (List.getElem?_eq_some_iff.mp e).1
/-- a new mutable list -/
theorem Wd.newLoc (w : Wd k K G H L m) {p : Addr} {vs : List V} {ds : List D} (h : H p = none) (r : RpA k K G L vs ds) : Wd k K G (upd H p (.lst vs)) (L ++ [(p, p)]) (m ++ [some (.lst ds)]) where
  ext := (w.junk h).ext
  len := by simp [w.len]
  tk := fun q hq => by
    rcases List.mem_append.mp hq with z | z
    · exact ⟨nt_keep h (w.tk q z).1, nt_keep h (w.tk q z).2⟩
    · simp at z
      subst z
      exact ⟨⟨_, upd_same, (nc_lst vs).1⟩, ⟨_, upd_same, (nc_lst vs).1⟩⟩
  tab := tabs_upd w.tab (nc_none h)
  gt := w.gt
  cell := fun n c e => by
    by_cases hn : n < m.length
    · rw [List.getElem?_append_left hn] at e
      obtain ⟨a, b, hl, ga, gb, r'⟩ := w.cell n c e
      obtain ⟨⟨oa, ha⟩, ⟨ob, hb⟩⟩ := r'.addr
      exact ⟨a, b, pre_get (List.prefix_append _ _) hl, ga, gb, r'.step (Same.refl G) (List.prefix_append _ _) (upd_ne (ne_of_none ha h)) (upd_ne (ne_of_none hb h))⟩
    · have h1 := (List.getElem?_eq_some_iff.mp e).1
      simp at h1
      have e0 : n = m.length := by omega
      subst e0
      simp at e
      subst e
      exact ⟨p, p, by rw [← w.len]; simp, w.gnone h, w.gnone h, rfl, vs, upd_same, RpA.mono (Same.refl G) (List.prefix_append _ _) _ _ r⟩
  apart := fun i j a b a' b' li lj ne ha hb => by
    have old : ∀ {i : Nat} {a b : Addr}, Live m i → (L ++ [(p, p)])[i]? = some (a, b) → a ≠ p ∧ b ≠ p ∧ L[i]? = some (a, b) := fun {i a b} li ha => by
      have hlt : i < L.length := by rw [w.len]; exact live_lt li
      rw [List.getElem?_append_left hlt] at ha
      obtain ⟨c, hc⟩ := li
      obtain ⟨a0, b0, hl, _, _, r'⟩ := w.cell i c hc
      rw [hl] at ha
      cases ha
      obtain ⟨⟨oa, ha⟩, ⟨ob, hb⟩⟩ := r'.addr
      exact ⟨ne_of_none ha h, ne_of_none hb h, hl⟩
    have new : ∀ {a b : Addr}, (L ++ [(p, p)])[m.length]? = some (a, b) → a = p ∧ b = p := fun {a b} ha => by
      rw [← w.len] at ha
      simp at ha
      exact ⟨ha.1.symm, ha.2.symm⟩
    rcases live_app li with li | e1
    · obtain ⟨n1, n2, q1⟩ := old li ha
      rcases live_app lj with lj | e2
      · obtain ⟨n3, n4, q2⟩ := old lj hb
        exact w.apart i j a b a' b' li lj ne q1 q2
      · subst e2
        obtain ⟨rfl, rfl⟩ := new hb
        exact ⟨n1, n1, n2, n2⟩
    · subst e1
      obtain ⟨rfl, rfl⟩ := new ha
      rcases live_app lj with lj | e2
      · obtain ⟨n3, n4, q2⟩ := old lj hb
        exact ⟨n3.symm, n4.symm, n3.symm, n4.symm⟩
      · exact absurd e2.symm ne
theorem live_set {m : Store} {n : Nat} {c c' : Cell} {i : Nat} (hn : m[n]? = some (some c)) (h : Live (m.set n (some c')) i) : Live m i := by
  obtain ⟨x, hx⟩ := h
  by_cases e : n = i
  · subst e
    exact ⟨c, hn⟩
  · rw [List.getElem?_set_ne e] at hx
    exact ⟨x, hx⟩
/-- a mutable list changed -/
theorem Wd.setLoc (w : Wd k K G H L m) {n : Nat} {a b : Addr} {ds' : List D} {vs : List V} {ds : List D} (hn : m[n]? = some (some (.lst ds'))) (hl : L[n]? = some (a, b)) (r : RpA k K G L vs ds) : Wd k K G (upd H a (.lst vs)) L (m.set n (some (.lst ds))) := by
  obtain ⟨a0, b0, hl0, ga, gb, r0⟩ := w.cell n _ hn
  rw [hl] at hl0
  cases hl0
  obtain ⟨rfl, vs0, h0, _⟩ := id r0
  refine ⟨fun c u e => ?_, by rw [List.length_set]; exact w.len, fun q hq => ⟨nt_upd (nc_lst vs).1 (w.tk q hq).1, nt_upd (nc_lst vs).1 (w.tk q hq).2⟩, tabs_upd w.tab (nc_at h0 (nc_lst vs0)), w.gt, fun i c e => ?_, fun i j a b a' b' li lj => w.apart i j a b a' b' (live_set hn li) (live_set hn lj)⟩
  · have : c ≠ b := fun z => by
      rw [z, ga] at e
      cases e
    rw [upd_ne this]
    exact w.ext c u e
  · by_cases hi : n = i
    · subst hi
      rw [List.getElem?_set_self (List.getElem?_eq_some_iff.mp hn).1] at e
      cases e
      exact ⟨b, b, hl, ga, ga, rfl, vs, upd_same, r⟩
    · rw [List.getElem?_set_ne hi] at e
      obtain ⟨a', b', hl', ga', gb', r'⟩ := w.cell i c e
      obtain ⟨n1, n2, n3, n4⟩ := w.apart i n a' b' b b ⟨c, e⟩ ⟨_, hn⟩ (Ne.symm hi) hl' hl
      exact ⟨a', b', hl', ga', gb', r'.step (Same.refl G) (pre_refl L) (upd_ne n1) (upd_ne n3)⟩
theorem Wd.look (w : Wd k K G H L m) {n : Nat} {ds : List D} (hn : m[n]? = some (some (.lst ds))) {v : V} (r : Rp k K G L v (.loc n)) : ∃ a vs, v = .ref a ∧ L[n]? = some (a, a) ∧ G a = none ∧ H a = some (.lst vs) ∧ RpA k K G L vs ds := by
  obtain ⟨a0, b0, hl0, ga, gb, rfl, vs, h, q⟩ := w.cell n _ hn
  cases r with
  | loc hl =>
    rw [hl] at hl0
    cases hl0
    exact ⟨_, vs, rfl, hl, ga, h, q⟩
/-- dead cells: nothing is asked of them -/
theorem live_kill {m : Store} {n i : Nat} (h : Live (m.set n none) i) : Live m i ∧ i ≠ n := by
  obtain ⟨x, hx⟩ := h
  by_cases e : n = i
  · subst e
    by_cases hn : n < m.length
    · rw [List.getElem?_set_self hn] at hx
      cases hx
    · rw [List.getElem?_eq_none (by simpa using hn)] at hx
      cases hx
  · rw [List.getElem?_set_ne e] at hx
    exact ⟨⟨x, hx⟩, Ne.symm e⟩
/-- a fresh instance -/
theorem Wd.newIns (w : Wd k K G H L m) {x dx : Addr} {c : Nat} (hx : H x = none) (hd : H dx = none) (ne : dx ≠ x) :
    Wd k K G (upd (upd H dx (.own x)) x (.ins (k.cl c) dx [])) (L ++ [(x, dx)]) (m ++ [some (.ins c [])]) := by
  have w1 : Wd k K G (upd (upd H dx (.own x)) x (.ins (k.cl c) dx [])) L m := (w.junk (o := .own x) hd).junk (p := x) (o := .ins (k.cl c) dx []) (by rw [upd_ne ne.symm]; exact hx)
  have old : ∀ {i : Nat} {a b : Addr}, Live m i → (L ++ [(x, dx)])[i]? = some (a, b) → (a ≠ x ∧ a ≠ dx ∧ b ≠ x ∧ b ≠ dx) ∧ L[i]? = some (a, b) := fun {i a b} li ha => by
    have hlt : i < L.length := by rw [w.len]; exact live_lt li
    rw [List.getElem?_append_left hlt] at ha
    obtain ⟨c, hc⟩ := li
    obtain ⟨a0, b0, hl, _, _, r'⟩ := w.cell i c hc
    rw [hl] at ha
    cases ha
    obtain ⟨⟨oa, ha⟩, ⟨ob, hb⟩⟩ := r'.addr
    exact ⟨⟨ne_of_none ha hx, ne_of_none ha hd, ne_of_none hb hx, ne_of_none hb hd⟩, hl⟩
  have new : ∀ {a b : Addr}, (L ++ [(x, dx)])[m.length]? = some (a, b) → a = x ∧ b = dx := fun {a b} ha => by
    rw [← w.len] at ha
    simp at ha
    exact ⟨ha.1.symm, ha.2.symm⟩
  refine ⟨w1.ext, by simp [w.len], fun q hq => ?_, w1.tab, w.gt, fun n c' e => ?_, fun i j a b a' b' li lj nij ha hb => ?_⟩
  · rcases List.mem_append.mp hq with z | z
    · exact w1.tk q z
    · simp at z
      subst z
      exact ⟨⟨_, upd_same, (nc_ins _ _ _).1⟩, ⟨.own x, by rw [upd_ne ne, upd_same], (nc_own x).1⟩⟩
  · by_cases hn : n < m.length
    · rw [List.getElem?_append_left hn] at e
      obtain ⟨a, b, hl, ga, gb, r'⟩ := w1.cell n c' e
      exact ⟨a, b, pre_get (List.prefix_append _ _) hl, ga, gb, r'.step (Same.refl G) (List.prefix_append _ _) rfl rfl⟩
    · have h1 := (List.getElem?_eq_some_iff.mp e).1
      simp at h1
      have e0 : n = m.length := by omega
      subst e0
      simp at e
      subst e
      exact ⟨x, dx, by rw [← w.len]; simp, w.gnone hx, w.gnone hd, [], .inl ⟨upd_same, rfl⟩, ⟨rfl, fun i d e => by simp at e⟩, ⟨.own x, by rw [upd_ne ne, upd_same], nc_own x⟩, ne.symm⟩
  · rcases live_app li with li | e1
    · obtain ⟨⟨n1, n2, n3, n4⟩, q1⟩ := old li ha
      rcases live_app lj with lj | e2
      · obtain ⟨_, q2⟩ := old lj hb
        exact w.apart i j a b a' b' li lj nij q1 q2
      · subst e2
        obtain ⟨rfl, rfl⟩ := new hb
        exact ⟨n1, n2, n3, n4⟩
    · subst e1
      obtain ⟨rfl, rfl⟩ := new ha
      rcases live_app lj with lj | e2
      · obtain ⟨⟨n1, n2, n3, n4⟩, q2⟩ := old lj hb
        exact ⟨n1.symm, n3.symm, n2.symm, n4.symm⟩
      · exact absurd e2.symm nij
theorem Wd.lookIns (w : Wd k K G H L m) {n c : Nat} {ss : List (Option D)} (hn : m[n]? = some (some (.ins c ss))) {v : V} (r : Rp k K G L v (.loc n)) :
    ∃ a dx vs, v = .ref a ∧ L[n]? = some (a, dx) ∧ G a = none ∧ G dx = none ∧ SlX.Slt H a (k.cl c) dx vs ∧ RpO k K G L vs ss ∧ dx ≠ a := by
  obtain ⟨a0, b0, hl0, ga, gb, vs, h, q, _, ne⟩ := w.cell n _ hn
  cases r with
  | loc hl =>
    rw [hl] at hl0
    cases hl0
    exact ⟨_, _, vs, rfl, hl, ga, gb, h, q, ne.symm⟩
def putD (i : Nat) (d : D) (ss : List (Option D)) : List (Option D) := (ss ++ List.replicate (i + 1 - ss.length) none).set i (some d)
theorem RpO.put {vs : List (Option V)} {ss : List (Option D)} {v : V} {d : D} (h : RpO k K G L vs ss) (i : Nat) (r : Rp k K G L v d) : RpO k K G L (SlX.putS i v vs) (putD i d ss) := by
  refine ⟨?_, fun j d' e => ?_⟩
  · unfold SlX.putS putD
    simp [h.1]
  · unfold putD at e
    by_cases hj : i = j
    · subst hj
      rw [List.getElem?_set_self (by simp only [List.length_append, List.length_replicate]; omega)] at e
      cases e
      exact ⟨v, SlX.putS_get i v vs, r⟩
    · rw [List.getElem?_set_ne hj] at e
      have e' : ss[j]? = some (some d') := by
        by_cases hl : j < ss.length
        · rw [List.getElem?_append_left hl] at e
          exact e
        · rw [List.getElem?_append_right (by omega), List.getElem?_replicate] at e
          split at e <;> cases e
      obtain ⟨v', a, b⟩ := h.2 j d' e'
      exact ⟨v', (SlX.putS_ne (Ne.symm hj)).mpr a, b⟩
/-- a slot stored -/
theorem Wd.setIns (w : Wd k K G H L m) {n c : Nat} {ss : List (Option D)} {a dx : Addr} {vs : List (Option V)} {v : V} {d : D} (i : Nat) (hn : m[n]? = some (some (.ins c ss))) (hl : L[n]? = some (a, dx)) (q : RpO k K G L vs ss) (ne : dx ≠ a) (r : Rp k K G L v d) :
    Wd k K G (SlX.slH H a (k.cl c) dx (SlX.putS i v vs)) L (m.set n (some (.ins c (putD i d ss)))) := by
  obtain ⟨a0, b0, hl0, ga, gb, r0⟩ := w.cell n _ hn
  rw [hl] at hl0
  cases hl0
  have hca : ∃ o, H a = some o ∧ NC o := by
    obtain ⟨vs0, hs0, _, _, _⟩ := r0
    rcases hs0 with ⟨h1, _⟩ | ⟨h1, _⟩
    · exact ⟨_, h1, nc_ins _ _ _⟩
    · exact ⟨_, h1, nc_slO _ _ _ _⟩
  have hcb : ∃ o, H dx = some o ∧ NC o := by
    obtain ⟨_, _, _, hb, _⟩ := r0
    exact hb
  have t2 : ∀ u, H dx = some u → NC u := by
    obtain ⟨o, h1, h2⟩ := hcb
    exact nc_at h1 h2
  have t1 : ∀ u, upd H dx (.xd []) a = some u → NC u := by
    obtain ⟨o, h1, h2⟩ := hca
    rw [upd_ne (Ne.symm ne)]
    exact nc_at h1 h2
  refine ⟨fun x u e => ?_, by rw [List.length_set]; exact w.len, fun q hq => ⟨nt_upd (nc_slO _ _ _ _).1 (nt_upd (nc_xd []).1 (w.tk q hq).1), nt_upd (nc_slO _ _ _ _).1 (nt_upd (nc_xd []).1 (w.tk q hq).2)⟩, tabs_upd (tabs_upd w.tab t2) t1, w.gt, fun j c' e => ?_, fun i j a b a' b' li lj => w.apart i j a b a' b' (live_set hn li) (live_set hn lj)⟩
  · have n1 : x ≠ a := fun z => by
      rw [z, ga] at e
      cases e
    have n2 : x ≠ dx := fun z => by
      rw [z, gb] at e
      cases e
    rw [SlX.slH_ne n1 n2]
    exact w.ext x u e
  · by_cases hj : n = j
    · subst hj
      rw [List.getElem?_set_self (List.getElem?_eq_some_iff.mp hn).1] at e
      cases e
      exact ⟨a, dx, hl, ga, gb, _, SlX.slH_slt ne, q.put i r, ⟨.xd [], by unfold SlX.slH; rw [upd_ne ne, upd_same], nc_xd []⟩, ne.symm⟩
    · rw [List.getElem?_set_ne hj] at e
      obtain ⟨a', b', hl', ga', gb', r'⟩ := w.cell j c' e
      obtain ⟨n1, n2, n3, n4⟩ := w.apart j n a' b' a dx ⟨c', e⟩ ⟨_, hn⟩ (Ne.symm hj) hl' hl
      exact ⟨a', b', hl', ga', gb', r'.step (Same.refl G) (pre_refl L) (SlX.slH_ne n1 n2) (SlX.slH_ne n3 n4)⟩
theorem rpA_of_rpO : ∀ {vs : List (Option V)} {ds : List D}, RpO k K G L vs (ds.map some) → ∃ ws, vs = ws.map some ∧ RpA k K G L ws ds
  | [], [], _ => ⟨[], rfl, .nil⟩
  | _ :: _, [], h => by simp [RpO] at h
  | [], _ :: _, h => by simp [RpO] at h
  | o :: vs, d :: ds, h => by
    obtain ⟨v, e, r⟩ := h.2 0 d (by simp)
    simp at e
    subst e
    obtain ⟨ws, rfl, q⟩ := rpA_of_rpO (vs := vs) (ds := ds) ⟨by simpa using h.1, fun i d' e => by
      obtain ⟨v', a, b⟩ := h.2 (i + 1) d' (by simpa using e)
      exact ⟨v', by simpa using a, b⟩⟩
    exact ⟨v :: ws, rfl, .cons r q⟩
/-- an instance becomes data -/
theorem Wd.freezeIns (w : Wd k K G H L m) {n c : Nat} {ds : List D} {v : V} (hn : m[n]? = some (some (.ins c (ds.map some)))) (r : Rp k K G L v (.loc n)) :
    ∃ G', Stp G H L G' H L ∧ Wd k K G' H L (m.set n none) ∧ Rp k K G' L v (.obj c ds) := by
  obtain ⟨a, dx, vs, rfl, hl, ga, gb, hs, q, ne⟩ := w.lookIns hn r
  obtain ⟨ws, rfl, qa⟩ := rpA_of_rpO q
  -- the objects at a and dx go into the data
  have key : ∃ oa od, H a = some oa ∧ H dx = some od ∧ NT oa ∧ NT od ∧ ∀ G', G' a = some oa → G' dx = some od → SlX.Slt G' a (k.cl c) dx (ws.map some) := by
    rcases hs with ⟨h1, h2⟩ | ⟨h1, h2⟩
    · obtain ⟨a0, b0, hl0, _, _, _, _, _, ⟨od, hd, ncd⟩, _⟩ := w.cell n _ hn
      rw [hl] at hl0
      cases hl0
      exact ⟨_, od, h1, hd, (nc_ins _ _ _).1, ncd.1, fun G' q1 q2 => .inl ⟨q1, h2⟩⟩
    · exact ⟨_, _, h1, h2, (nc_slO _ _ _ _).1, (nc_xd []).1, fun G' q1 q2 => .inr ⟨q1, q2⟩⟩
  obtain ⟨oa, od, ha, hd, noa, nod, mk⟩ := key
  refine ⟨upd (upd G dx od) a oa, ?_, ⟨fun x u e => ?_, by rw [List.length_set]; exact w.len, w.tk, w.tab, gt_upd noa (gt_upd nod w.gt), fun i c' e => ?_, fun i j a b a' b' li lj => w.apart i j a b a' b' (live_kill li).1 (live_kill lj).1⟩, ?_⟩
  · exact ⟨fun x u e => by rw [upd_ne (ne_of_none e ga), upd_ne (ne_of_none e gb)]; exact e, pre_refl L, fun _ e => e, fun x u e _ q => ⟨e, fun z => by
      obtain ⟨n1, n2⟩ := q (a, dx) (List.mem_of_getElem? hl)
      rw [upd_ne n1, upd_ne n2]
      exact z⟩, fun p h => .inl h⟩
  · by_cases h1 : x = a
    · subst h1
      rw [upd_same] at e
      cases e
      exact ha
    · rw [upd_ne h1] at e
      by_cases h2 : x = dx
      · subst h2
        rw [upd_same] at e
        cases e
        exact hd
      · rw [upd_ne h2] at e
        exact w.ext x u e
  · have hni : n ≠ i := fun z => (live_kill ⟨c', e⟩).2 z.symm
    rw [List.getElem?_set_ne hni] at e
    obtain ⟨a', b', hl', ga', gb', r'⟩ := w.cell i c' e
    obtain ⟨n1, n2, n3, n4⟩ := w.apart i n a' b' a dx ⟨c', e⟩ ⟨_, hn⟩ (Ne.symm hni) hl' hl
    refine ⟨a', b', hl', by rw [upd_ne n1, upd_ne n2]; exact ga', by rw [upd_ne n3, upd_ne n4]; exact gb', r'.step (fun x u e => ?_) (pre_refl L) rfl rfl⟩
    rw [upd_ne (ne_of_none e ga), upd_ne (ne_of_none e gb)]
    exact e
  · exact .obj (mk _ upd_same (by rw [upd_ne ne, upd_same])) (RpA.mono (fun x u e => by rw [upd_ne (ne_of_none e ga), upd_ne (ne_of_none e gb)]; exact e) (pre_refl L) _ _ qa)
end
section
variable {k : Kx} {K : PySem.W.Frag} {G H : Hp} {L : Lam} {m : Store}
theorem Wd.newS (w : Wd k K G H L m) {p : Addr} {o : HO} (h : H p = none) : Stp G H L (upd G p o) (upd H p o) L where
  g := Same.new (w.gnone h)
  l := pre_refl L
  tr := fun a e => bare_upd (bare_none h) e
  keep := fun a u e _ _ => by
    have ne := ne_of_none e h
    rw [upd_ne ne, upd_ne ne]
    exact ⟨e, id⟩
  nl := fun p h => .inl h
theorem junkS {p : Addr} {o : HO} (h : H p = none) : Stp G H L G (upd H p o) L where
  g := Same.refl G
  l := pre_refl L
  tr := fun a e => bare_upd (bare_none h) e
  keep := fun a u e _ _ => by
    rw [upd_ne (ne_of_none e h)]
    exact ⟨e, id⟩
  nl := fun p h => .inl h
theorem newLocS {p : Addr} {o : HO} (h : H p = none) : Stp G H L G (upd H p o) (L ++ [(p, p)]) where
  g := Same.refl G
  l := List.prefix_append _ _
  tr := (junkS (G := G) (L := L) (o := o) h).tr
  keep := (junkS (G := G) (L := L) (o := o) h).keep
  nl := fun q hq => by
    rcases List.mem_append.mp hq with z | z
    · exact .inl z
    · simp at z
      subst z
      exact .inr ⟨bare_none h, bare_none h⟩
theorem bare_at {H : Hp} {a x : Addr} {o : HO} (no : NT o) (e : Bare (upd H a o) x) : Bare H x := by
  by_cases ha : x = a
  · subst ha
    exact absurd no (e o upd_same)
  · intro u q
    exact e u (by rw [upd_ne ha]; exact q)
theorem setLocS {n : Nat} {a b : Addr} {o o' : HO} (hl : L[n]? = some (a, b)) (h : H a = some o') (no : NT o := by exact fun _ e => (by cases e)) : Stp G H L G (upd H a o) L where
  g := Same.refl G
  l := pre_refl L
  tr := fun x e => bare_at no e
  keep := fun x u e _ q => by
    rw [upd_ne (q (a, b) (List.mem_of_getElem? hl)).1]
    exact ⟨e, id⟩
  nl := fun p h => .inl h
theorem newInsS {x dx : Addr} {o o' : HO} (hx : H x = none) (hd : H dx = none) (ne : dx ≠ x) : Stp G H L G (upd (upd H dx o) x o') (L ++ [(x, dx)]) where
  g := Same.refl G
  l := List.prefix_append _ _
  tr := fun a e => bare_upd (bare_none hd) (bare_upd (bare_none (by rw [upd_ne (Ne.symm ne)]; exact hx)) e)
  keep := fun a u e _ _ => by
    rw [upd_ne (ne_of_none e hx), upd_ne (ne_of_none e hd)]
    exact ⟨e, id⟩
  nl := fun q hq => by
    rcases List.mem_append.mp hq with z | z
    · exact .inl z
    · simp at z
      subst z
      exact .inr ⟨bare_none hx, bare_none hd⟩
theorem setInsS {n : Nat} {a dx C : Addr} {vs : List (Option V)} (hl : L[n]? = some (a, dx)) : Stp G H L G (SlX.slH H a C dx vs) L where
  g := Same.refl G
  l := pre_refl L
  tr := fun x e => bare_at (nc_xd []).1 (bare_at (nc_slO _ _ _ _).1 e)
  keep := fun x u e _ q => by
    obtain ⟨n1, n2⟩ := q (a, dx) (List.mem_of_getElem? hl)
    rw [SlX.slH_ne n1 n2]
    exact ⟨e, id⟩
  nl := fun p h => .inl h
end
end DL
namespace DL
open PySem L2
def getv (i : Nat) (e : DEnv) : M D := match e[i]? with
  | some (some d) => pure d
  | _ => M.bad
def eVar (i : Nat) : DEnv → M D := fun e => getv i e
def eC (d : D) : DEnv → M D := fun _ => pure d
def eOp (g : D → D → M D) (a b : DEnv → M D) : DEnv → M D := fun e => do let x ← a e; let y ← b e; g x y
def eUn (g : D → M D) (a : DEnv → M D) : DEnv → M D := fun e => do let x ← a e; g x
def asB : D → M Bool
  | .bl b => pure b
  | _ => M.bad
def eIf (t : DEnv → M Bool) (a b : DEnv → M D) : DEnv → M D := fun e => do let c ← t e; if c then a e else b e
def eAnd (a b : DEnv → M D) : DEnv → M D := fun e => do let x ← a e; let c ← asB x; if c then b e else pure (.bl false)
def eOr (a b : DEnv → M D) : DEnv → M D := fun e => do let x ← a e; let c ← asB x; if c then pure (.bl true) else b e
def eNot (a : DEnv → M D) : DEnv → M D := fun e => do let x ← a e; let c ← asB x; pure (.bl (!c))
def eChain (g g' : D → D → M D) (a b c : DEnv → M D) : DEnv → M D := fun e => do
  let x ← a e; let y ← b e; let z ← g x y; let k ← asB z
  if k then (do let w ← c e; g' y w) else pure (.bl false)
def tB' (a : DEnv → M D) : DEnv → M Bool := fun e => do let x ← a e; asB x
def tAndD (t u : DEnv → M Bool) : DEnv → M Bool := fun e => do let c ← t e; if c then u e else pure false
def tOrD (t u : DEnv → M Bool) : DEnv → M Bool := fun e => do let c ← t e; if c then pure true else u e
def tNotD (t : DEnv → M Bool) : DEnv → M Bool := fun e => do let c ← t e; pure (!c)
def aNil : DEnv → M (List D) := fun _ => pure []
def aCons (a : DEnv → M D) (r : DEnv → M (List D)) : DEnv → M (List D) := fun e => do let x ← a e; let xs ← r e; pure (x :: xs)
def eCallB (g : List D → M D) (as : DEnv → M (List D)) : DEnv → M D := fun e => do let xs ← as e; g xs
def mkL (ds : List D) : M D := if ds.length ≤ 100000 then pure (.lst ds) else M.bad
def mkT (ds : List D) : M D := if ds.length ≤ 100000 then pure (.tup ds) else M.bad
def newM (ds : List D) : M D := fun m => if ds.length ≤ 100000 then .ok (.loc m.length) (m ++ [some (.lst ds)]) else .bad
def eTup (as : DEnv → M (List D)) : DEnv → M D := fun e => do let xs ← as e; mkT xs
def eLst (as : DEnv → M (List D)) : DEnv → M D := fun e => do let xs ← as e; mkL xs
def eLstM (as : DEnv → M (List D)) : DEnv → M D := fun e => do let xs ← as e; newM xs
/-- the items of a list or tuple -/
def seqD (d : D) : M (List D) := fun m => match d with
  | .lst ds => .ok ds m
  | .tup ds => .ok ds m
  | .loc n => match m[n]? with
    | some (some (.lst ds)) => .ok ds m
    | _ => .bad
  | _ => .bad
section
variable (k : Kx) (K : PySem.W.Frag) (E : XK)
def QV (Q : VK) : D → Store → Hp → Hp → Lam → Prop := fun d _ G' H' L' => ∀ v, Rp k K G' L' v d → Q v H'
def OpD (r : R2) (g : D → D → M D) : Prop := ∀ x y dx dy G H L μ Q, Rp k K G L x dx → Rp k K G L y dy → Wd k K G H L μ → Good k K E G H L (g dx dy μ) (QV k K Q) → r x y H Q
def UnD (r : V → Hp → VK → Prop) (g : D → M D) : Prop := ∀ x dx G H L μ Q, Rp k K G L x dx → Wd k K G H L μ → Good k K E G H L (g dx μ) (QV k K Q) → r x H Q
def ClD (r : List V → Hp → VK → Prop) (g : List D → M D) : Prop := ∀ xs ds G H L μ Q, RpA k K G L xs ds → Wd k K G H L μ → Good k K E G H L (g ds μ) (QV k K Q) → r xs H Q
end
def BinD (k : Kx) (X : Cx) (E : XK) (f : Value → Value → Sem Value) (g : D → D → M D) : Prop := ∃ r, OpR X f r ∧ OpD k X.K E r g
def FunD (k : Kx) (X : Cx) (E : XK) (f : Value) (g : List D → M D) : Prop := ∃ r, CallR X f r ∧ ClD k X.K E r g
def MonD (k : Kx) (X : Cx) (E : XK) (f : Value → Sem Value) (g : D → M D) : Prop := ∃ r, UnR X f r ∧ UnD k X.K E r g
section
variable {k : Kx} {X : Cx} {E : XK} {a b c : Expr} {ma mb mc : DEnv → M D} {pos : Pos}
/-- two parts, then an operation -/
theorem dE_op {r : R2} {g : D → D → M D} (hg : OpD k X.K E r g) {s : L2.St} {H : Hp} {Q : VK} (h : dE k X.K E (eOp g ma mb) s H Q) : tOp r (dE k X.K E ma) (dE k X.K E mb) s H Q := by
  obtain ⟨e, G, L, μ, sg, w, gd⟩ := h
  refine ⟨e, G, L, μ, sg, w, Good.mono (Good.bind gd) fun d1 m1 G1 H1 L1 st1 w1 q1 x r1 => ?_⟩
  refine ⟨e, G1, L1, m1, sg.mono st1.g st1.l, w1, Good.mono (Good.bind q1) fun d2 m2 G2 H2 L2 st2 w2 q2 y r2 => ?_⟩
  exact hg x y d1 d2 G2 H2 L2 m2 Q (Rp.mono st2.g st2.l _ _ r1) r2 w2 q2
theorem dE_val {d : D} {s : L2.St} {H : Hp} {Q : VK} (h : dE k X.K E (eC d) s H Q) {v : V} (r : ∀ G L, Rp k X.K G L v d) : Q v H := by
  obtain ⟨e, G, L, μ, sg, w, g⟩ := h
  exact Good.ret g w v (r G L)
theorem j_var (i : Nat) {x : Str} (hN : X.N[i]? = some x := by rfl) (hv : Vis X.env.scope x := by first | exact Or.inl rfl | exact Or.inr (Or.inl rfl) | exact Or.inr (Or.inr rfl)) (hd : (x == ("__debug__" : Str)) = false := by decide)
    (hcd : (x == ("__classdict__" : Str)) = false := by decide) : JE k X E (.Name x pos) (eVar i) := by
  refine PE.imp (pe_var hN hv hd hcd) fun s H Q h => ?_
  obtain ⟨e, G, L, μ, sg, w, g⟩ := h
  unfold eVar getv at g
  cases he : e[i]? with
  | none =>
    simp only [he] at g
    exact False.elim g
  | some o =>
    cases o with
    | none =>
      simp only [he] at g
      exact False.elim g
    | some d =>
      simp only [he] at g
      obtain ⟨v, hv, r⟩ := sg.2 i d he
      exact ⟨v, hv, Good.ret g w v r⟩
theorem j_int {i : Int} {j} : JE k X E (.Constant (.int i) j pos) (eC (.int i)) := PE.imp pe_int fun s H Q h => dE_val h fun _ _ => .int i
theorem j_bl {i : Bool} {j} : JE k X E (.Constant (.bool i) j pos) (eC (.bl i)) := PE.imp pe_bl fun s H Q h => dE_val h fun _ _ => .bl i
theorem j_glob {x : Str} {v : V} {u : Value} {d : D} (hg : Gl X x) (hm : X.mg x = some u) (r : RelV v u) (hr : ∀ G L, Rp k X.K G L v d) (hd : (x == ("__debug__" : Str)) = false := by decide) : JE k X E (.Name x pos) (eC d) :=
  PE.imp (pe_glob hg hm r hd) fun s H Q h => dE_val h hr
theorem j_op {op : Operator} {g : D → D → M D} (ho : BinD k X E (binaryOp op) g) (ha : JE k X E a ma) (hb : JE k X E b mb) : JE k X E (.BinOp a op b pos) (eOp g ma mb) := by
  obtain ⟨r, h1, h2⟩ := ho
  exact PE.imp (pe_op h1 ha hb) fun s H Q h => dE_op h2 h
theorem j_cmp {op : CmpOp} {g : D → D → M D} (ho : BinD k X E (compareOp op) g) (ha : JE k X E a ma) (hb : JE k X E b mb) (hm : behindInMarks op b = false) : JE k X E (.Compare a [op] [b] pos) (eOp g ma mb) := by
  obtain ⟨r, h1, h2⟩ := ho
  exact PE.imp (pe_cmpR h1 ha hb hm) fun s H Q h => dE_op h2 h
theorem j_un {op : UnaryOp} {g : D → M D} (ho : MonD k X E (unaryOp op) g) (ha : JE k X E a ma) : JE k X E (.UnaryOp op a pos) (eUn g ma) := by
  obtain ⟨r, h1, h2⟩ := ho
  refine PE.imp (pe_un h1 ha) fun s H Q h => ?_
  obtain ⟨e, G, L, μ, sg, w, gd⟩ := h
  refine ⟨e, G, L, μ, sg, w, Good.mono (Good.bind gd) fun d1 m1 G1 H1 L1 st1 w1 q1 x r1 => ?_⟩
  exact h2 x d1 G1 H1 L1 m1 Q r1 w1 q1
theorem asB_good {β : Type} {d : D} {f : Bool → M β} {G H : Hp} {L : Lam} {μ : Store} {Q : β → Store → Hp → Hp → Lam → Prop} {v : V} (r : Rp k X.K G L v d) (g : Good k X.K E G H L ((asB d >>= f) μ) Q) : ∃ b, v = .bl b ∧ d = .bl b ∧ Good k X.K E G H L (f b μ) Q := by
  cases d with
  | bl b =>
    cases r
    exact ⟨b, rfl, rfl, g⟩
  | _ => exact False.elim g
variable {rest : List Expr}
theorem j_one {op} (h : JE k X E a ma) : JE k X E (.BoolOp op [a] pos) ma := pe_one h
theorem j_and (ha : JE k X E a ma) (hb : JE k X E (.BoolOp .And (b :: rest) pos) mb) : JE k X E (.BoolOp .And (a :: b :: rest) pos) (eAnd ma mb) := by
  refine PE.imp (pe_and ha hb) fun s H Q h => ?_
  obtain ⟨e, G, L, μ, sg, w, gd⟩ := h
  refine ⟨e, G, L, μ, sg, w, Good.mono (Good.bind gd) fun d m1 G1 H1 L1 st1 w1 q1 v r => ?_⟩
  obtain ⟨c, rfl, rfl, q⟩ := asB_good r q1
  refine ⟨c, rfl, ?_⟩
  cases c with
  | true => exact ⟨e, G1, L1, m1, sg.mono st1.g st1.l, w1, q⟩
  | false => exact Good.ret q w1 _ (.bl false)
theorem j_not (ha : JE k X E a ma) : JE k X E (.UnaryOp .Not a pos) (eNot ma) := by
  refine PE.imp (pe_not ha) fun s H Q h => ?_
  obtain ⟨e, G, L, μ, sg, w, gd⟩ := h
  refine ⟨e, G, L, μ, sg, w, Good.mono (Good.bind gd) fun d m1 G1 H1 L1 st1 w1 q1 v r => ?_⟩
  obtain ⟨c, rfl, rfl, q⟩ := asB_good r q1
  exact ⟨c, rfl, Good.ret q w1 _ (.bl _)⟩
theorem dE_chain {r r' : R2} {g g' : D → D → M D} (h1 : OpD k X.K E r g) (h2 : OpD k X.K E r' g') {s : L2.St} {H : Hp} {Q : VK} (h : dE k X.K E (eChain g g' ma mb mc) s H Q) : tChain r r' (dE k X.K E ma) (dE k X.K E mb) (dE k X.K E mc) s H Q := by
  obtain ⟨e, G, L, μ, sg, w, gd⟩ := h
  refine ⟨e, G, L, μ, sg, w, Good.mono (Good.bind gd) fun d1 m1 G1 H1 L1 st1 w1 q1 x r1 => ?_⟩
  refine ⟨e, G1, L1, m1, sg.mono st1.g st1.l, w1, Good.mono (Good.bind q1) fun d2 m2 G2 H2 L2 st2 w2 q2 y r2 => ?_⟩
  refine h1 x y d1 d2 G2 H2 L2 m2 _ (Rp.mono st2.g st2.l _ _ r1) r2 w2 (Good.mono (Good.bind q2) fun d3 m3 G3 H3 L3 st3 w3 q3 z r3 => ?_)
  obtain ⟨c, rfl, rfl, q⟩ := asB_good r3 q3
  refine ⟨c, rfl, ?_⟩
  cases c with
  | false => exact Good.ret q w3 _ (.bl false)
  | true =>
    refine ⟨e, G3, L3, m3, ((sg.mono st1.g st1.l).mono st2.g st2.l).mono st3.g st3.l, w3, Good.mono (Good.bind q) fun d4 m4 G4 H4 L4 st4 w4 q4 u r4 => ?_⟩
    exact h2 y u d2 d4 G4 H4 L4 m4 Q (Rp.mono st4.g st4.l _ _ (Rp.mono st3.g st3.l _ _ r2)) r4 w4 q4
theorem j_chain {op op' : CmpOp} {g g' : D → D → M D} (ho : BinD k X E (compareOp op) g) (ho' : BinD k X E (compareOp op') g') (ha : JE k X E a ma) (hb : JE k X E b mb) (hc : JE k X E c mc)
    (hm : lastMarks [op, op'] [b, c] = false := by with_unfolding_all rfl) : JE k X E (.Compare a [op, op'] [b, c] pos) (eChain g g' ma mb mc) := by
  obtain ⟨r, h1, h2⟩ := ho
  obtain ⟨r', h1', h2'⟩ := ho'
  exact PE.imp (pe_chain h1 h1' ha hb hc hm) fun s H Q h => dE_chain h2 h2' h
theorem dT_B {t : TE → TT} {te : TE} {s : L2.St} {H : Hp} {Q : Bool → Hp → Prop} {m : DEnv → M D} (h : dT k X.K E (tB' m) s H Q) : dE k X.K E m s H fun x H' => ∃ c, x = .bl c ∧ Q c H' := by
  obtain ⟨e, G, L, μ, sg, w, gd⟩ := h
  refine ⟨e, G, L, μ, sg, w, Good.mono (Good.bind gd) fun d m1 G1 H1 L1 st1 w1 q1 v r => ?_⟩
  obtain ⟨c, rfl, rfl, q⟩ := asB_good (f := fun b => (pure b : M Bool)) r (show Good k X.K E G1 H1 L1 ((asB d >>= fun b => (pure b : M Bool)) m1) _ by
    have e2 : (asB d >>= fun b => (pure b : M Bool)) m1 = asB d m1 := by
      cases d <;> rfl
    rw [e2]
    exact q1)
  exact ⟨c, rfl, Good.ret q w1⟩
theorem jt_val (h : JE k X E a ma) (he : ∀ whole, isTrue a X.env whole = (do let v ← whole; standAt a.pos; holding [v] (truthy v)) := by intro _; rfl) : JT k X E a (tB' ma) :=
  PT.imp (pt_val h he) fun s H Q h => dT_B (t := fun _ => tYes) (te := tC .non) h
theorem jt_cmp {op : CmpOp} {g : D → D → M D} (ho : BinD k X E (compareOp op) g) (ha : JE k X E a ma) (hb : JE k X E b mb) (hm : behindInMarks op b = false) : JT k X E (.Compare a [op] [b] pos) (tB' (eOp g ma mb)) := by
  obtain ⟨r, h1, h2⟩ := ho
  exact PT.imp (pt_cmpR h1 ha hb hm) fun s H Q h => dE_op h2 (dT_B (t := fun _ => tYes) (te := tC .non) h)
theorem size_of {n : Nat} (h : n ≤ 100000) : n ≤ sizeLine := Nat.le_trans h (by decide)
variable {t : Expr} {mt mu : DEnv → M Bool}
theorem jt_w (h : JW k X E t mt) : JT k X E t mt := h.pt
theorem jt_not (h : JT k X E t mt) : JT k X E (.UnaryOp .Not t pos) (tNotD mt) := by
  refine PT.imp (pt_not h) fun s H Q h => ?_
  obtain ⟨e, G, L, μ, sg, w, gd⟩ := h
  refine ⟨e, G, L, μ, sg, w, Good.mono (Good.bind gd) fun c m1 G1 H1 L1 st1 w1 q1 => ?_⟩
  exact Good.ret q1 w1
theorem jw_and1 (h : JT k X E t mt) : JW k X E (.BoolOp .And [t] pos) mt := pw_and1 h
theorem jw_or1 (h : JT k X E t mt) : JW k X E (.BoolOp .Or [t] pos) mt := pw_or1 h
theorem jw_and (h : JT k X E t mt) (hb : JW k X E (.BoolOp .And (b :: rest) pos) mu) : JW k X E (.BoolOp .And (t :: b :: rest) pos) (tAndD mt mu) := by
  refine PW.imp (pw_and h hb) fun s H Q h => ?_
  obtain ⟨e, G, L, μ, sg, w, gd⟩ := h
  refine ⟨e, G, L, μ, sg, w, Good.mono (Good.bind gd) fun c m1 G1 H1 L1 st1 w1 q1 => ?_⟩
  cases c with
  | true => exact ⟨e, G1, L1, m1, sg.mono st1.g st1.l, w1, q1⟩
  | false => exact Good.ret q1 w1
theorem jw_or (h : JT k X E t mt) (hb : JW k X E (.BoolOp .Or (b :: rest) pos) mu) : JW k X E (.BoolOp .Or (t :: b :: rest) pos) (tOrD mt mu) := by
  refine PW.imp (pw_or h hb) fun s H Q h => ?_
  obtain ⟨e, G, L, μ, sg, w, gd⟩ := h
  refine ⟨e, G, L, μ, sg, w, Good.mono (Good.bind gd) fun c m1 G1 H1 L1 st1 w1 q1 => ?_⟩
  cases c with
  | false => exact ⟨e, G1, L1, m1, sg.mono st1.g st1.l, w1, q1⟩
  | true => exact Good.ret q1 w1
variable {es : List Expr} {ms : DEnv → M (List D)}
theorem ja_nil : JA k X E [] aNil := by
  refine PA.imp pa_nil fun s H Q h => ?_
  obtain ⟨e, G, L, μ, sg, w, gd⟩ := h
  exact Good.ret gd w [] .nil
theorem ja_cons (ha : JE k X E a ma) (hr : JA k X E es ms) (hs : starEach (a :: es) X.env = (false, eval a X.env) :: starEach es X.env := by rfl) : JA k X E (a :: es) (aCons ma ms) := by
  refine PA.imp (pa_cons ha hr hs) fun s H Q h => ?_
  obtain ⟨e, G, L, μ, sg, w, gd⟩ := h
  refine ⟨e, G, L, μ, sg, w, Good.mono (Good.bind gd) fun d1 m1 G1 H1 L1 st1 w1 q1 x r1 => ?_⟩
  refine ⟨e, G1, L1, m1, sg.mono st1.g st1.l, w1, Good.mono (Good.bind q1) fun d2 m2 G2 H2 L2 st2 w2 q2 xs r2 => ?_⟩
  exact Good.ret q2 w2 _ (.cons (Rp.mono st2.g st2.l _ _ r1) r2)
theorem good_ite {α : Type} {c : Prop} [Decidable c] {x : M α} {G H : Hp} {L : Lam} {μ : Store} {Q : α → Store → Hp → Hp → Lam → Prop} (g : Good k X.K E G H L ((if c then x else M.bad) μ) Q) : c ∧ Good k X.K E G H L (x μ) Q := by
  by_cases h : c
  · rw [if_pos h] at g
    exact ⟨h, g⟩
  · rw [if_neg h] at g
    exact False.elim g
/-- a new list, as data -/
theorem good_mkL {G H : Hp} {L : Lam} {μ : Store} {Q : VK} {vs : List V} {ds : List D} (r : RpA k X.K G L vs ds) (w : Wd k X.K G H L μ) (g : Good k X.K E G H L (mkL ds μ) (QV k X.K Q)) :
    vs.length ≤ sizeLine ∧ ∀ p, H p = none → Q (.ref p) (upd H p (.lst vs)) := by
  obtain ⟨hz, g⟩ := good_ite g
  refine ⟨by rw [r.len]; exact size_of hz, fun p hp => ?_⟩
  exact g _ _ _ (w.newS hp) (w.new hp) _ (.lst (SqL.of upd_same) (RpA.mono (w.newS (o := .lst vs) hp).g (pre_refl L) _ _ r))
theorem good_mkT {G H : Hp} {L : Lam} {μ : Store} {Q : VK} {vs : List V} {ds : List D} (r : RpA k X.K G L vs ds) (w : Wd k X.K G H L μ) (g : Good k X.K E G H L (mkT ds μ) (QV k X.K Q)) :
    vs.length ≤ sizeLine ∧ ∀ p, H p = none → Q (.ref p) (upd H p (.tup vs)) := by
  obtain ⟨hz, g⟩ := good_ite g
  refine ⟨by rw [r.len]; exact size_of hz, fun p hp => ?_⟩
  exact g _ _ _ (w.newS hp) (w.new hp) _ (.tup (SqT.of upd_same) (RpA.mono (w.newS (o := .tup vs) hp).g (pre_refl L) _ _ r))
theorem good_newM {G H : Hp} {L : Lam} {μ : Store} {Q : VK} {vs : List V} {ds : List D} (r : RpA k X.K G L vs ds) (w : Wd k X.K G H L μ) (g : Good k X.K E G H L (newM ds μ) (QV k X.K Q)) :
    vs.length ≤ sizeLine ∧ ∀ p, H p = none → Q (.ref p) (upd H p (.lst vs)) := by
  unfold newM at g
  by_cases hz : ds.length ≤ 100000
  · rw [if_pos hz] at g
    refine ⟨by rw [r.len]; exact size_of hz, fun p hp => ?_⟩
    exact g _ _ _ (newLocS hp) (w.newLoc hp r) _ (.loc (a := p) (b := p) (by rw [← w.len]; simp))
  · rw [if_neg hz] at g
    exact False.elim g
theorem j_tup {x1} (h : JA k X E es ms) : JE k X E (.Tuple es x1 pos) (eTup ms) := by
  refine PE.imp (pe_tup h) fun s H Q h => ?_
  obtain ⟨e, G, L, μ, sg, w, gd⟩ := h
  exact ⟨e, G, L, μ, sg, w, Good.mono (Good.bind gd) fun d1 m1 G1 H1 L1 st1 w1 q1 x r1 => good_mkT r1 w1 q1⟩
theorem j_lst (h : JA k X E es ms) : JE k X E (.List es pos) (eLst ms) := by
  refine PE.imp (pe_lst h) fun s H Q h => ?_
  obtain ⟨e, G, L, μ, sg, w, gd⟩ := h
  exact ⟨e, G, L, μ, sg, w, Good.mono (Good.bind gd) fun d1 m1 G1 H1 L1 st1 w1 q1 x r1 => good_mkL r1 w1 q1⟩
theorem j_lstM (h : JA k X E es ms) : JE k X E (.List es pos) (eLstM ms) := by
  refine PE.imp (pe_lst h) fun s H Q h => ?_
  obtain ⟨e, G, L, μ, sg, w, gd⟩ := h
  exact ⟨e, G, L, μ, sg, w, Good.mono (Good.bind gd) fun d1 m1 G1 H1 L1 st1 w1 q1 x r1 => good_newM r1 w1 q1⟩
variable {x : Str} {p : Pos} {id T : String} {g : List D → M D}
theorem j_callB (hc : FunD k X E (.builtin id) g) (hg : Gl X x) (hm : X.mg x = none) (hv : bootBuiltins x = some (.builtin id)) (ha : JA k X E (a :: es) ms) (hn : x ≠ "__name__" := by decide) (hdb : (x == ("__debug__" : Str)) = false := by decide)
    (he : starEach (a :: es) X.env = (false, eval a X.env) :: starEach es X.env := by rfl) (hpl : (backTo pos (starEach es X.env)).any (·.1) = false := by rfl) : JE k X E (.Call (.Name x p) (a :: es) [] pos) (eCallB g ms) := by
  obtain ⟨r, h1, h2⟩ := hc
  refine PE.imp (pe_callB h1 hg hm hv ha hn hdb he hpl) fun s H Q h => ?_
  obtain ⟨e, G, L, μ, sg, w, gd⟩ := h
  exact ⟨e, G, L, μ, sg, w, Good.mono (Good.bind gd) fun d1 m1 G1 H1 L1 st1 w1 q1 x r1 => h2 x d1 G1 H1 L1 m1 Q r1 w1 q1⟩
theorem j_callTy (hc : FunD k X E (.type T) g) (hg : Gl X x) (hm : X.mg x = none) (hv : bootBuiltins x = some (.type T)) (ha : JA k X E (a :: es) ms) (hn : x ≠ "__name__" := by decide) (hdb : (x == ("__debug__" : Str)) = false := by decide)
    (he : starEach (a :: es) X.env = (false, eval a X.env) :: starEach es X.env := by rfl) (hpl : (backTo pos (starEach es X.env)).any (·.1) = false := by rfl) : JE k X E (.Call (.Name x p) (a :: es) [] pos) (eCallB g ms) := by
  obtain ⟨r, h1, h2⟩ := hc
  refine PE.imp (pe_callTy h1 hg hm hv ha hn hdb he hpl) fun s H Q h => ?_
  obtain ⟨e, G, L, μ, sg, w, gd⟩ := h
  exact ⟨e, G, L, μ, sg, w, Good.mono (Good.bind gd) fun d1 m1 G1 H1 L1 st1 w1 q1 x r1 => h2 x d1 G1 H1 L1 m1 Q r1 w1 q1⟩
end
end DL
namespace DL
open PySem L2 PyProof.Rows
def gI (C : Int → Int → Prop) [∀ i j, Decidable (C i j)] (f : Int → Int → D) : D → D → M D
  | .int i, .int j => if C i j then pure (f i j) else M.bad
  | _, _ => M.bad
def gI0 (f : Int → Int → D) : D → D → M D
  | .int i, .int j => pure (f i j)
  | _, _ => M.bad
def addD (x y : D) : M D := match x, y with
  | .int i, .int j => pure (.int (i + j))
  | .str i, .str j => if i.length + j.length ≤ 100000 then pure (.str (i ++ j)) else M.bad
  | .tup i, .tup j => mkT (i ++ j)
  | x, y => do let i ← (match x with | .tup _ => M.bad | _ => seqD x); let j ← (match y with | .tup _ => M.bad | _ => seqD y); mkL (i ++ j)
abbrev CM (i j : Int) : Prop := (-(2 ^ 64) < i ∧ i < 2 ^ 64) ∨ (-(2 ^ 64) < j ∧ j < 2 ^ 64)
abbrev CDv (_ j : Int) : Prop := 0 < j ∧ j < 2 ^ 100
abbrev CPw (i j : Int) : Prop := 0 ≤ j ∧ j ≤ 1000 ∧ i.natAbs < 2 ^ 64
def subD : D → D → M D := gI0 fun i j => .int (i - j)
def modD : D → D → M D := gI (fun _ j => 0 < j) fun i j => .int (i % j)
def fdvD : D → D → M D := gI CDv fun i j => .int (i / j)
def powD : D → D → M D := gI CPw fun i j => .int (i ^ j.toNat)
def negD : D → M D
  | .int i => pure (.int (-i))
  | _ => M.bad
def mulD (x y : D) : M D := match x, y with
  | .int i, .int j => if CM i j then pure (.int (i * j)) else M.bad
  | .tup i, .int j => if 1 ≤ j ∧ j ≤ 1000 ∧ i.length ≤ 1000 ∧ 0 < i.length then pure (.tup (List.replicate j.toNat i).flatten) else M.bad
  | _, _ => M.bad
section
variable {k : Kx} {X : Cx} {E : XK}
theorem OpR.or {f : Value → Value → Sem Value} {r r' : R2} (h : OpR X f r) (h' : OpR X f r') : OpR X f (fun x y H Q => r x y H Q ∨ r' x y H Q) := by
  intro pins s σ H x y v u Q I rx ry q
  rcases q with q | q
  · exact h pins s σ H x y v u Q I rx ry q
  · exact h' pins s σ H x y v u Q I rx ry q
theorem opD_I {C : Int → Int → Prop} [∀ i j, Decidable (C i j)] {C' : Int → Int → Prop} {f : Int → Int → D} {g : Int → Int → V} (hC : ∀ i j, C i j → C' i j) (hr : ∀ G L i j, Rp k X.K G L (g i j) (f i j)) : OpD k X.K E (rI C' g) (gI C f) := by
  intro x y dx dy G H L μ Q rx ry w gd
  cases dx with
  | int i =>
    cases dy with
    | int j =>
      cases rx
      cases ry
      obtain ⟨hc, gd⟩ := good_ite gd
      exact ⟨i, j, rfl, rfl, hC i j hc, Good.ret gd w _ (hr _ _ i j)⟩
    | _ => exact False.elim gd
  | _ => exact False.elim gd
theorem opD_I0 {f : Int → Int → D} {g : Int → Int → V} (hr : ∀ G L i j, Rp k X.K G L (g i j) (f i j)) : OpD k X.K E (rI0 g) (gI0 f) := by
  intro x y dx dy G H L μ Q rx ry w gd
  cases dx with
  | int i =>
    cases dy with
    | int j =>
      cases rx
      cases ry
      exact ⟨i, j, rfl, rfl, Good.ret gd w _ (hr _ _ i j)⟩
    | _ => exact False.elim gd
  | _ => exact False.elim gd
theorem b_sub : BinD k X E (binaryOp .Sub) subD := ⟨_, op_sub, opD_I0 fun _ _ _ _ => .int _⟩
theorem b_mod : BinD k X E (binaryOp .Mod) modD := ⟨_, op_mod, opD_I (fun _ _ h => h) fun _ _ _ _ => .int _⟩
theorem fdv_ok {i j : Int} (h : CDv i j) : CDivW i j := ⟨h.1, by
  have h2 : j.natAbs < 2 ^ 100 := by omega
  exact Nat.lt_of_lt_of_le (PySem.Flt.log2_lt_of (by decide) h2) (by decide)⟩
theorem b_fdv : BinD k X E (binaryOp .FloorDiv) fdvD := ⟨_, op_fdivW, opD_I (fun _ _ h => fdv_ok h) fun _ _ _ _ => .int _⟩
theorem b_pow : BinD k X E (binaryOp .Pow) powD := ⟨_, op_pow, opD_I (fun _ _ h => ⟨h.1, by have := h.2.1; omega, h.2.2⟩) fun _ _ _ _ => .int _⟩
theorem u_neg : MonD k X E (unaryOp .USub) negD := by
  refine ⟨_, un_neg, fun x dx G H L μ Q r w g => ?_⟩
  cases dx with
  | int i => cases r; exact ⟨i, rfl, Good.ret g w _ (.int _)⟩
  | _ => exact False.elim g
/-- what a list or tuple is read as, by its data -/
theorem seq_of {d : D} {x : V} {G H : Hp} {L : Lam} {μ : Store} {β : Type} {f : List D → M β} {Q : β → Store → Hp → Hp → Lam → Prop} (r : Rp k X.K G L x d) (w : Wd k X.K G H L μ) (g : Good k X.K E G H L ((seqD d >>= f) μ) Q) :
    ∃ a vs ds, x = .ref a ∧ RpA k X.K G L vs ds ∧ ((SqL X.K H a vs ∧ ∀ t, d ≠ .tup t) ∨ (SqT X.K H a vs ∧ d = .tup ds)) ∧ Good k X.K E G H L (f ds μ) Q := by
  cases d with
  | lst ds =>
    cases r with
    | lst hs ha => exact ⟨_, _, ds, rfl, ha, .inl ⟨w.ext.seq hs, fun _ z => nomatch z⟩, g⟩
  | tup ds =>
    cases r with
    | tup hs ha => exact ⟨_, _, ds, rfl, ha, .inr ⟨sqT_mono w.ext hs, rfl⟩, g⟩
  | loc n =>
    have g' : Good k X.K E G H L (M.bind (seqD (.loc n)) f μ) Q := g
    unfold M.bind seqD at g'
    simp only at g'
    cases hm : μ[n]? with
    | none => rw [hm] at g'; exact False.elim g'
    | some o =>
      cases o with
      | none => rw [hm] at g'; exact False.elim g'
      | some c =>
        cases c with
        | ins _ _ => rw [hm] at g'; exact False.elim g'
        | dct _ _ => rw [hm] at g'; exact False.elim g'
        | lst ds =>
          rw [hm] at g'
          obtain ⟨a, vs, rfl, _, _, h, ra⟩ := w.look hm r
          exact ⟨a, vs, ds, rfl, ra, .inl ⟨SqL.of h, fun _ z => nomatch z⟩, g'⟩
  | _ => exact False.elim g
/-- list + list, whatever they are read from -/
def rCatS (K : PySem.W.Frag) : R2 := fun x y H Q => ∃ l b xs zs, x = .ref l ∧ y = .ref b ∧ SqL K H l xs ∧ SqL K H b zs ∧ xs.length + zs.length ≤ sizeLine ∧ ∀ p, H p = none → Q (.ref p) (upd H p (.lst (xs ++ zs)))
theorem op_catS : OpR X (binaryOp .Add) (rCatS X.K) := by
  intro pins s σ H x y v u Q I rx ry h
  obtain ⟨l, b, xs, zs, rfl, rfl, hH, hB, hz, q⟩ := h
  cases rx
  cases ry
  obtain ⟨its, r, pl, z⟩ := I.list hH
  obtain ⟨its2, r2, pl2, z2⟩ := I.list hB
  have hl := r.length
  have hl2 := r2.length
  obtain ⟨⟨cls, dd, data, sl⟩, ho, hc, n, hd⟩ := pl.isList
  obtain ⟨⟨cls2, dd2, data2, sl2⟩, ho2, hc2, n2, hd2⟩ := pl2.isList
  simp only at hc hd hc2 hd2
  subst hc hd hc2 hd2
  have e : its.toArray ++ its2.toArray = (its ++ its2).toArray := by simp
  refine concat_meets ⟨_, ho, rfl⟩ ⟨_, ho2, rfl⟩ noFill_list_add seq_list_add PySem.F.slot_list_add PySem.F.entry_list_add (PySem.F.args_list_add_2 _ _) (list_addW l b its.toArray its2.toArray n n2 dd dd2 sl sl2 (by simp only [List.size_toArray]; omega)) ⟨ho, ho2, ?_⟩
  rw [e]
  exact ⟨.ref _, _, I.lnew (t' := s.toks) (r.append r2) (by rw [List.length_append]; omega), rfl, q _ I.fresh⟩
theorem b_add : BinD k X E (binaryOp .Add) addD := by
  refine ⟨_, OpR.or op_add (OpR.or op_add_str (OpR.or op_catA op_catS)), fun x y dx dy G H L μ Q rx ry w g => ?_⟩
  have lst : Good k X.K E G H L ((do let i ← seqD dx; let j ← seqD dy; mkL (i ++ j)) μ) (QV k X.K Q) → (∀ t, dx ≠ .tup t) → (∀ t, dy ≠ .tup t) → rCatS X.K x y H Q := fun g n1 n2 => by
    obtain ⟨a, vs, ds, rfl, ra, hs, g⟩ := seq_of rx w g
    obtain ⟨b, ws, es, rfl, rb, ht, g⟩ := seq_of ry w g
    rcases hs with ⟨hs, _⟩ | ⟨_, e⟩
    · rcases ht with ⟨ht, _⟩ | ⟨_, e⟩
      · obtain ⟨hz, q⟩ := good_mkL (ra.append rb) w g
        exact ⟨a, b, vs, ws, rfl, rfl, hs, ht, by rw [List.length_append] at hz; exact hz, q⟩
      · exact absurd e (n2 es)
    · exact absurd e (n1 ds)
  cases dx with
  | int i =>
    cases dy with
    | int j => cases rx; cases ry; exact .inl ⟨i, j, rfl, rfl, Good.ret g w _ (.int _)⟩
    | _ => exact False.elim g
  | str i =>
    cases dy with
    | str j =>
      cases rx
      cases ry
      obtain ⟨hz, g⟩ := good_ite g
      exact .inr (.inl ⟨i, j, rfl, rfl, size_of hz, Good.ret g w _ (.str _)⟩)
    | _ => exact False.elim g
  | tup ds =>
    cases dy with
    | tup es =>
      cases rx with
      | @tup a xs _ hs ha =>
        cases ry with
        | @tup b ys _ ht hb =>
          have g2 := g
          obtain ⟨hz, g1⟩ := good_ite g2
          have hs' := sqT_mono w.ext hs
          have ht' := sqT_mono w.ext ht
          refine .inr (.inr (.inl ⟨a, b, xs, ys, rfl, rfl, hs', ht', ?_, fun e => ?_, fun _ e => ?_, fun _ _ p hp => ?_⟩))
          · rw [ha.len, hb.len, ← List.length_append]
            exact size_of hz
          · subst e
            cases ha
            exact Good.ret g1 w _ (.tup ht hb)
          · subst e
            cases hb
            rw [List.append_nil] at g1
            exact Good.ret g1 w _ (.tup hs ha)
          · exact (good_mkT (ha.append hb) w g).2 p hp
    | _ => exact False.elim g
  | lst ds =>
    cases dy with
    | tup _ => exact False.elim g
    | lst es => exact .inr (.inr (.inr (lst g (fun _ z => nomatch z) fun _ z => nomatch z)))
    | loc n => exact .inr (.inr (.inr (lst g (fun _ z => nomatch z) fun _ z => nomatch z)))
    | _ => exact False.elim g
  | loc n =>
    refine .inr (.inr (.inr ?_))
    cases dy with
    | tup _ =>
      obtain ⟨a, vs, ds, rfl, ra, hs, g⟩ := seq_of (f := fun i => do let j ← (M.bad : M (List D)); mkL (i ++ j)) rx w g
      exact False.elim g
    | lst es => exact lst g (fun _ z => nomatch z) fun _ z => nomatch z
    | loc n => exact lst g (fun _ z => nomatch z) fun _ z => nomatch z
    | _ =>
      obtain ⟨a, vs, ds, rfl, ra, hs, g⟩ := seq_of rx w g
      exact False.elim g
  | _ =>
    cases dy <;> exact False.elim g
end
end DL
namespace DL
open PySem L2 PyProof.Rows
section
variable {k : Kx} {X : Cx} {E : XK}
theorem tuple_mul1 (l : Addr) (items : Array Value) (n : Nat) (dd : Option Addr) (sl : Array (Option Value)) (u : Tok) :
    Meets (Builtin.«tuple.__mul__» ⟨[.ref l, .int 1 u], []⟩) (fun _ R s => s.heap.get? l = some { cls := .type "tuple", dict := dd, data := .seq items n, slots := sl } ∧ R (.ok (.ret (Value.ref l))) s) :=
  .of_wp fun prog w A R s h => by
    obtain ⟨hp, g, d, tk, os⟩ := s
    obtain ⟨hl, h⟩ := h
    have f1 := AutoSeq1.idx_int
    have c1 : (items.isEmpty || (1 : Int) == 1) = true := by simp
    wp_walk using wpAny_loadPart' hl
    repeat (first
      | (refine wpAny_ite_true (decide_eq_true c1) ?_; wp_walk using wpAny_loadPart' hl))
    exact ⟨_, rfl, h⟩
theorem op_repT1 : OpR X (binaryOp .Mult) (fun x y H Q => ∃ l xs, x = .ref l ∧ y = .int 1 ∧ SqT X.K H l xs ∧ Q (.ref l) H) := by
  intro pins s σ H x y v u Q I rx ry h
  obtain ⟨l, xs, rfl, rfl, hT, q⟩ := h
  cases rx
  obtain ⟨t, rfl⟩ := ry
  obtain ⟨its, r, ⟨⟨cls, dd, data, sl⟩, ho, hc, n, hd⟩, hs⟩ := I.tuple hT
  simp only at hc hd
  subst hc hd
  refine wpAny_binaryOp_repeat_ref (T := "tuple") (U := "int") (by decide) ⟨_, ho, rfl⟩ (fun s' => typeIs_int s' 1 t) noFill_tuple_mul PySem.F.fills_int_mul PySem.F.slot_int_rmul repeat_tuple PySem.F.slot_int_index.lookup
    (call_meets PySem.F.slot_int_rmul (typeIs_int s 1 t) PySem.F.entry_int_rmul (PySem.F.args_int_rmul_2 _ _) (int_rmul_tuple 1 t l its.toArray n dd sl)
      ⟨ho, rfl, ⟨_, ho, rfl⟩, call_meets PySem.F.slot_tuple_mul ⟨_, ho, rfl⟩ PySem.F.entry_tuple_mul (PySem.F.args_tuple_mul_2 _ _) (tuple_mul1 l its.toArray n dd sl t) ⟨ho, ?_⟩⟩)
  exact ⟨.ref l, H, I, rfl, q⟩
theorem rpA_rep {G : Hp} {L : Lam} {vs : List V} {ds : List D} (r : RpA k X.K G L vs ds) : ∀ n : Nat, RpA k X.K G L (List.replicate n vs).flatten (List.replicate n ds).flatten
  | 0 => .nil
  | n + 1 => by
    rw [List.replicate_succ, List.replicate_succ, List.flatten_cons, List.flatten_cons]
    exact r.append (rpA_rep r n)
theorem b_mul : BinD k X E (binaryOp .Mult) mulD := by
  refine ⟨_, OpR.or op_mul (OpR.or op_repT op_repT1), fun x y dx dy G H L μ Q rx ry w g => ?_⟩
  cases dx with
  | int i =>
    cases dy with
    | int j =>
      cases rx
      cases ry
      obtain ⟨hz, g⟩ := good_ite g
      exact .inl ⟨i, j, rfl, rfl, hz, Good.ret g w _ (.int _)⟩
    | _ => exact False.elim g
  | tup ds =>
    cases dy with
    | int j =>
      cases rx with
      | @tup a xs _ hs ha =>
        cases ry
        obtain ⟨⟨h1, h2, h3, h4⟩, g⟩ := good_ite g
        by_cases hj : j = 1
        · subst hj
          refine .inr (.inr ⟨a, xs, rfl, rfl, sqT_mono w.ext hs, ?_⟩)
          have e : (List.replicate (1 : Int).toNat ds).flatten = ds := by simp
          rw [e] at g
          exact Good.ret g w _ (.tup hs ha)
        · refine .inr (.inl ⟨a, j, xs, rfl, rfl, sqT_mono w.ext hs, fun e => ?_, by omega, h2, by rw [ha.len]; exact h3, fun p hp => ?_⟩)
          · subst e
            cases ha
            simp at h4
          · exact g _ _ _ (w.newS hp) (w.new hp) _ (.tup (SqT.of upd_same) (RpA.mono (w.newS (o := .tup (List.replicate j.toNat xs).flatten) hp).g (pre_refl L) _ _ (rpA_rep ha j.toNat)))
    | _ => exact False.elim g
  | _ => cases dy <;> exact False.elim g
mutual
def toPD : D → Option PyData
  | .non => some .none
  | .bl b => some (.bool b)
  | .int i => some (.int i)
  | .str s => some (.str s)
  | .lst ds => (toPDs ds).map .list
  | .tup ds => (toPDs ds).map .tuple
  | .loc _ => none
  | .obj _ _ => none
  | .cls _ => none
  | .dct _ _ => none
  | .fdc _ _ => none
  | .err _ _ => none
def toPDs : List D → Option (List PyData)
  | [] => some []
  | d :: ds => match toPD d, toPDs ds with
    | some x, some xs => some (x :: xs)
    | _, _ => none
end
theorem toPDs_cons {d : D} {ds : List D} {xs : List PyData} (h : toPDs (d :: ds) = some xs) : ∃ y ys, xs = y :: ys ∧ toPD d = some y ∧ toPDs ds = some ys := by
  rw [toPDs] at h
  cases e1 : toPD d with
  | none => rw [e1] at h; cases h
  | some y =>
    cases e2 : toPDs ds with
    | none => rw [e1, e2] at h; cases h
    | some ys =>
      rw [e1, e2] at h
      cases h
      exact ⟨y, ys, rfl, rfl, rfl⟩
mutual
theorem dp_of {G H : Hp} {L : Lam} (e : Same G H) : ∀ (d : D) (v : V) (x : PyData), Rp k X.K G L v d → toPD d = some x → Dp X.K H v x
  | .non, _, _, r, h => by cases r; simp only [toPD] at h; cases h; exact .non
  | .bl b, _, _, r, h => by cases r; simp only [toPD] at h; cases h; exact .bl b
  | .int i, _, _, r, h => by cases r; simp only [toPD] at h; cases h; exact .int i
  | .str i, _, _, r, h => by cases r; simp only [toPD] at h; cases h; exact .str i
  | .lst ds, _, _, r, h => by
    cases r with
    | lst hs ha =>
      simp only [toPD] at h
      cases e2 : toPDs ds with
      | none => rw [e2] at h; cases h
      | some ys =>
        rw [e2] at h
        cases h
        exact .lst (e.seq hs) (dpA_of e ds _ ys ha e2)
  | .tup ds, _, _, r, h => by
    cases r with
    | tup hs ha =>
      simp only [toPD] at h
      cases e2 : toPDs ds with
      | none => rw [e2] at h; cases h
      | some ys =>
        rw [e2] at h
        cases h
        exact .tup (sqT_mono e hs) (dpA_of e ds _ ys ha e2)
  | .loc _, _, _, r, h => by simp only [toPD] at h; cases h
  | .obj _ _, _, _, r, h => by simp only [toPD] at h; cases h
  | .cls _, _, _, r, h => by simp only [toPD] at h; cases h
  | .dct _ _, _, _, r, h => by simp only [toPD] at h; cases h
  | .fdc _ _, _, _, r, h => by simp only [toPD] at h; cases h
  | .err _ _, _, _, r, h => by simp only [toPD] at h; cases h
theorem dpA_of {G H : Hp} {L : Lam} (e : Same G H) : ∀ (ds : List D) (vs : List V) (xs : List PyData), RpA k X.K G L vs ds → toPDs ds = some xs → DpAll X.K H vs xs
  | [], _, _, r, h => by cases r; simp only [toPDs] at h; cases h; exact .nil
  | d :: ds, _, _, r, h => by
    cases r with
    | cons h1 h2 =>
      obtain ⟨y, ys, rfl, e1, e2⟩ := toPDs_cons h
      exact .cons (dp_of e d _ y h1 e1) (dpA_of e ds _ ys h2 e2)
end
/-- with a mutable list's items at the top -/
def topPD (d : D) (m : Store) : Option PyData := match d with
  | .loc n => match m[n]? with
    | some (some (.lst ds)) => (toPDs ds).map .list
    | _ => none
  | d => toPD d
theorem dp_top {G H : Hp} {L : Lam} {μ : Store} (w : Wd k X.K G H L μ) {d : D} {v : V} {x : PyData} (r : Rp k X.K G L v d) (h : topPD d μ = some x) : Dp X.K H v x := by
  cases d with
  | loc n =>
    simp only [topPD] at h
    cases hm : μ[n]? with
    | none => rw [hm] at h; cases h
    | some o =>
      cases o with
      | none => rw [hm] at h; cases h
      | some c =>
        cases c with
        | ins _ _ => rw [hm] at h; cases h
        | dct _ _ => rw [hm] at h; cases h
        | lst ds =>
          rw [hm] at h
          obtain ⟨a, vs, rfl, hl, ga, hh, ra⟩ := w.look hm r
          simp only at h
          cases e2 : toPDs ds with
          | none => rw [e2] at h; cases h
          | some ys =>
            rw [e2] at h
            cases h
            exact .lst (SqL.of hh) (dpA_of w.ext ds _ ys ra e2)
  | _ => exact dp_of w.ext _ v x r h
def onPD (f : PyData → PyData → Bool) (x y : D) : M D := fun m => match topPD x m, topPD y m with
  | some a, some b => if (SeqAt.shaped a && SeqAt.shaped b) = true then .ok (.bl (f a b)) m else .bad
  | _, _ => .bad
def eqD : D → D → M D := onPD PyData.eqv
def neD : D → D → M D := onPD fun a b => !PyData.eqv a b
theorem onPD_good {f : PyData → PyData → Bool} {x y : D} {G H : Hp} {L : Lam} {μ : Store} {Q : VK} (w : Wd k X.K G H L μ) (g : Good k X.K E G H L (onPD f x y μ) (QV k X.K Q)) :
    ∃ a b, topPD x μ = some a ∧ topPD y μ = some b ∧ SeqAt.shaped a = true ∧ SeqAt.shaped b = true ∧ Q (.bl (f a b)) H := by
  unfold onPD at g
  cases e1 : topPD x μ with
  | none => rw [e1] at g; exact False.elim g
  | some a =>
    cases e2 : topPD y μ with
    | none => rw [e1, e2] at g; exact False.elim g
    | some b =>
      simp only [e1, e2] at g
      by_cases hc : (SeqAt.shaped a && SeqAt.shaped b) = true
      · rw [if_pos hc] at g
        obtain ⟨h1, h2⟩ := Bool.and_eq_true_iff.mp hc
        exact ⟨a, b, rfl, rfl, h1, h2, Good.okE g w _ (.bl _)⟩
      · rw [if_neg hc] at g
        exact False.elim g
theorem b_eq (hu : X.A.units + 64 < cLine) : BinD k X E (compareOp .Eq) eqD := by
  refine ⟨_, op_eqD hu, fun x y dx dy G H L μ Q rx ry w g => ?_⟩
  obtain ⟨a, b, e1, e2, h1, h2, q⟩ := onPD_good w g
  exact ⟨a, b, dp_top w rx e1, dp_top w ry e2, h1, h2, q⟩
theorem b_ne (hu : X.A.units + 64 < cLine) : BinD k X E (compareOp .NotEq) neD := by
  refine ⟨_, op_neD hu, fun x y dx dy G H L μ Q rx ry w g => ?_⟩
  obtain ⟨a, b, e1, e2, h1, h2, q⟩ := onPD_good w g
  exact ⟨a, b, dp_top w rx e1, dp_top w ry e2, h1, h2, q⟩
def intsD : List D → Option (List Int)
  | [] => some []
  | .int i :: ds => (intsD ds).map (i :: ·)
  | _ :: _ => none
theorem intsD_of {G : Hp} {L : Lam} : ∀ {ds : List D} {vs : List V} {ns : List Int}, RpA k X.K G L vs ds → intsD ds = some ns → vs = ns.map V.int
  | [], _, _, r, h => by cases r; cases h; rfl
  | d :: ds, _, _, r, h => by
    cases d with
    | int i =>
      simp only [intsD] at h
      cases e : intsD ds with
      | none => rw [e] at h; cases h
      | some ms =>
        rw [e] at h
        cases h
        cases r with
        | cons h1 h2 =>
          cases h1
          rw [intsD_of h2 e]
          rfl
    | _ => cases h
def ltD (x y : D) : M D := match x, y with
  | .int i, .int j => pure (.bl (decide (i < j)))
  | .tup a, .tup b => match intsD a, intsD b with
    | some ns, some ms => pure (.bl (HT.lexLt ns ms))
    | _, _ => M.bad
  | _, _ => M.bad
def leD : D → D → M D := gI0 fun i j => .bl (decide (i ≤ j))
def gtD : D → D → M D := gI0 fun i j => .bl (decide (j < i))
def geD : D → D → M D := gI0 fun i j => .bl (decide (j ≤ i))
theorem b_lt (hu : X.A.units < cLine) : BinD k X E (compareOp .Lt) ltD := by
  refine ⟨_, OpR.or op_lt (op_ltT hu), fun x y dx dy G H L μ Q rx ry w g => ?_⟩
  cases dx with
  | int i =>
    cases dy with
    | int j => cases rx; cases ry; exact .inl ⟨i, j, rfl, rfl, Good.ret g w _ (.bl _)⟩
    | _ => exact False.elim g
  | tup a =>
    cases dy with
    | tup b =>
      have g' : Good k X.K E G H L ((match intsD a, intsD b with | some ns, some ms => (pure (.bl (HT.lexLt ns ms)) : M D) | _, _ => M.bad) μ) (QV k X.K Q) := g
      cases e1 : intsD a with
      | none => rw [e1] at g'; exact False.elim g'
      | some ns =>
        cases e2 : intsD b with
        | none => rw [e1, e2] at g'; exact False.elim g'
        | some ms =>
          rw [e1, e2] at g'
          cases rx with
          | tup hs ha =>
            cases ry with
            | tup ht hb =>
              have z1 := intsD_of ha e1
              have z2 := intsD_of hb e2
              subst z1 z2
              exact .inr ⟨_, _, ns, ms, rfl, rfl, sqT_mono w.ext hs, sqT_mono w.ext ht, Good.ret g' w _ (.bl _)⟩
    | _ => exact False.elim g
  | _ => cases dy <;> exact False.elim g
theorem b_le : BinD k X E (compareOp .LtE) leD := ⟨_, op_le, opD_I0 fun _ _ _ _ => .bl _⟩
theorem b_gt : BinD k X E (compareOp .Gt) gtD := ⟨_, op_gt, opD_I0 fun _ _ _ _ => .bl _⟩
theorem b_ge : BinD k X E (compareOp .GtE) geD := ⟨_, op_ge, opD_I0 fun _ _ _ _ => .bl _⟩
def flatD : D → Bool
  | .non => true
  | .bl _ => true
  | .int _ => true
  | .str _ => true
  | _ => false
def eqFl : D → D → Bool
  | .non, .non => true
  | .bl a, .bl b => a == b
  | .bl a, .int b => (if a then 1 else 0) == b
  | .int a, .bl b => a == (if b then 1 else 0)
  | .int a, .int b => a == b
  | .str a, .str b => a == b
  | _, _ => false
def rInT (K : PySem.W.Frag) (neg : Bool) : R2 := fun x y H Q => ∃ d ds, Dp K H x d ∧ Dp K H y (.tuple ds) ∧ SeqAt.shaped d = true ∧ SeqAt.shaped (.tuple ds) = true ∧ Q (.bl (if neg then !(ds.any fun z => PyData.eqv z d) else ds.any fun z => PyData.eqv z d)) H
theorem op_inT (hu : X.A.units + 65 < cLine) : OpR X (compareOp .In) (rInT X.K false) := by
  intro pins s σ H x y v u Q I rx ry h
  obtain ⟨d, ds, hd, he, sd, se, q⟩ := h
  obtain ⟨as, r1⟩ := Dp.reads I d x v hd rx
  obtain ⟨bs, r2⟩ := Dp.reads I (.tuple ds) y u he ry
  exact SeqAt.in_tuple_reads r2 r1 (SeqAt.canLay_of_shaped se) (SeqAt.canLay_of_shaped sd) (room_in_shaped sd hu) ⟨.bl _, H, I, rfl, q⟩
def inD (neg : Bool) (x y : D) : M D := fun m => match y with
  | .tup ds => if (flatD x && ds.all flatD) = true then .ok (.bl (if neg then !(ds.any fun z => eqFl z x) else ds.any fun z => eqFl z x)) m else (match topPD x m, toPDs ds with
    | some a, some bs => if (SeqAt.shaped a && SeqAt.shaped (.tuple bs)) = true then .ok (.bl (if neg then !(bs.any fun z => PyData.eqv z a) else bs.any fun z => PyData.eqv z a)) m else .bad
    | _, _ => .bad)
  | y => match topPD x m, topPD y m with
    | some a, some (.list bs) => if (SeqAt.shaped a && SeqAt.shaped (.list bs)) = true then .ok (.bl (if neg then !(bs.any fun z => PyData.eqv z a) else bs.any fun z => PyData.eqv z a)) m else .bad
    | _, _ => .bad
theorem flat_of {G : Hp} {L : Lam} {x : V} {d : D} (r : Rp k X.K G L x d) (h : flatD d = true) : flatV x = true := by
  cases r <;> first | rfl | cases h
theorem eqFl_of {G : Hp} {L : Lam} {x y : V} {d e : D} (r : Rp k X.K G L x d) (q : Rp k X.K G L y e) (h : flatD d = true) (h' : flatD e = true) : eqV x y = eqFl d e := by
  cases r <;> first | (cases q <;> first | rfl | (exact absurd h' (by simp [flatD]))) | (exact absurd h (by simp [flatD]))
theorem flatA_of {G : Hp} {L : Lam} {y : V} {e : D} (q : Rp k X.K G L y e) (h' : flatD e = true) : ∀ {vs : List V} {ds : List D}, RpA k X.K G L vs ds → ds.all flatD = true → vs.all flatV = true ∧ inV y vs = ds.any fun z => eqFl z e
  | _, [], r, _ => by cases r; exact ⟨rfl, rfl⟩
  | _, d :: ds, r, h => by
    cases r with
    | cons h1 h2 =>
      rw [List.all_cons, Bool.and_eq_true] at h
      obtain ⟨i1, i2⟩ := flatA_of q h' h2 h.2
      refine ⟨by rw [List.all_cons, flat_of h1 h.1, i1]; rfl, ?_⟩
      unfold inV at i2 ⊢
      rw [List.any_cons, List.any_cons, i2, eqFl_of h1 q h.1 h']
theorem inD_of {neg : Bool} {x y : V} {dx dy : D} {G H : Hp} {L : Lam} {μ : Store} {Q : VK} (rx : Rp k X.K G L x dx) (ry : Rp k X.K G L y dy) (w : Wd k X.K G H L μ) (g : Good k X.K E G H L (inD neg dx dy μ) (QV k X.K Q)) :
    rIn X.K neg x y H Q ∨ (∃ d ds, Dp X.K H x d ∧ Dp X.K H y (.list ds) ∧ SeqAt.shaped d = true ∧ SeqAt.shaped (.list ds) = true ∧ Q (.bl (if neg then !(ds.any fun z => PyData.eqv z d) else ds.any fun z => PyData.eqv z d)) H) ∨ rInT X.K neg x y H Q := by
  have two : Good k X.K E G H L (match topPD dx μ, topPD dy μ with
    | some a, some (.list bs) => if (SeqAt.shaped a && SeqAt.shaped (.list bs)) = true then .ok (.bl (if neg then !(bs.any fun z => PyData.eqv z a) else bs.any fun z => PyData.eqv z a)) μ else .bad
    | _, _ => .bad) (QV k X.K Q) → ∃ d ds, Dp X.K H x d ∧ Dp X.K H y (.list ds) ∧ SeqAt.shaped d = true ∧ SeqAt.shaped (.list ds) = true ∧ Q (.bl (if neg then !(ds.any fun z => PyData.eqv z d) else ds.any fun z => PyData.eqv z d)) H := fun g => by
    cases e1 : topPD dx μ with
    | none => rw [e1] at g; exact False.elim g
    | some a =>
      cases e2 : topPD dy μ with
      | none => rw [e1, e2] at g; exact False.elim g
      | some b =>
        cases b with
        | list bs =>
          simp only [e1, e2] at g
          by_cases hc : (SeqAt.shaped a && SeqAt.shaped (.list bs)) = true
          · rw [if_pos hc] at g
            obtain ⟨h1, h2⟩ := Bool.and_eq_true_iff.mp hc
            exact ⟨a, bs, dp_top w rx e1, dp_top w ry e2, h1, h2, Good.okE g w _ (.bl _)⟩
          · rw [if_neg hc] at g
            exact False.elim g
        | _ => rw [e1, e2] at g; exact False.elim g
  cases dy with
  | tup ds =>
    simp only [inD] at g
    by_cases hc : (flatD dx && ds.all flatD) = true
    · rw [if_pos hc] at g
      obtain ⟨h1, h2⟩ := Bool.and_eq_true_iff.mp hc
      cases ry with
      | tup hs ha =>
        obtain ⟨i1, i2⟩ := flatA_of rx h1 ha h2
        refine .inl ⟨_, _, rfl, .inr (sqT_mono w.ext hs), flat_of rx h1, i1, ?_⟩
        rw [i2]
        exact Good.okE g w _ (.bl _)
    · rw [if_neg hc] at g
      cases e1 : topPD dx μ with
      | none => rw [e1] at g; exact False.elim g
      | some a =>
        cases e2 : toPDs ds with
        | none => rw [e1, e2] at g; exact False.elim g
        | some bs =>
          simp only [e1, e2] at g
          by_cases hs : (SeqAt.shaped a && SeqAt.shaped (.tuple bs)) = true
          · rw [if_pos hs] at g
            obtain ⟨h1, h2⟩ := Bool.and_eq_true_iff.mp hs
            exact .inr (.inr ⟨a, bs, dp_top w rx e1, dp_of w.ext (.tup ds) _ (.tuple bs) ry (by simp [toPD, e2]), h1, h2, Good.okE g w _ (.bl _)⟩)
          · rw [if_neg hs] at g
            exact False.elim g
  | _ => exact .inr (.inl (two g))
theorem b_in (hu : X.A.units + 65 < cLine) : BinD k X E (compareOp .In) (inD false) := ⟨_, OpR.or op_in_seq (OpR.or (op_inD hu) (op_inT hu)), fun x y dx dy G H L μ Q rx ry w g => inD_of (neg := false) rx ry w g⟩
end
end DL
namespace DL
open PySem L2 PyProof.Rows
def lenD : List D → M D
  | [.str x] => if x.length ≤ 100000 then pure (.int x.length) else M.bad
  | [d] => do let ds ← seqD d; pure (.int ds.length)
  | _ => M.bad
def tupleD : List D → M D
  | [.tup ds] => pure (.tup ds)
  | [d] => do let ds ← seqD d; mkT ds
  | _ => M.bad
def listD : List D → M D
  | [d] => do let ds ← seqD d; mkL ds
  | _ => M.bad
def intD : List D → M D
  | [.int i] => pure (.int i)
  | [.bl b] => pure (.int (if b then 1 else 0))
  | _ => M.bad
def maxD : List D → M D
  | [.int i, .int j] => pure (.int (if j > i then j else i))
  | _ => M.bad
def minD : List D → M D
  | [.int i, .int j] => pure (.int (if j < i then j else i))
  | _ => M.bad
/-- truth of a flat thing -/
def truF : D → Option Bool
  | .non => some false
  | .bl b => some b
  | .int i => some (i != 0)
  | _ => none
def truFs : List D → Option (List Bool)
  | [] => some []
  | d :: ds => match truF d, truFs ds with
    | some b, some bs => some (b :: bs)
    | _, _ => none
def allD : List D → M D
  | [d] => do
    let ds ← seqD d
    match truFs ds with
      | some bs => pure (.bl (bs.all id))
      | none => M.bad
  | _ => M.bad
def anyD : List D → M D
  | [d] => do
    let ds ← seqD d
    match truFs ds with
      | some bs => pure (.bl (bs.any id))
      | none => M.bad
  | _ => M.bad
section
variable {k : Kx} {X : Cx} {E : XK}
theorem one_of {G H : Hp} {L : Lam} {xs : List V} {d : D} (r : RpA k X.K G L xs [d]) : ∃ v, xs = [v] ∧ Rp k X.K G L v d := by
  cases r with
  | cons h1 h2 => cases h2; exact ⟨_, rfl, h1⟩
theorem two_of {G H : Hp} {L : Lam} {xs : List V} {d e : D} (r : RpA k X.K G L xs [d, e]) : ∃ v u, xs = [v, u] ∧ Rp k X.K G L v d ∧ Rp k X.K G L u e := by
  cases r with
  | cons h1 h2 =>
    cases h2 with
    | cons h3 h4 => cases h4; exact ⟨_, _, rfl, h1, h3⟩
theorem f_len : FunD k X E (.builtin "len") lenD := by
  refine ⟨_, CallR.or call_len_seq call_len_str, fun xs ds G H L μ Q r w g => ?_⟩
  match ds, r, g with
  | [], _, g => exact False.elim g
  | [d], r, g =>
    obtain ⟨v, rfl, r'⟩ := one_of (H := H) r
    replace r := r'
    have sq : Good k X.K E G H L ((do let ds ← seqD d; (pure (D.int ds.length) : M D)) μ) (QV k X.K Q) → ∃ p ys, [v] = [V.ref p] ∧ (SqL X.K H p ys ∨ SqT X.K H p ys) ∧ Q (.int ys.length) H := fun g => by
      obtain ⟨a, vs, ds, rfl, ra, hs, g⟩ := seq_of r w g
      refine ⟨a, vs, rfl, ?_, ?_⟩
      · rcases hs with ⟨hs, _⟩ | ⟨hs, _⟩
        · exact .inl hs
        · exact .inr hs
      · rw [ra.len]
        exact Good.ret g w _ (.int _)
    cases d with
    | str x =>
      cases r
      obtain ⟨hz, g⟩ := good_ite g
      exact .inr ⟨x, rfl, size_of hz, Good.ret g w _ (.int _)⟩
    | _ => exact .inl (sq g)
  | x :: _ :: _, _, g => cases x <;> exact False.elim g
theorem f_tuple : FunD k X E (.type "tuple") tupleD := by
  refine ⟨_, call_tuple_of, fun xs ds G H L μ Q r w g => ?_⟩
  match ds, r, g with
  | [], _, g => exact False.elim g
  | [d], r, g =>
    obtain ⟨v, rfl, r'⟩ := one_of (H := H) r
    replace r := r'
    have sq : Good k X.K E G H L ((do let ds ← seqD d; mkT ds) μ) (QV k X.K Q) → (∀ t, d ≠ .tup t) → ∃ p ys, [v] = [V.ref p] ∧ ((SqL X.K H p ys ∧ ∀ l, H l = none → Q (.ref l) (upd H l (.tup ys))) ∨ (SqT X.K H p ys ∧ Q (.ref p) H)) := fun g nt => by
      obtain ⟨a, vs, ds, rfl, ra, hs, g⟩ := seq_of r w g
      rcases hs with ⟨hs, _⟩ | ⟨hs, e⟩
      · exact ⟨a, vs, rfl, .inl ⟨hs, (good_mkT ra w g).2⟩⟩
      · exact absurd e (nt ds)
    cases d with
    | tup ds =>
      cases r with
      | tup hs ha => exact ⟨_, _, rfl, .inr ⟨sqT_mono w.ext hs, Good.ret g w _ (.tup hs ha)⟩⟩
    | _ => exact sq g fun _ z => nomatch z
  | x :: _ :: _, _, g => cases x <;> exact False.elim g
theorem f_int : FunD k X E (.type "int") intD := by
  refine ⟨_, call_int1, fun xs ds G H L μ Q r w g => ?_⟩
  match ds, r, g with
  | [], _, g => exact False.elim g
  | [d], r, g =>
    obtain ⟨v, rfl, r'⟩ := one_of (H := H) r
    replace r := r'
    cases d with
    | int i => cases r; exact .inl ⟨i, rfl, Good.ret g w _ (.int _)⟩
    | bl i => cases r; exact .inr ⟨i, rfl, Good.ret g w _ (.int _)⟩
    | _ => exact False.elim g
  | x :: _ :: _, _, g => cases x <;> exact False.elim g
theorem f_max (hc : X.calm = true) : FunD k X E (.builtin "max") maxD := by
  refine ⟨_, call_max2 hc, fun xs ds G H L μ Q r w g => ?_⟩
  match ds, r, g with
  | [], _, g => exact False.elim g
  | [x], _, g => cases x <;> exact False.elim g
  | [x, y], r, g =>
    obtain ⟨v, u, rfl, r1, r2⟩ := two_of (H := H) r
    cases x with
    | int i =>
      cases y with
      | int j => cases r1; cases r2; exact ⟨i, j, rfl, Good.ret g w _ (.int _)⟩
      | _ => exact False.elim g
    | _ => exact False.elim g
  | x :: y :: _ :: _, _, g => cases x <;> (cases y <;> exact False.elim g)
theorem f_min (hc : X.calm = true) : FunD k X E (.builtin "min") minD := by
  refine ⟨_, call_min2 hc, fun xs ds G H L μ Q r w g => ?_⟩
  match ds, r, g with
  | [], _, g => exact False.elim g
  | [x], _, g => cases x <;> exact False.elim g
  | [x, y], r, g =>
    obtain ⟨v, u, rfl, r1, r2⟩ := two_of (H := H) r
    cases x with
    | int i =>
      cases y with
      | int j => cases r1; cases r2; exact ⟨i, j, rfl, Good.ret g w _ (.int _)⟩
      | _ => exact False.elim g
    | _ => exact False.elim g
  | x :: y :: _ :: _, _, g => cases x <;> (cases y <;> exact False.elim g)
def truV : V → Option Bool
  | .non => some false
  | .bl b => some b
  | .int i => some (i != 0)
  | _ => none
def TruL (vs : List V) (bs : List Bool) : Prop := vs.map truV = bs.map some
theorem truL_of {G : Hp} {L : Lam} : ∀ {vs : List V} {ds : List D} {bs : List Bool}, RpA k X.K G L vs ds → truFs ds = some bs → TruL vs bs
  | _, [], bs, r, h => by cases r; cases h; rfl
  | _, d :: ds, bs, r, h => by
    cases r with
    | @cons v vs _ _ h1 h2 =>
      rw [truFs] at h
      cases e1 : truF d with
      | none => rw [e1] at h; cases h
      | some b =>
        cases e2 : truFs ds with
        | none => rw [e1, e2] at h; cases h
        | some bs' =>
          rw [e1, e2] at h
          cases h
          have i := truL_of h2 e2
          unfold TruL at i ⊢
          rw [List.map_cons, List.map_cons, i]
          have : truV v = some b := by
            cases h1 <;> first | exact e1 | cases e1
          rw [this]
theorem truth_flat {prog : Program} {w : World} {A : Around} {vs : List V} {bs : List Bool} {its : List Value} (h : TruL vs bs) (r : Vals vs its) :
    TruthOf prog w A (fun i v => its.toArray[i]? = some v) (fun i => bs.getD i false) := fun i v s Q E' hv hq => by
  have hv' : its[i]? = some v := by simpa using hv
  have hi : i < vs.length := by
    have := (List.getElem?_eq_some_iff.mp hv').1
    rw [r.length]
    exact this
  obtain ⟨u, e1, e2⟩ := r.get (List.getElem?_eq_getElem hi)
  rw [hv'] at e1
  cases e1
  have hb : (vs.map truV)[i]? = (bs.map some)[i]? := by rw [h]
  rw [List.getElem?_map, List.getElem?_map, List.getElem?_eq_getElem hi] at hb
  cases eb : bs[i]? with
  | none => rw [eb] at hb; cases hb
  | some b =>
    rw [eb] at hb
    have ht : truV vs[i] = some b := by simpa using hb
    have hg : bs.getD i false = b := by rw [List.getD_eq_getElem?_getD, eb] <;> rfl
    have hq' : Q (bs.getD i false) s := hq
    rw [hg] at hq'
    cases ev : vs[i] with
    | non =>
      rw [ev] at e2 ht
      cases e2
      cases ht
      exact truthy_none hq'
    | bl c =>
      rw [ev] at e2 ht
      cases e2
      cases ht
      exact wpAny_truthy_bool hq'
    | int c =>
      rw [ev] at e2 ht
      obtain ⟨t, rfl⟩ := e2
      cases ht
      exact PySem.P.truthy_int hq'
    | _ => rw [ev] at ht; cases ht
def rAnyS (K : PySem.W.Frag) (f : List Bool → Bool) : List V → Hp → VK → Prop := fun xs H Q => ∃ (a : Addr) (vs : List V) (bs : List Bool), xs = [V.ref a] ∧ (SqL K H a vs ∨ SqT K H a vs) ∧ TruL vs bs ∧ Q (.bl (f bs)) H
theorem truL_len {vs : List V} {bs : List Bool} (h : TruL vs bs) : vs.length = bs.length := by
  have := congrArg List.length h
  simpa using this
theorem iter_anyT {prog : Program} {w : World} {A : Around} {E : Value → Shared → Prop} {s : Shared} {l : Addr} {items : Array Value} {Q : Value → Shared → Prop} (hl : s.heap.IsTuple l items)
    (h : ∀ s₂ : Shared, s₂ = { s with heap := s.heap.push { cls := .type "tuple_iterator", data := .fields #[.ref l, .int 0 0] } } →
      (s₂.heap.IsTupleIter s.heap.objs.size l 0 ∧ s₂.heap.IsTuple l items) → l ≠ s.heap.objs.size → Q (.ref s.heap.objs.size) s₂) : wpAny (model prog w) A (pyIter (.ref l)) Q E s := by
  have hlt : l < s.heap.objs.size := by obtain ⟨_, e, _⟩ := hl; exact Heap.lt_size e
  refine wpAny_pyIter_tuple hl (h _ rfl ⟨⟨_, Heap.get?_push_size _ rfl, rfl, rfl⟩, ?_⟩ (Nat.ne_of_lt hlt))
  obtain ⟨o, e, c⟩ := hl
  exact ⟨o, Heap.get?_push_of_some _ e, c⟩
theorem cr_anyS (hc : X.calm = true) : CallR X (.builtin "any") (rAnyS X.K fun bs => bs.any id) := by
  intro pins s σ H vs us Q I r h
  obtain ⟨a, xs, bs, rfl, hs, ht, q⟩ := h
  rw [Vals.ref1 r]
  have hn := truL_len ht
  rcases hs with hs | hs
  · obtain ⟨its, rv, hl, _⟩ := I.list hs
    have hln := rv.length
    refine call_any_walk (iter_any hl.isList fun s₂ e2 st hne => ?_)
    subst e2
    refine ⟨_, _, _, _, _, _, _, rfl, Walks.list (A := X.A.in1) (I.ok.hd hc) _ a hne its.toArray, st, truth_flat ht rv, fun h' tk hk => ?_⟩
    refine ⟨.bl _, H, I.kept fun b o eo => hk b o (fun hmem => ?_) (Heap.get?_push_of_some _ eo), ?_, q⟩
    · rcases List.mem_cons.mp hmem with e1 | hmem
      · exact absurd (e1 ▸ Heap.lt_size eo) (Nat.lt_irrefl _)
      · cases hmem
    · show Value.bool _ = Value.bool _
      show Value.bool _ = Value.bool (bs.any id)
      rw [← L2.any_range, List.size_toArray, ← hln, hn]
  · obtain ⟨its, rv, hl, _⟩ := I.tuple hs
    have hln := rv.length
    refine call_any_walk (iter_anyT hl fun s₂ e2 st hne => ?_)
    subst e2
    refine ⟨_, _, _, _, _, _, _, rfl, Walks.tuple (A := X.A.in1) (I.ok.hd hc) _ a hne its.toArray, st, truth_flat ht rv, fun h' tk hk => ?_⟩
    refine ⟨.bl _, H, I.kept fun b o eo => hk b o (fun hmem => ?_) (Heap.get?_push_of_some _ eo), ?_, q⟩
    · rcases List.mem_cons.mp hmem with e1 | hmem
      · exact absurd (e1 ▸ Heap.lt_size eo) (Nat.lt_irrefl _)
      · cases hmem
    · show Value.bool _ = Value.bool _
      show Value.bool _ = Value.bool (bs.any id)
      rw [← L2.any_range, List.size_toArray, ← hln, hn]
theorem cr_allS (hc : X.calm = true) : CallR X (.builtin "all") (rAnyS X.K fun bs => bs.all id) := by
  intro pins s σ H vs us Q I r h
  obtain ⟨a, xs, bs, rfl, hs, ht, q⟩ := h
  rw [Vals.ref1 r]
  have hn := truL_len ht
  rcases hs with hs | hs
  · obtain ⟨its, rv, hl, _⟩ := I.list hs
    have hln := rv.length
    refine call_all_walk (iter_any hl.isList fun s₂ e2 st hne => ?_)
    subst e2
    refine ⟨_, _, _, _, _, _, _, rfl, Walks.list (A := X.A.in1) (I.ok.hd hc) _ a hne its.toArray, st, truth_flat ht rv, fun h' tk hk => ?_⟩
    refine ⟨.bl _, H, I.kept fun b o eo => hk b o (fun hmem => ?_) (Heap.get?_push_of_some _ eo), ?_, q⟩
    · rcases List.mem_cons.mp hmem with e1 | hmem
      · exact absurd (e1 ▸ Heap.lt_size eo) (Nat.lt_irrefl _)
      · cases hmem
    · show Value.bool _ = Value.bool _
      show Value.bool _ = Value.bool (bs.all id)
      rw [← L2.all_range, List.size_toArray, ← hln, hn]
  · obtain ⟨its, rv, hl, _⟩ := I.tuple hs
    have hln := rv.length
    refine call_all_walk (iter_anyT hl fun s₂ e2 st hne => ?_)
    subst e2
    refine ⟨_, _, _, _, _, _, _, rfl, Walks.tuple (A := X.A.in1) (I.ok.hd hc) _ a hne its.toArray, st, truth_flat ht rv, fun h' tk hk => ?_⟩
    refine ⟨.bl _, H, I.kept fun b o eo => hk b o (fun hmem => ?_) (Heap.get?_push_of_some _ eo), ?_, q⟩
    · rcases List.mem_cons.mp hmem with e1 | hmem
      · exact absurd (e1 ▸ Heap.lt_size eo) (Nat.lt_irrefl _)
      · cases hmem
    · show Value.bool _ = Value.bool _
      show Value.bool _ = Value.bool (bs.all id)
      rw [← L2.all_range, List.size_toArray, ← hln, hn]
theorem clD_any {f : List Bool → Bool} {G H : Hp} {L : Lam} {μ : Store} {Q : VK} {xs : List V} {d : D} (r : RpA k X.K G L xs [d]) (w : Wd k X.K G H L μ)
    (g : Good k X.K E G H L ((do let ds ← seqD d; match truFs ds with | some bs => (pure (.bl (f bs)) : M D) | none => M.bad) μ) (QV k X.K Q)) : rAnyS X.K f xs H Q := by
  obtain ⟨v, rfl, r'⟩ := one_of (H := H) r
  replace r := r'
  obtain ⟨a, vs, ds, rfl, ra, hs, g⟩ := seq_of (f := fun ds => match truFs ds with | some bs => (pure (.bl (f bs)) : M D) | none => M.bad) r w g
  cases e : truFs ds with
  | none => simp only [e] at g; exact False.elim g
  | some bs =>
    simp only [e] at g
    refine ⟨a, vs, bs, rfl, ?_, truL_of ra e, Good.ret g w _ (.bl _)⟩
    rcases hs with ⟨hs, _⟩ | ⟨hs, _⟩
    · exact .inl hs
    · exact .inr hs
theorem f_any (hc : X.calm = true) : FunD k X E (.builtin "any") anyD := by
  refine ⟨_, cr_anyS hc, fun xs ds G H L μ Q r w g => ?_⟩
  match ds, r, g with
  | [], _, g => exact False.elim g
  | [d], r, g => exact clD_any (f := fun bs => bs.any id) r w g
  | _ :: _ :: _, _, g => exact False.elim g
theorem f_all (hc : X.calm = true) : FunD k X E (.builtin "all") allD := by
  refine ⟨_, cr_allS hc, fun xs ds G H L μ Q r w g => ?_⟩
  match ds, r, g with
  | [], _, g => exact False.elim g
  | [d], r, g => exact clD_any (f := fun bs => bs.all id) r w g
  | _ :: _ :: _, _, g => exact False.elim g
def ixD (x y : D) : M D := match y with
  | .int i => do
    let ds ← seqD x
    match atI ds i with
      | some d => pure d
      | none => M.bad
  | _ => M.bad
theorem atI_of {G : Hp} {L : Lam} {vs : List V} {ds : List D} {i : Int} {d : D} (r : RpA k X.K G L vs ds) (h : atI ds i = some d) : ∃ v, atI vs i = some v ∧ Rp k X.K G L v d := by
  unfold atI at h ⊢
  rw [r.len]
  cases e : ixN ds.length i with
  | none => rw [e] at h; cases h
  | some j =>
    rw [e] at h
    exact r.get h
theorem j_ix {a b : Expr} {ma mb : DEnv → M D} {pos : Pos} (ha : JE k X E a ma) (hb : JE k X E b mb) (hs : PlainIx b) : JE k X E (.Subscript a b pos) (eOp ixD ma mb) := by
  refine PE.imp (pe_ix ix_seq ha hb hs) fun s H Q h => dE_op (fun x y dx dy G H L μ Q rx ry w g => ?_) h
  cases dy with
  | int i =>
    cases ry
    obtain ⟨a, vs, ds, rfl, ra, hs, g⟩ := seq_of (f := fun ds => match atI ds i with | some d => (pure d : M D) | none => M.bad) rx w g
    cases e : atI ds i with
    | none => simp only [e] at g; exact False.elim g
    | some d =>
      simp only [e] at g
      obtain ⟨v, hv, rv⟩ := atI_of ra e
      rcases hs with ⟨hs, _⟩ | ⟨hs, _⟩
      · exact .inl ⟨a, vs, i, v, rfl, rfl, hs, hv, Good.ret g w _ rv⟩
      · exact .inr (.inl ⟨a, vs, i, v, rfl, rfl, hs, hv, Good.ret g w _ rv⟩)
  | _ => exact False.elim g
end
end DL
namespace DL
open PySem L2 PyProof.Rows
mutual
def D.dec : (a b : D) → Decidable (a = b)
  | .non, b => match b with
    | .non => Decidable.isTrue rfl
    | .bl _ => Decidable.isFalse nofun | .int _ => Decidable.isFalse nofun | .str _ => Decidable.isFalse nofun | .lst _ => Decidable.isFalse nofun | .tup _ => Decidable.isFalse nofun | .loc _ => Decidable.isFalse nofun | .obj _ _ => Decidable.isFalse nofun | .cls _ => Decidable.isFalse nofun | .dct _ _ => Decidable.isFalse nofun | .fdc _ _ => Decidable.isFalse nofun | .err _ _ => Decidable.isFalse nofun
  | .bl x, b => match b with
    | .bl y => if h : x = y then Decidable.isTrue (by rw [h]) else Decidable.isFalse (by intro z; cases z; exact h rfl)
    | .non => Decidable.isFalse nofun | .int _ => Decidable.isFalse nofun | .str _ => Decidable.isFalse nofun | .lst _ => Decidable.isFalse nofun | .tup _ => Decidable.isFalse nofun | .loc _ => Decidable.isFalse nofun | .obj _ _ => Decidable.isFalse nofun | .cls _ => Decidable.isFalse nofun | .dct _ _ => Decidable.isFalse nofun | .fdc _ _ => Decidable.isFalse nofun | .err _ _ => Decidable.isFalse nofun
  | .int x, b => match b with
    | .int y => if h : x = y then Decidable.isTrue (by rw [h]) else Decidable.isFalse (by intro z; cases z; exact h rfl)
    | .non => Decidable.isFalse nofun | .bl _ => Decidable.isFalse nofun | .str _ => Decidable.isFalse nofun | .lst _ => Decidable.isFalse nofun | .tup _ => Decidable.isFalse nofun | .loc _ => Decidable.isFalse nofun | .obj _ _ => Decidable.isFalse nofun | .cls _ => Decidable.isFalse nofun | .dct _ _ => Decidable.isFalse nofun | .fdc _ _ => Decidable.isFalse nofun | .err _ _ => Decidable.isFalse nofun
  | .str x, b => match b with
    | .str y => if h : x = y then Decidable.isTrue (by rw [h]) else Decidable.isFalse (by intro z; cases z; exact h rfl)
    | .non => Decidable.isFalse nofun | .bl _ => Decidable.isFalse nofun | .int _ => Decidable.isFalse nofun | .lst _ => Decidable.isFalse nofun | .tup _ => Decidable.isFalse nofun | .loc _ => Decidable.isFalse nofun | .obj _ _ => Decidable.isFalse nofun | .cls _ => Decidable.isFalse nofun | .dct _ _ => Decidable.isFalse nofun | .fdc _ _ => Decidable.isFalse nofun | .err _ _ => Decidable.isFalse nofun
  | .lst x, b => match b with
    | .lst y => match D.decL x y with
      | Decidable.isTrue h => Decidable.isTrue (by rw [h])
      | Decidable.isFalse h => Decidable.isFalse (by intro z; cases z; exact h rfl)
    | .non => Decidable.isFalse nofun | .bl _ => Decidable.isFalse nofun | .int _ => Decidable.isFalse nofun | .str _ => Decidable.isFalse nofun | .tup _ => Decidable.isFalse nofun | .loc _ => Decidable.isFalse nofun | .obj _ _ => Decidable.isFalse nofun | .cls _ => Decidable.isFalse nofun | .dct _ _ => Decidable.isFalse nofun | .fdc _ _ => Decidable.isFalse nofun | .err _ _ => Decidable.isFalse nofun
  | .tup x, b => match b with
    | .tup y => match D.decL x y with
      | Decidable.isTrue h => Decidable.isTrue (by rw [h])
      | Decidable.isFalse h => Decidable.isFalse (by intro z; cases z; exact h rfl)
    | .non => Decidable.isFalse nofun | .bl _ => Decidable.isFalse nofun | .int _ => Decidable.isFalse nofun | .str _ => Decidable.isFalse nofun | .lst _ => Decidable.isFalse nofun | .loc _ => Decidable.isFalse nofun | .obj _ _ => Decidable.isFalse nofun | .cls _ => Decidable.isFalse nofun | .dct _ _ => Decidable.isFalse nofun | .fdc _ _ => Decidable.isFalse nofun | .err _ _ => Decidable.isFalse nofun
  | .loc x, b => match b with
    | .loc y => if h : x = y then Decidable.isTrue (by rw [h]) else Decidable.isFalse (by intro z; cases z; exact h rfl)
    | .non => Decidable.isFalse nofun | .bl _ => Decidable.isFalse nofun | .int _ => Decidable.isFalse nofun | .str _ => Decidable.isFalse nofun | .lst _ => Decidable.isFalse nofun | .tup _ => Decidable.isFalse nofun | .obj _ _ => Decidable.isFalse nofun | .cls _ => Decidable.isFalse nofun | .dct _ _ => Decidable.isFalse nofun | .fdc _ _ => Decidable.isFalse nofun | .err _ _ => Decidable.isFalse nofun
  | .obj c x, b => match b with
    | .obj c' y => if h : c = c' then (match D.decL x y with
      | Decidable.isTrue h' => Decidable.isTrue (by rw [h, h'])
      | Decidable.isFalse h' => Decidable.isFalse (by intro z; cases z; exact h' rfl)) else Decidable.isFalse (by intro z; cases z; exact h rfl)
    | .non => Decidable.isFalse nofun | .bl _ => Decidable.isFalse nofun | .int _ => Decidable.isFalse nofun | .str _ => Decidable.isFalse nofun | .lst _ => Decidable.isFalse nofun | .tup _ => Decidable.isFalse nofun | .loc _ => Decidable.isFalse nofun | .cls _ => Decidable.isFalse nofun | .dct _ _ => Decidable.isFalse nofun | .fdc _ _ => Decidable.isFalse nofun | .err _ _ => Decidable.isFalse nofun
  | .cls x, b => match b with
    | .cls y => if h : x = y then Decidable.isTrue (by rw [h]) else Decidable.isFalse (by intro z; cases z; exact h rfl)
    | .non => Decidable.isFalse nofun | .bl _ => Decidable.isFalse nofun | .int _ => Decidable.isFalse nofun | .str _ => Decidable.isFalse nofun | .lst _ => Decidable.isFalse nofun | .tup _ => Decidable.isFalse nofun | .loc _ => Decidable.isFalse nofun | .obj _ _ => Decidable.isFalse nofun | .dct _ _ => Decidable.isFalse nofun | .fdc _ _ => Decidable.isFalse nofun | .err _ _ => Decidable.isFalse nofun
  | .dct c x, b => match b with
    | .dct c' y => if h : c = c' then (match D.decL x y with
      | Decidable.isTrue h' => Decidable.isTrue (by rw [h, h'])
      | Decidable.isFalse h' => Decidable.isFalse (by intro z; cases z; exact h' rfl)) else Decidable.isFalse (by intro z; cases z; exact h rfl)
    | .non => Decidable.isFalse nofun | .bl _ => Decidable.isFalse nofun | .int _ => Decidable.isFalse nofun | .str _ => Decidable.isFalse nofun | .lst _ => Decidable.isFalse nofun | .tup _ => Decidable.isFalse nofun | .loc _ => Decidable.isFalse nofun | .obj _ _ => Decidable.isFalse nofun | .cls _ => Decidable.isFalse nofun | .fdc _ _ => Decidable.isFalse nofun | .err _ _ => Decidable.isFalse nofun
  | .fdc c x, b => match b with
    | .fdc c' y => if h : c = c' then (match D.decL x y with
      | Decidable.isTrue h' => Decidable.isTrue (by rw [h, h'])
      | Decidable.isFalse h' => Decidable.isFalse (by intro z; cases z; exact h' rfl)) else Decidable.isFalse (by intro z; cases z; exact h rfl)
    | .non => Decidable.isFalse nofun | .bl _ => Decidable.isFalse nofun | .int _ => Decidable.isFalse nofun | .str _ => Decidable.isFalse nofun | .lst _ => Decidable.isFalse nofun | .tup _ => Decidable.isFalse nofun | .loc _ => Decidable.isFalse nofun | .obj _ _ => Decidable.isFalse nofun | .cls _ => Decidable.isFalse nofun | .dct _ _ => Decidable.isFalse nofun | .err _ _ => Decidable.isFalse nofun
  | .err c x, b => match b with
    | .err c' y => if h : c = c' then (match D.decL x y with
      | Decidable.isTrue h' => Decidable.isTrue (by rw [h, h'])
      | Decidable.isFalse h' => Decidable.isFalse (by intro z; cases z; exact h' rfl)) else Decidable.isFalse (by intro z; cases z; exact h rfl)
    | .non => Decidable.isFalse nofun | .bl _ => Decidable.isFalse nofun | .int _ => Decidable.isFalse nofun | .str _ => Decidable.isFalse nofun | .lst _ => Decidable.isFalse nofun | .tup _ => Decidable.isFalse nofun | .loc _ => Decidable.isFalse nofun | .obj _ _ => Decidable.isFalse nofun | .cls _ => Decidable.isFalse nofun | .dct _ _ => Decidable.isFalse nofun | .fdc _ _ => Decidable.isFalse nofun
def D.decL : (a b : List D) → Decidable (a = b)
  | [], [] => Decidable.isTrue rfl
  | [], _ :: _ => Decidable.isFalse nofun
  | _ :: _, [] => Decidable.isFalse nofun
  | x :: xs, y :: ys => match D.dec x y with
    | Decidable.isTrue h => match D.decL xs ys with
      | Decidable.isTrue h' => Decidable.isTrue (by rw [h, h'])
      | Decidable.isFalse h' => Decidable.isFalse (by intro z; cases z; exact h' rfl)
    | Decidable.isFalse h => Decidable.isFalse (by intro z; cases z; exact h rfl)
end
instance : DecidableEq D := D.dec
structure Src where
  items : List D
  gd : List (Nat × List D) := []
def cellIs (m : Store) (p : Nat × List D) : Bool := match m[p.1]? with
  | some (some (.lst es)) => decide (es = p.2)
  | _ => false
def Src.okB (s : Src) (m : Store) : Bool := s.gd.all (cellIs m)
def chk (s : Src) : M Unit := fun m => if s.okB m = true then .ok () m else .bad
section
variable (k : Kx) (K : PySem.W.Frag) (E : XK)
def ItOk (G : Hp) (L : Lam) (J : It) (src : Src) : Prop := ∀ G2 H2 L2 μ, Same G G2 → L <+: L2 → Wd k K G2 H2 L2 μ → src.okB μ = true → ∀ i : Nat,
  (∀ d, src.items[i]? = some d → J.go i H2 ∧ ∀ x H3, J.yld i H2 x H3 → ∃ G3, Stp G2 H2 L2 G3 H3 L2 ∧ Wd k K G3 H3 L2 μ ∧ Rp k K G3 L2 x d) ∧ (src.items.length ≤ i → J.stop i H2)
def dI (m : DEnv → M Src) : TI := fun s H R => ∃ e G L μ, Sg k K G L s e ∧ Wd k K G H L μ ∧ Good k K E G H L (m e μ) fun src _ G' H' L' => ∀ J, ItOk k K G' L' J src → R J H'
end
abbrev JI (k : Kx) (X : Cx) (E : XK) (tg iter : Expr) (m : DEnv → M Src) : Prop := PI X tg iter (dI k X.K E m)
theorem PI.imp {X : Cx} {tg e : Expr} {t t' : TI} (h : PI X tg e t) (q : ∀ s H R, t' s H R → t s H R) : PI X tg e t' := ⟨fun pins s σ H R I hw => h.run pins s σ H R I (q _ _ _ hw)⟩
section
variable {k : Kx} {K : PySem.W.Frag} {E : XK} {G H : Hp} {L : Lam} {α β : Type}
theorem chk_good {src : Src} {f : Unit → M β} {m : Store} {Q : β → Store → Hp → Hp → Lam → Prop} (h : Good k K E G H L ((chk src >>= f) m) Q) : src.okB m = true ∧ Good k K E G H L (f () m) Q := by
  have h' : Good k K E G H L (M.bind (chk src) f m) Q := h
  unfold M.bind chk at h'
  by_cases hc : src.okB m = true
  · rw [if_pos hc] at h'
    exact ⟨hc, h'⟩
  · rw [if_neg hc] at h'
    exact False.elim h'
/-- a private object changes -/
theorem Wd.priv {m : Store} (w : Wd k K G H L m) {a : Addr} {o o' : HO} (ga : G a = none) (ha : H a = some o') (nc : NC o') (no : NT o) (nl : ∀ p ∈ L, a ≠ p.1 ∧ a ≠ p.2) : Wd k K G (upd H a o) L m where
  ext := fun b u e => by
    rw [upd_ne (ne_of_none e ga)]
    exact w.ext b u e
  len := w.len
  tk := fun q hq => ⟨nt_upd no (w.tk q hq).1, nt_upd no (w.tk q hq).2⟩
  tab := tabs_upd w.tab (nc_at ha nc)
  gt := w.gt
  cell := fun n c e => by
    obtain ⟨x, y, hl, gx, gy, r⟩ := w.cell n c e
    obtain ⟨n1, n2⟩ := nl (x, y) (List.mem_of_getElem? hl)
    exact ⟨x, y, hl, gx, gy, r.step (Same.refl G) (pre_refl L) (upd_ne (Ne.symm n1)) (upd_ne (Ne.symm n2))⟩
  apart := w.apart
/-- a private object becomes data -/
theorem Wd.adopt {m : Store} (w : Wd k K G H L m) {a : Addr} {o : HO} (ga : G a = none) (ha : H a = some o) (no : NT o) (nl : ∀ p ∈ L, a ≠ p.1 ∧ a ≠ p.2) : Wd k K (upd G a o) H L m where
  ext := fun b u e => by
    by_cases hb : b = a
    · subst hb
      rw [upd_same] at e
      cases e
      exact ha
    · rw [upd_ne hb] at e
      exact w.ext b u e
  len := w.len
  tk := w.tk
  tab := w.tab
  gt := gt_upd no w.gt
  cell := fun n c e => by
    obtain ⟨x, y, hl, gx, gy, r⟩ := w.cell n c e
    obtain ⟨n1, n2⟩ := nl (x, y) (List.mem_of_getElem? hl)
    exact ⟨x, y, hl, by rw [upd_ne (Ne.symm n1)]; exact gx, by rw [upd_ne (Ne.symm n2)]; exact gy, r.step (Same.new ga) (pre_refl L) rfl rfl⟩
  apart := w.apart
/-- a private list becomes a mutable one of the data -/
theorem Wd.adoptLoc {m : Store} (w : Wd k K G H L m) {a : Addr} {vs : List V} {ds : List D} (ga : G a = none) (ha : H a = some (.lst vs)) (nl : ∀ p ∈ L, a ≠ p.1 ∧ a ≠ p.2) (r : RpA k K G L vs ds) : Wd k K G H (L ++ [(a, a)]) (m ++ [some (.lst ds)]) where
  ext := w.ext
  len := by simp [w.len]
  tk := fun q hq => by
    rcases List.mem_append.mp hq with z | z
    · exact w.tk q z
    · simp at z
      subst z
      exact ⟨⟨_, ha, (nc_lst vs).1⟩, ⟨_, ha, (nc_lst vs).1⟩⟩
  tab := w.tab
  gt := w.gt
  cell := fun n c e => by
    by_cases hn : n < m.length
    · rw [List.getElem?_append_left hn] at e
      obtain ⟨x, y, hl, gx, gy, r'⟩ := w.cell n c e
      exact ⟨x, y, pre_get (List.prefix_append _ _) hl, gx, gy, r'.step (Same.refl G) (List.prefix_append _ _) rfl rfl⟩
    · have h1 := (List.getElem?_eq_some_iff.mp e).1
      simp at h1
      have e0 : n = m.length := by omega
      subst e0
      simp at e
      subst e
      exact ⟨a, a, by rw [← w.len]; simp, ga, ga, rfl, vs, ha, RpA.mono (Same.refl G) (List.prefix_append _ _) _ _ r⟩
  apart := fun i j x y x' y' li lj ne hx hy => by
    have old : ∀ {i : Nat} {x y : Addr}, Live m i → (L ++ [(a, a)])[i]? = some (x, y) → x ≠ a ∧ y ≠ a ∧ L[i]? = some (x, y) := fun {i x y} li hx => by
      have hlt : i < L.length := by rw [w.len]; exact live_lt li
      rw [List.getElem?_append_left hlt] at hx
      obtain ⟨n1, n2⟩ := nl (x, y) (List.mem_of_getElem? hx)
      exact ⟨Ne.symm n1, Ne.symm n2, hx⟩
    have new : ∀ {x y : Addr}, (L ++ [(a, a)])[m.length]? = some (x, y) → x = a ∧ y = a := fun {x y} hx => by
      rw [← w.len] at hx
      simp at hx
      exact ⟨hx.1.symm, hx.2.symm⟩
    rcases live_app li with li | e1
    · obtain ⟨n1, n2, q1⟩ := old li hx
      rcases live_app lj with lj | e2
      · obtain ⟨n3, n4, q2⟩ := old lj hy
        exact w.apart i j x y x' y' li lj ne q1 q2
      · subst e2
        obtain ⟨rfl, rfl⟩ := new hy
        exact ⟨n1, n1, n2, n2⟩
    · subst e1
      obtain ⟨rfl, rfl⟩ := new hx
      rcases live_app lj with lj | e2
      · obtain ⟨n3, n4, q2⟩ := old lj hy
        exact ⟨n3.symm, n4.symm, n3.symm, n4.symm⟩
      · exact absurd e2.symm ne
end
def sNil : DEnv → M Out := fun e => pure (.nx e)
def andThen (o : Out) (s : DEnv → M Out) : M Out := match o with
  | .nx e => s e
  | o => pure o
def sSeq (s t : DEnv → M Out) : DEnv → M Out := fun e => do let o ← s e; andThen o t
def sSet (i : Nat) (a : DEnv → M D) : DEnv → M Out := fun e => do let x ← a e; pure (.nx (e.set i (some x)))
def sAsg (a : DEnv → M D) (g : D → DEnv → M DEnv) : DEnv → M Out := fun e => do let x ← a e; let e' ← g x e; pure (.nx e')
def sIf (t : DEnv → M Bool) (s u : DEnv → M Out) : DEnv → M Out := fun e => do let c ← t e; if c then s e else u e
def sRet (a : DEnv → M D) : DEnv → M Out := fun e => do let x ← a e; pure (.rt x)
def sExpr (a : DEnv → M D) : DEnv → M Out := fun e => do let _ ← a e; pure (.nx e)
def forL (src : Src) (g : D → DEnv → M DEnv) (b : DEnv → M Out) : List D → DEnv → M Out
  | [], e => do chk src; pure (.nx e)
  | d :: ds, e => do
    chk src
    let e1 ← g d e
    let o ← b e1
    match o with
      | .nx e2 => forL src g b ds e2
      | .ct e2 => forL src g b ds e2
      | .bk e2 => pure (.nx e2)
      | .rt d => pure (.rt d)
def sFor (it : DEnv → M Src) (g : D → DEnv → M DEnv) (b : DEnv → M Out) : DEnv → M Out := fun e => do let src ← it e; forL src g b src.items e
def whileL (t : DEnv → M Bool) (b : DEnv → M Out) : Nat → DEnv → M Out
  | 0, _ => M.bad
  | n + 1, e => do
    let c ← t e
    if c then (do
      let o ← b e
      match o with
        | .nx e2 => whileL t b n e2
        | .ct e2 => whileL t b n e2
        | .bk e2 => pure (.nx e2)
        | .rt d => pure (.rt d)) else pure (.nx e)
def sWhile (fuel : Nat) (t : DEnv → M Bool) (b : DEnv → M Out) : DEnv → M Out := fun e => whileL t b fuel e
def gNm (i : Nat) : D → DEnv → M DEnv := fun d e => pure (e.set i (some d))
def gTp (n : Nat) (g : List D → DEnv → M DEnv) : D → DEnv → M DEnv := fun d e => match d with
  | .tup ds => if ds.length = n then g ds e else M.bad
  | _ => M.bad
def gsNil : List D → DEnv → M DEnv := fun _ e => pure e
def gsCons (g : D → DEnv → M DEnv) (gs : List D → DEnv → M DEnv) : List D → DEnv → M DEnv := fun ds e => match ds with
  | d :: r => do let e1 ← g d e; gs r e1
  | [] => M.bad
section
variable {k : Kx} {X : Cx} {E : XK} {e a b : Expr} {ma mb : DEnv → M D} {pos : Pos} {st : Stmt} {rest : List Stmt} {ms mr mt' : DEnv → M Out} {mt : DEnv → M Bool}
theorem jb_nil : JB k X E [] sNil := by
  refine PSs.imp pss_nil fun D s H h => ?_
  obtain ⟨e, G, L, μ, sg, w, gd⟩ := h
  exact Good.ret gd w s sg
theorem jb_one (h : JS k X E st ms) : JB k X E [st] ms := pss_one h
theorem jb_cons (h : JS k X E st ms) (hr : JB k X E rest mr) : JB k X E (st :: rest) (sSeq ms mr) := by
  refine PSs.imp (pss_cons h hr) fun D s H h => ?_
  obtain ⟨e, G, L, μ, sg, w, gd⟩ := h
  refine ⟨e, G, L, μ, sg, w, Good.mono (Good.bind gd) fun o m1 G1 H1 L1 st1 w1 q1 => ?_⟩
  cases o with
  | nx e1 => exact fun s1 sg1 => ⟨e1, G1, L1, m1, sg1, w1, q1⟩
  | rt d => exact Good.ret q1 w1
  | bk e1 => exact Good.ret q1 w1
  | ct e1 => exact Good.ret q1 w1
theorem js_set (i : Nat) {x : Str} {pos' : Pos} (hN : X.N.Nodup) (hi : X.N[i]? = some x) (hx : Loc X.env.scope x) (ha : JE k X E a ma) (hs : swapsWith a (some (.Name x pos')) pos.line X.env = pure false := by rfl)
    (hf : X.fn x = true ∨ X.env.scope.names.lookup x = some .local := by first | exact .inl rfl | exact .inr rfl | assumption) : JS k X E (.Assign [.Name x pos'] a pos) (sSet i ma) := by
  refine PS.imp (ps_set hN hi hx ha hs hf) fun D s H h => ?_
  obtain ⟨e, G, L, μ, sg, w, gd⟩ := h
  refine ⟨e, G, L, μ, sg, w, Good.mono (Good.bind gd) fun d m1 G1 H1 L1 st1 w1 q1 v r => ?_⟩
  exact Good.ret q1 w1 _ ((sg.mono st1.g st1.l).set i r)
theorem js_ret (ha : JE k X E a ma) : JS k X E (.Return (some a) pos) (sRet ma) := by
  refine PS.imp (ps_ret ha) fun D s H h => ?_
  obtain ⟨e, G, L, μ, sg, w, gd⟩ := h
  exact ⟨e, G, L, μ, sg, w, Good.mono (Good.bind gd) fun d m1 G1 H1 L1 st1 w1 q1 v r => Good.ret q1 w1 _ r⟩
theorem js_expr (ha : JE k X E a ma) (hs : swapsWith a none pos.line X.env = pure false := by rfl) : JS k X E (.Expr a pos) (sExpr ma) := by
  refine PS.imp (ps_expr ha hs) fun D s H h => ?_
  obtain ⟨e, G, L, μ, sg, w, gd⟩ := h
  exact ⟨e, G, L, μ, sg, w, Good.mono (Good.bind gd) fun d m1 G1 H1 L1 st1 w1 q1 v r => Good.ret q1 w1 _ (sg.mono st1.g st1.l)⟩
theorem js_if {c : Expr} {sa sb : List Stmt} (hc : JT k X E c mt) (ha : JB k X E sa ms) (hb : JB k X E sb mr) : JS k X E (.If c sa sb pos) (sIf mt ms mr) := by
  refine PS.imp (ps_if hc ha hb) fun D s H h => ?_
  obtain ⟨e, G, L, μ, sg, w, gd⟩ := h
  refine ⟨e, G, L, μ, sg, w, Good.mono (Good.bind gd) fun c m1 G1 H1 L1 st1 w1 q1 => ?_⟩
  cases c with
  | true => exact ⟨e, G1, L1, m1, sg.mono st1.g st1.l, w1, q1⟩
  | false => exact ⟨e, G1, L1, m1, sg.mono st1.g st1.l, w1, q1⟩
theorem set_agree {s : L2.St} {i : Nat} {v : V} : (s.set i (some v)).length = s.length ∧ ∀ j, j ∉ [i] → (s.set i (some v))[j]? = s[j]? := ⟨List.length_set, fun j hj => List.getElem?_set_ne (by simp at hj; exact Ne.symm hj)⟩
theorem jg_name (i : Nat) {x : Str} (hN : X.N.Nodup) (hi : X.N[i]? = some x) (hx : Loc X.env.scope x) (hf : X.fn x = true ∨ X.env.scope.names.lookup x = some .local := by first | exact .inl rfl | exact .inr rfl | assumption) : JG k X E (.Name x pos) [i] (gNm i) := by
  refine PG.imp (pg_name hN hi hx hf) fun v s H Q h => ?_
  obtain ⟨d, e, G, L, μ, sg, r, w, gd⟩ := h
  exact Good.ret gd w _ (sg.set i r) set_agree
/-- several targets -/
def dGs (k : Kx) (K : PySem.W.Frag) (E : XK) (ts : List Nat) (g : List D → DEnv → M DEnv) : TGs := fun vs s H Q => ∃ ds e G L μ, Sg k K G L s e ∧ RpA k K G L vs ds ∧ Wd k K G H L μ ∧ Good k K E G H L (g ds e μ) fun e' _ G' H' L' => ∀ s', Sg k K G' L' s' e' → (s'.length = s.length ∧ ∀ i, i ∉ ts → s'[i]? = s[i]?) → Q s' H'
abbrev JGs (k : Kx) (X : Cx) (E : XK) (n : Nat) (es : List Expr) (ts : List Nat) (g : List D → DEnv → M DEnv) : Prop := ∃ t, PGs X es t ∧ ∀ vs s H Q, vs.length = n → dGs k X.K E ts g vs s H Q → t vs s H Q
theorem jgs_nil : JGs k X E 0 [] [] gsNil := by
  refine ⟨_, pgs_nil, fun vs s H Q hl h => ?_⟩
  obtain ⟨ds, e, G, L, μ, sg, r, w, gd⟩ := h
  exact ⟨List.eq_nil_of_length_eq_zero hl, Good.ret gd w _ sg ⟨rfl, fun _ _ => rfl⟩⟩
theorem jgs_cons {n : Nat} {tg : Expr} {tgs : List Expr} {ts us : List Nat} {g : D → DEnv → M DEnv} {gs : List D → DEnv → M DEnv} (h : JG k X E tg ts g) (hs : JGs k X E n tgs us gs) (hst : (assignEach (tg :: tgs) X.env).map (·.2) = assign tg X.env :: (assignEach tgs X.env).map (·.2) := by rfl) : JGs k X E (n + 1) (tg :: tgs) (ts ++ us) (gsCons g gs) := by
  obtain ⟨t, h2, q⟩ := hs
  refine ⟨_, pgs_cons h h2 hst, fun vs s H Q hl hd => ?_⟩
  obtain ⟨ds, e, G, L, μ, sg, r, w, gd⟩ := hd
  cases r with
  | nil => cases hl
  | @cons v vs d ds h1 hr =>
    refine ⟨v, vs, rfl, ⟨d, e, G, L, μ, sg, h1, w, Good.mono (Good.bind gd) fun e1 m1 G1 H1 L1 st1 w1 q1 s1 sg1 ag => ?_⟩⟩
    refine q vs s1 H1 Q (by simpa using hl) ⟨ds, e1, G1, L1, m1, sg1, RpA.mono st1.g st1.l _ _ hr, w1, Good.mono q1 fun e2 m2 G2 H2 L2 st2 w2 q2 s2 sg2 ag2 => ?_⟩
    refine q2 s2 sg2 ⟨ag2.1.trans ag.1, fun i hi => ?_⟩
    rw [List.mem_append, not_or] at hi
    rw [ag2.2 i hi.2, ag.2 i hi.1]
theorem jg_tup {n : Nat} {es : List Expr} {kk : Nat} {ts : List Nat} {g : List D → DEnv → M DEnv} (hc : X.calm = true) (h : JGs k X E n es ts g)
    (hn : (assignEach es X.env).length = n := by rfl) (hst : (assignEach es X.env).findIdx? (·.1) = none := by rfl) : JG k X E (.Tuple es kk pos) ts (gTp n g) := by
  obtain ⟨t, h1, q⟩ := h
  refine PG.imp (pg_tup hc h1 hn hst) fun v s H Q hd => ?_
  obtain ⟨d, e, G, L, μ, sg, r, w, gd⟩ := hd
  cases d with
  | tup ds =>
    cases r with
    | @tup a xs _ hs ha =>
      obtain ⟨hl, gd⟩ := good_ite gd
      exact ⟨a, xs, rfl, sqT_mono w.ext hs, by rw [ha.len]; exact hl, q xs s H Q (by rw [ha.len]; exact hl) ⟨ds, e, G, L, μ, sg, ha, w, gd⟩⟩
  | _ => exact False.elim gd
theorem js_asg {tg : Expr} {ts : List Nat} {g : D → DEnv → M DEnv} (ha : JE k X E a ma) (hg : JG k X E tg ts g) (hs : swapsWithSole [tg] a pos.line X.env = pure false := by rfl) (hw : swappedStores [tg] a X.env = pure none := by rfl)
    (h1 : (assignEach [tg] X.env).map (·.2) = [assign tg X.env] := by rfl) : JS k X E (.Assign [tg] a pos) (sAsg ma g) := by
  refine PS.imp (ps_asg ha hg hs hw h1) fun D s H h => ?_
  obtain ⟨e, G, L, μ, sg, w, gd⟩ := h
  refine ⟨e, G, L, μ, sg, w, Good.mono (Good.bind gd) fun d m1 G1 H1 L1 st1 w1 q1 v r => ?_⟩
  refine ⟨d, e, G1, L1, m1, sg.mono st1.g st1.l, r, w1, Good.mono (Good.bind q1) fun e2 m2 G2 H2 L2 st2 w2 q2 s2 sg2 ag => ?_⟩
  exact Good.ret q2 w2 _ sg2
end
end DL
namespace DL
open PySem L2 PyProof.Rows
section
variable {k : Kx} {X : Cx} {E : XK} {tg iter : Expr} {pos : Pos}
theorem js_for {body : List Stmt} {mi : DEnv → M Src} {ts : List Nat} {g : D → DEnv → M DEnv} {mb : DEnv → M Out} (hp : PassesOwn (model X.prog X.w) X.A X.env X.xe) (hc : X.calm = true) (hi : JI k X E tg iter mi) (hg : JG k X E tg ts g) (hb : JB k X E body mb)
    (hs : ∀ x, foldedSetIterable iter X.env x = pure x := by intro _; rfl) : JS k X E (.For tg iter body [] pos) (sFor mi g mb) := by
  refine PS.imp (ps_for hp hc hi hg hb hs) fun Ds s H h => ?_
  obtain ⟨e, G, L, μ, sg, w, gd⟩ := h
  refine ⟨e, G, L, μ, sg, w, Good.mono (Good.bind gd) fun src m1 G1 H1 L1 st1 w1 q1 J ok => ?_⟩
  refine ⟨fun i m σ H => m = src.items.length - i ∧ i ≤ src.items.length ∧ ∃ e G L μ, Sg k X.K G L σ e ∧ Wd k X.K G H L μ ∧ Same G1 G ∧ L1 <+: L ∧ Good k X.K E G H L (forL src g mb (src.items.drop i) e μ) (fun o _ G' H' L' => OutOk k X.K Ds o G' H' L'),
    ⟨src.items.length, by simp, Nat.zero_le _, e, G1, L1, m1, sg.mono st1.g st1.l, w1, Same.refl _, pre_refl _, by simpa using q1⟩, ?_⟩
  rintro i m σ H2 ⟨rfl, hi, e2, G2, L2, μ2, sg2, w2, ge, le, q2⟩
  by_cases hlt : i < src.items.length
  · have hd : src.items.drop i = src.items[i] :: src.items.drop (i + 1) := List.drop_eq_getElem_cons hlt
    rw [hd] at q2
    obtain ⟨hok, q2⟩ := chk_good q2
    obtain ⟨ho, _⟩ := ok G2 H2 L2 μ2 ge le w2 hok i
    obtain ⟨go, yl⟩ := ho src.items[i] (List.getElem?_eq_getElem hlt)
    refine .inr ⟨go, fun σ' H' => ∃ e G L μ, Sg k X.K G L σ' e ∧ Wd k X.K G H' L μ ∧ Same G1 G ∧ L1 <+: L ∧ Good k X.K E G H' L (forL src g mb (src.items.drop (i + 1)) e μ) (fun o _ G' H' L' => OutOk k X.K Ds o G' H' L'), ?_, fun x H3 y => ?_⟩
    · rintro σ' H' q
      exact ⟨src.items.length - (i + 1), by omega, rfl, hlt, q⟩
    · obtain ⟨G3, st3, w3, r3⟩ := yl x H3 y
      refine ⟨src.items[i], e2, G3, L2, μ2, sg2.mono st3.g st3.l, r3, w3, Good.mono (Good.bind (Good.up q2 st3)) fun e4 m4 G4 H4 L4 st4 w4 q4 s4 sg4 ag => ?_⟩
      refine ⟨e4, G4, L4, m4, sg4, w4, Good.mono (Good.bind q4) fun o m5 G5 H5 L5 st5 w5 q5 => ?_⟩
      have ge5 : Same G1 G5 := ((ge.trans st3.g).trans st4.g).trans st5.g
      have le5 : L1 <+: L5 := ((le.trans st3.l).trans st4.l).trans st5.l
      cases o with
      | nx e5 => exact fun s5 sg5 => ⟨e5, G5, L5, m5, sg5, w5, ge5, le5, q5⟩
      | ct e5 => exact fun s5 sg5 => ⟨e5, G5, L5, m5, sg5, w5, ge5, le5, q5⟩
      | bk e5 => exact fun s5 sg5 => Good.ret q5 w5 s5 sg5
      | rt d => exact Good.ret q5 w5
  · have e0 : i = src.items.length := by omega
    subst e0
    rw [List.drop_length] at q2
    obtain ⟨hok, q2⟩ := chk_good q2
    obtain ⟨_, stp⟩ := ok G2 H2 L2 μ2 ge le w2 hok src.items.length
    exact .inl ⟨stp (Nat.le_refl _), Good.ret q2 w2 σ sg2⟩
theorem js_while {c : Expr} {body : List Stmt} {mt : DEnv → M Bool} {mb : DEnv → M Out} (fuel : Nat) (hp : PassesOwn (model X.prog X.w) X.A X.env X.xe) (hc : JT k X E c mt) (hb : JB k X E body mb) : JS k X E (.While c body [] pos) (sWhile fuel mt mb) := by
  refine PS.imp (ps_while hp hc hb) fun Ds s H h => ?_
  obtain ⟨e, G, L, μ, sg, w, gd⟩ := h
  refine ⟨fun m σ H => ∃ e G L μ, Sg k X.K G L σ e ∧ Wd k X.K G H L μ ∧ Good k X.K E G H L (whileL mt mb m e μ) (fun o _ G' H' L' => OutOk k X.K Ds o G' H' L'), ⟨fuel, e, G, L, μ, sg, w, gd⟩, ?_⟩
  rintro m σ H ⟨e, G, L, μ, sg, w, gd⟩
  cases m with
  | zero => exact False.elim gd
  | succ n =>
    refine ⟨e, G, L, μ, sg, w, Good.mono (Good.bind gd) fun c m1 G1 H1 L1 st1 w1 q1 => ?_⟩
    cases c with
    | false => exact Good.ret q1 w1 σ (sg.mono st1.g st1.l)
    | true =>
      refine ⟨fun σ' H' => ∃ e G L μ, Sg k X.K G L σ' e ∧ Wd k X.K G H' L μ ∧ Good k X.K E G H' L (whileL mt mb n e μ) (fun o _ G' H' L' => OutOk k X.K Ds o G' H' L'), fun σ' H' q => ⟨n, Nat.lt_succ_self n, q⟩, ?_⟩
      refine ⟨e, G1, L1, m1, sg.mono st1.g st1.l, w1, Good.mono (Good.bind q1) fun o m5 G5 H5 L5 st5 w5 q5 => ?_⟩
      cases o with
      | nx e5 => exact fun s5 sg5 => ⟨e5, G5, L5, m5, sg5, w5, q5⟩
      | ct e5 => exact fun s5 sg5 => ⟨e5, G5, L5, m5, sg5, w5, q5⟩
      | bk e5 => exact fun s5 sg5 => Good.ret q5 w5 s5 sg5
      | rt d => exact Good.ret q5 w5
def srcD (d : D) : M Src := fun m => match d with
  | .lst ds => .ok ⟨ds, []⟩ m
  | .tup ds => .ok ⟨ds, []⟩ m
  | .loc n => match m[n]? with
    | some (some (.lst ds)) => .ok ⟨ds, [(n, ds)]⟩ m
    | _ => .bad
  | _ => .bad
def iSeqD (a : DEnv → M D) : DEnv → M Src := fun e => do let x ← a e; srcD x
def iSeqT (K : PySem.W.Frag) (tl : TE) : TI := fun σ H R => tl σ H fun x H1 => ∃ a, x = .ref a ∧ (((∃ xs, SqL K H1 a xs) ∧ R (Itl K a) H1) ∨ ((∃ xs, SqT K H1 a xs) ∧ R (Itt K a) H1))
theorem pi_seq {l : Expr} {tl : TE} (hl : PE X l tl) : PI X tg l (iSeqT X.K tl) := by
  refine ⟨fun pins s σ H R I h => ?_⟩
  refine thn (hl.run pins s σ H _ I h) fun v s1 ⟨x, H1, I1, r1, q1⟩ => ?_
  obtain ⟨a, e, q1⟩ := q1
  subst e
  cases r1
  have fin : ∀ b ∈ [s1.heap.objs.size], FpOk X pins H1 b := fun b hb => by
    have e : b = s1.heap.objs.size := by simpa using hb
    subst e
    exact I1.fpOk (Nat.le_refl _) (I1.hok.fresh (Nat.le_refl _))
  rcases q1 with ⟨⟨xs, hq⟩, q⟩ | ⟨⟨xs, hq⟩, q⟩
  · obtain ⟨its, rv, p, hz⟩ := I1.list hq
    refine wpAny_pyIter_list p.isList ?_
    exact ⟨s1.heap.objs.size, [s1.heap.objs.size], _, _, H1, rfl, I1.kept (t' := s1.toks) fun b o e => Heap.get?_push_of_some _ e, turn_list a _, ⟨_, Heap.get?_push_size _ rfl, rfl, rfl⟩, fin, q⟩
  · obtain ⟨its, rv, p, hz⟩ := I1.tuple hq
    refine wpAny_pyIter_tuple (show s1.heap.IsTuple a its.toArray from p) ?_
    exact ⟨s1.heap.objs.size, [s1.heap.objs.size], _, _, H1, rfl, I1.kept (t' := s1.toks) fun b o e => Heap.get?_push_of_some _ e, turn_tuple a _, ⟨_, Heap.get?_push_size _ rfl, rfl, rfl⟩, fin, q⟩
theorem cellIs_of {m : Store} {n : Nat} {ds : List D} (h : cellIs m (n, ds) = true) : m[n]? = some (some (.lst ds)) := by
  unfold cellIs at h
  split at h
  · rename_i es e
    have := of_decide_eq_true h
    simp only at this e
    rw [e, this]
  · cases h
/-- a source's address, and its items through all that follows -/
def Stand (k : Kx) (K : PySem.W.Frag) (G : Hp) (L : Lam) (src : Src) (a : Addr) (isL : Bool) : Prop :=
  ∀ G2 H2 L2 μ, Same G G2 → L <+: L2 → Wd k K G2 H2 L2 μ → src.okB μ = true → ∃ vs, (if isL = true then SqL K H2 a vs else SqT K H2 a vs) ∧ RpA k K G2 L2 vs src.items
theorem okB_app {s t : Src} {m : Store} {xs : List D} (h : (Src.mk xs (s.gd ++ t.gd)).okB m = true) : s.okB m = true ∧ t.okB m = true := by
  unfold Src.okB at h ⊢
  rw [List.all_append, Bool.and_eq_true] at h
  exact h
theorem src_at {d : D} {x : V} {G H : Hp} {L : Lam} {μ : Store} {β : Type} {f : Src → M β} {Q : β → Store → Hp → Hp → Lam → Prop} (r : Rp k X.K G L x d) (w : Wd k X.K G H L μ) (g : Good k X.K E G H L ((srcD d >>= f) μ) Q) :
    ∃ a isL src, x = .ref a ∧ (∃ vs, if isL = true then SqL X.K H a vs else SqT X.K H a vs) ∧ Stand k X.K G L src a isL ∧ Good k X.K E G H L (f src μ) Q := by
  cases d with
  | lst ds =>
    cases r with
    | @lst a xs _ hs ha => exact ⟨a, true, ⟨ds, []⟩, rfl, ⟨xs, w.ext.seq hs⟩, fun G2 H2 L2 μ2 ge le w2 _ => ⟨xs, (ge.trans w2.ext).seq hs, RpA.mono ge le _ _ ha⟩, g⟩
  | tup ds =>
    cases r with
    | @tup a xs _ hs ha => exact ⟨a, false, ⟨ds, []⟩, rfl, ⟨xs, sqT_mono w.ext hs⟩, fun G2 H2 L2 μ2 ge le w2 _ => ⟨xs, sqT_mono (ge.trans w2.ext) hs, RpA.mono ge le _ _ ha⟩, g⟩
  | loc n =>
    have g' : Good k X.K E G H L (M.bind (srcD (.loc n)) f μ) Q := g
    unfold M.bind srcD at g'
    simp only at g'
    cases hm : μ[n]? with
    | none => rw [hm] at g'; exact False.elim g'
    | some o =>
      cases o with
      | none => rw [hm] at g'; exact False.elim g'
      | some c =>
        cases c with
        | ins _ _ => rw [hm] at g'; exact False.elim g'
        | dct _ _ => rw [hm] at g'; exact False.elim g'
        | lst ds =>
          rw [hm] at g'
          obtain ⟨a, vs, rfl, hl, _, h, ra⟩ := w.look hm r
          refine ⟨a, true, ⟨ds, [(n, ds)]⟩, rfl, ⟨vs, SqL.of h⟩, fun G2 H2 L2 μ2 ge le w2 ok => ?_, g'⟩
          have hc : cellIs μ2 (n, ds) = true := by
            have : ([(n, ds)] : List (Nat × List D)).all (cellIs μ2) = true := ok
            simpa using this
          obtain ⟨a', vs', e1, hl', _, h', ra'⟩ := w2.look (cellIs_of hc) (Rp.mono ge le _ _ r)
          cases e1
          exact ⟨vs', SqL.of h', ra'⟩
  | _ => exact False.elim g
theorem itt_ok {G : Hp} {L : Lam} {src : Src} {a : Addr} (h : Stand k X.K G L src a false) : ItOk k X.K G L (Itt X.K a) src := by
  intro G2 H2 L2 μ ge le w ok i
  obtain ⟨vs, hs, ra⟩ := h G2 H2 L2 μ ge le w ok
  refine ⟨fun d hd => ?_, fun hl => ⟨vs, hs, by rw [ra.len]; exact hl⟩⟩
  obtain ⟨v, hv, rv⟩ := ra.get hd
  refine ⟨⟨vs, v, hs, hv⟩, fun x H3 y => ?_⟩
  obtain ⟨rfl, y⟩ := y
  have := y vs hs
  rw [hv] at this
  cases this
  exact ⟨G2, Stp.refl _ _ _, w, rv⟩
theorem itl_ok' {G : Hp} {L : Lam} {src : Src} {a : Addr} (h : Stand k X.K G L src a true) : ItOk k X.K G L (Itl X.K a) src := by
  intro G2 H2 L2 μ ge le w ok i
  obtain ⟨vs, hs, ra⟩ := h G2 H2 L2 μ ge le w ok
  refine ⟨fun d hd => ?_, fun hl => ⟨vs, hs, by rw [ra.len]; exact hl⟩⟩
  obtain ⟨v, hv, rv⟩ := ra.get hd
  refine ⟨⟨vs, v, hs, hv⟩, fun x H3 y => ?_⟩
  obtain ⟨rfl, y⟩ := y
  have := y vs hs
  rw [hv] at this
  cases this
  exact ⟨G2, Stp.refl _ _ _, w, rv⟩
theorem ji_seq {a : Expr} {ma : DEnv → M D} (ha : JE k X E a ma) : JI k X E tg a (iSeqD ma) := by
  refine PI.imp (pi_seq ha) fun s H R h => ?_
  obtain ⟨e, G, L, μ, sg, w, gd⟩ := h
  refine ⟨e, G, L, μ, sg, w, Good.mono (Good.bind gd) fun d m1 G1 H1 L1 st1 w1 q1 v r => ?_⟩
  obtain ⟨a, isL, src, rfl, ⟨vs, hv⟩, sd, q⟩ := src_at (f := fun s => (pure s : M Src)) r w1 (show Good k X.K E G1 H1 L1 ((srcD d >>= fun s => (pure s : M Src)) m1) _ by
    have e2 : (srcD d >>= fun s => (pure s : M Src)) m1 = srcD d m1 := by
      show M.bind (srcD d) _ m1 = _
      unfold M.bind
      cases srcD d m1 <;> rfl
    rw [e2]
    exact q1)
  refine ⟨a, rfl, ?_⟩
  cases isL with
  | true => exact .inl ⟨⟨vs, hv⟩, Good.ret q w1 _ (itl_ok' sd)⟩
  | false => exact .inr ⟨⟨vs, hv⟩, Good.ret q w1 _ (itt_ok sd)⟩
def rngI (lo : Int) (n : Nat) : List D := (List.range n).map fun (i : Nat) => D.int (lo + (i : Int))
def iRg1 (a : DEnv → M (List D)) : DEnv → M Src := fun e => do
  let xs ← a e
  match xs with
    | [.int n] => if -(2 ^ 62) ≤ n ∧ n < 2 ^ 62 then pure ⟨rngI 0 n.toNat, []⟩ else M.bad
    | _ => M.bad
theorem itr_ok {G : Hp} {L : Lam} {lo : Int} {n : Nat} : ItOk k X.K G L (Itr lo n) ⟨rngI lo n, []⟩ := by
  intro G2 H2 L2 μ ge le w ok i
  refine ⟨fun d hd => ?_, fun hl => show n ≤ i by simpa [rngI] using hl⟩
  have hi : i < n := by
    have := (List.getElem?_eq_some_iff.mp hd).1
    simpa [rngI] using this
  refine ⟨hi, fun x H3 y => ?_⟩
  obtain ⟨rfl, rfl⟩ := y
  have : d = .int (lo + (i : Int)) := by
    simp [rngI, hi] at hd
    exact hd.symm
  subst this
  exact ⟨G2, Stp.refl _ _ _, w, .int _⟩
theorem ji_range1 {a : Expr} {ms : DEnv → M (List D)} {p : Pos} (hg : Gl X "range") (hm : X.mg "range" = none) (ha : JA k X E [a] ms) (hs : starEach [a] X.env = [(false, eval a X.env)] := by rfl) : JI k X E tg (.Call (.Name "range" p) [a] [] pos) (iRg1 ms) := by
  refine PI.imp (pi_range1 hg hm ha hs) fun s H R h => ?_
  obtain ⟨e, G, L, μ, sg, w, gd⟩ := h
  refine ⟨e, G, L, μ, sg, w, Good.mono (Good.bind gd) fun ds m1 G1 H1 L1 st1 w1 q1 vs r => ?_⟩
  match ds, r, q1 with
  | [.int n], r, q1 =>
    obtain ⟨v, rfl, r'⟩ := one_of (H := H1) r
    cases r'
    obtain ⟨⟨h1, h2⟩, q1⟩ := good_ite q1
    exact ⟨n, rfl, h1, h2, Good.ret q1 w1 _ itr_ok⟩
  | [], _, q1 => exact False.elim q1
  | [.non], _, q1 => exact False.elim q1
  | [.bl _], _, q1 => exact False.elim q1
  | [.str _], _, q1 => exact False.elim q1
  | [.lst _], _, q1 => exact False.elim q1
  | [.tup _], _, q1 => exact False.elim q1
  | [.loc _], _, q1 => exact False.elim q1
  | [.obj _ _], _, q1 => exact False.elim q1
  | [.cls _], _, q1 => exact False.elim q1
  | [.dct _ _], _, q1 => exact False.elim q1
  | [.fdc _ _], _, q1 => exact False.elim q1
  | [.err _ _], _, q1 => exact False.elim q1
  | x :: _ :: _, _, q1 => cases x <;> exact False.elim q1
def zipT (xs ys : List D) : List D := (xs.zip ys).map fun p => D.tup [p.1, p.2]
theorem zipT_get {xs ys : List D} {i : Nat} {d : D} (h : (zipT xs ys)[i]? = some d) : ∃ x y, xs[i]? = some x ∧ ys[i]? = some y ∧ d = .tup [x, y] := by
  unfold zipT at h
  rw [List.getElem?_map] at h
  cases e : (xs.zip ys)[i]? with
  | none => rw [e] at h; cases h
  | some p =>
    rw [e] at h
    cases h
    rw [List.getElem?_zip_eq_some] at e
    exact ⟨p.1, p.2, e.1, e.2, rfl⟩
theorem zipT_len (xs ys : List D) : (zipT xs ys).length = min xs.length ys.length := by simp [zipT]
theorem two_new {G H : Hp} {L : Lam} {μ : Store} {T : Addr} {x y : V} {dx dy : D} (w : Wd k X.K G H L μ) (hT : H T = none) (r1 : Rp k X.K G L x dx) (r2 : Rp k X.K G L y dy) :
    ∃ G3, Stp G H L G3 (upd H T (.tup [x, y])) L ∧ Wd k X.K G3 (upd H T (.tup [x, y])) L μ ∧ Rp k X.K G3 L (.ref T) (.tup [dx, dy]) := by
  have st := w.newS (o := .tup [x, y]) hT
  exact ⟨_, st, w.new hT, .tup (SqT.of upd_same) (.cons (Rp.mono st.g st.l _ _ r1) (.cons (Rp.mono st.g st.l _ _ r2) .nil))⟩
def notTup : D → Bool
  | .tup _ => false
  | _ => true
/-- src_at, with the kind told by the data -/
theorem src_atK {d : D} {x : V} {G H : Hp} {L : Lam} {μ : Store} {β : Type} {f : Src → M β} {Q : β → Store → Hp → Hp → Lam → Prop} (r : Rp k X.K G L x d) (w : Wd k X.K G H L μ) (g : Good k X.K E G H L ((srcD d >>= f) μ) Q) :
    ∃ a src, x = .ref a ∧ (∃ vs, if notTup d = true then SqL X.K H a vs else SqT X.K H a vs) ∧ Stand k X.K G L src a (notTup d) ∧ Good k X.K E G H L (f src μ) Q := by
  cases d with
  | lst ds =>
    cases r with
    | @lst a xs _ hs ha => exact ⟨a, ⟨ds, []⟩, rfl, ⟨xs, w.ext.seq hs⟩, fun G2 H2 L2 μ2 ge le w2 _ => ⟨xs, (ge.trans w2.ext).seq hs, RpA.mono ge le _ _ ha⟩, g⟩
  | tup ds =>
    cases r with
    | @tup a xs _ hs ha => exact ⟨a, ⟨ds, []⟩, rfl, ⟨xs, sqT_mono w.ext hs⟩, fun G2 H2 L2 μ2 ge le w2 _ => ⟨xs, sqT_mono (ge.trans w2.ext) hs, RpA.mono ge le _ _ ha⟩, g⟩
  | loc n =>
    have g' : Good k X.K E G H L (M.bind (srcD (.loc n)) f μ) Q := g
    unfold M.bind srcD at g'
    simp only at g'
    cases hm : μ[n]? with
    | none => rw [hm] at g'; exact False.elim g'
    | some o =>
      cases o with
      | none => rw [hm] at g'; exact False.elim g'
      | some c =>
        cases c with
        | ins _ _ => rw [hm] at g'; exact False.elim g'
        | dct _ _ => rw [hm] at g'; exact False.elim g'
        | lst ds =>
          rw [hm] at g'
          obtain ⟨a, vs, rfl, hl, _, h, ra⟩ := w.look hm r
          refine ⟨a, ⟨ds, [(n, ds)]⟩, rfl, ⟨vs, SqL.of h⟩, fun G2 H2 L2 μ2 ge le w2 ok => ?_, g'⟩
          have hc : cellIs μ2 (n, ds) = true := by
            have : ([(n, ds)] : List (Nat × List D)).all (cellIs μ2) = true := ok
            simpa using this
          obtain ⟨a', vs', e1, hl', _, h', ra'⟩ := w2.look (cellIs_of hc) (Rp.mono ge le _ _ r)
          cases e1
          exact ⟨vs', SqL.of h', ra'⟩
  | _ => exact False.elim g
end
end DL
namespace DL
open PySem L2 PyProof.Rows
def wipeD (e : DEnv) : List Nat → DEnv
  | [] => e
  | v :: vs => (wipeD e vs).set v none
/-- no error leaves -/
def noX {α : Type} (x : M α) : M α := fun m => match x m with
  | .exn _ _ _ => .bad
  | r => r
def compL (src : Src) (g : D → DEnv → M DEnv) (t : DEnv → M Bool) (elt : DEnv → M D) (e : DEnv) : List D → M (List D)
  | [] => do chk src; pure []
  | d :: ds => do
    chk src
    let e1 ← noX (g d e)
    let b ← noX (t e1)
    if b then (do
      let y ← noX (elt e1)
      let ys ← compL src g t elt e ds
      pure (y :: ys)) else compL src g t elt e ds
def sizeOk (src : Src) : M Unit := fun m => if src.items.length ≤ 100000 then .ok () m else .bad
def compM (it : DEnv → M Src) (g : D → DEnv → M DEnv) (t : DEnv → M Bool) (elt : DEnv → M D) (vs : List Nat) : DEnv → M (List D) := fun e => do
  let src ← it e
  sizeOk src
  compL src g t elt (wipeD e vs) src.items
def eComp (it : DEnv → M Src) (g : D → DEnv → M DEnv) (t : DEnv → M Bool) (elt : DEnv → M D) (vs : List Nat) : DEnv → M D := fun e => do
  let ds ← compM it g t elt vs e
  pure (.lst ds)
def newL (ds : List D) : M D := fun m => .ok (.loc m.length) (m ++ [some (.lst ds)])
def eCompM (it : DEnv → M Src) (g : D → DEnv → M DEnv) (t : DEnv → M Bool) (elt : DEnv → M D) (vs : List Nat) : DEnv → M D := fun e => do
  let ds ← compM it g t elt vs e
  newL ds
def tYesD : DEnv → M Bool := fun _ => pure true
section
variable {k : Kx} {X : Cx} {E : XK} {tg iter elt : Expr} {pos : Pos}
theorem good_noX {α β : Type} {x : M α} {f : α → M β} {G H G2 H2 : Hp} {L L2 : Lam} {m : Store} {Q : β → Store → Hp → Hp → Lam → Prop} (h : Good k X.K E G H L ((noX x >>= f) m) Q) (st : Stp G H L G2 H2 L2) :
    Good k X.K E0 G2 H2 L2 (x m) (fun a m' _ _ _ => Good k X.K E G H L (f a m') Q) := by
  have h' : Good k X.K E G H L (M.bind (noX x) f m) Q := h
  unfold M.bind noX at h'
  cases e : x m with
  | ok a m' =>
    rw [e] at h'
    exact fun G' H' L' e1 w => h'
  | exn c fs m' =>
    rw [e] at h'
    exact False.elim h'
  | bad =>
    rw [e] at h'
    exact False.elim h'
theorem wipe_sg {s : L2.St} {e : DEnv} {G : Hp} {L : Lam} (h : Sg k X.K G L s e) : ∀ vs : List Nat, Sg k X.K G L (wipe s vs) (wipeD e vs)
  | [] => h
  | v :: vs => by
    obtain ⟨h1, h2⟩ := wipe_sg h vs
    unfold wipe wipeD
    refine ⟨by rw [List.length_set, List.length_set]; exact h1, fun i d q => ?_⟩
    by_cases hi : v = i
    · subst hi
      by_cases hl : v < (wipeD e vs).length
      · rw [List.getElem?_set_self hl] at q
        cases q
      · rw [List.getElem?_eq_none (by simpa using hl)] at q
        cases q
    · rw [List.getElem?_set_ne hi] at q ⊢
      exact h2 i d q
theorem wipe_get {s : L2.St} {i : Nat} : ∀ {vs : List Nat}, i ∉ vs → (wipe s vs)[i]? = s[i]?
  | [], _ => rfl
  | v :: vs, h => by
    simp only [List.mem_cons, not_or] at h
    unfold wipe
    rw [List.getElem?_set_ne (Ne.symm h.1), wipe_get h.2]
theorem wipe_mem {s : L2.St} {i : Nat} : ∀ {vs : List Nat}, i ∈ vs → (wipe s vs)[i]? = if i < s.length then some none else none
  | [], h => by cases h
  | v :: vs, h => by
    unfold wipe
    by_cases hv : v = i
    · subst hv
      by_cases hl : v < s.length
      · rw [if_pos hl, List.getElem?_set_self (by rw [wipe_length]; exact hl)]
      · rw [if_neg hl, List.getElem?_eq_none (by rw [List.length_set, wipe_length]; omega)]
    · rw [List.getElem?_set_ne hv]
      exact wipe_mem ((List.mem_cons.mp h).resolve_left (Ne.symm hv))
theorem wipe_agree {s s' : L2.St} {ts vs : List Nat} (hl : s'.length = s.length) (ag : ∀ i, i ∉ ts → s'[i]? = s[i]?) (sub : ∀ i ∈ ts, i ∈ vs) : wipe s' vs = wipe s vs := by
  apply List.ext_getElem?
  intro i
  by_cases hi : i ∈ vs
  · rw [wipe_mem hi, wipe_mem hi, hl]
  · rw [wipe_get hi, wipe_get hi]
    exact ag i fun z => hi (sub i z)
theorem wipe_twice {s : L2.St} {vs : List Nat} : wipe (wipe s vs) vs = wipe s vs := by
  apply List.ext_getElem?
  intro i
  by_cases hi : i ∈ vs
  · rw [wipe_mem hi, wipe_mem hi, wipe_length]
  · rw [wipe_get hi, wipe_get hi]
theorem sizeOk_good {β : Type} {src : Src} {f : Unit → M β} {G H : Hp} {L : Lam} {m : Store} {Q : β → Store → Hp → Hp → Lam → Prop} (h : Good k X.K E G H L ((sizeOk src >>= f) m) Q) : src.items.length ≤ 100000 ∧ Good k X.K E G H L (f () m) Q := by
  have h' : Good k X.K E G H L (M.bind (sizeOk src) f m) Q := h
  unfold M.bind sizeOk at h'
  by_cases hc : src.items.length ≤ 100000
  · rw [if_pos hc] at h'
    exact ⟨hc, h'⟩
  · rw [if_neg hc] at h'
    exact False.elim h'
theorem privS {G H G1 H1 : Hp} {L L1 : Lam} {a : Addr} {o : HO} (st : Stp G1 H1 L1 G H L) (ha : H1 a = none) (no : NT o) : Stp G1 H1 L1 G (upd H a o) L where
  g := st.g
  l := st.l
  tr := fun x e => st.tr x (bare_at no e)
  keep := fun x u e nt n => by
    rw [upd_ne (ne_of_none e ha)]
    exact st.keep x u e nt n
  nl := st.nl
theorem lt_size {n : Nat} (h : n < 100000) : n < sizeLine := Nat.lt_of_lt_of_le h (by decide)
theorem good_assoc {α β γ : Type} {x : M α} {f : α → M β} {h : β → M γ} {G H : Hp} {L : Lam} {m : Store} {Q : γ → Store → Hp → Hp → Lam → Prop} (g : Good k X.K E G H L (((x >>= f) >>= h) m) Q) : Good k X.K E G H L ((x >>= fun a => f a >>= h) m) Q := by
  have e : ((x >>= f) >>= h) m = (x >>= fun a => f a >>= h) m := by
    show M.bind (M.bind x f) h m = M.bind x (fun a => M.bind (f a) h) m
    unfold M.bind
    cases x m <;> rfl
  rw [← e]
  exact g
theorem good_pureb {α β : Type} {a : α} {f : α → M β} {G H : Hp} {L : Lam} {m : Store} {Q : β → Store → Hp → Hp → Lam → Prop} (g : Good k X.K E G H L (((pure a : M α) >>= f) m) Q) : Good k X.K E G H L (f a m) Q := g
structure Pv (G H : Hp) (L : Lam) (a : Addr) (o : HO) : Prop where
  h : H a = some o
  g : G a = none
  n : ∀ p ∈ L, a ≠ p.1 ∧ a ≠ p.2
  nc : NC o
theorem Pv.step {G H G' H' : Hp} {L L' : Lam} {a : Addr} {o : HO} (p : Pv G H L a o) (st : Stp G H L G' H' L') : Pv G' H' L' a o := by
  obtain ⟨h1, h2⟩ := st.keep a o p.h p.nc.1 p.n
  refine ⟨h1, h2 p.g, fun q hq => ?_, p.nc⟩
  rcases st.nl q hq with z | ⟨z1, z2⟩
  · exact p.n q z
  · exact ⟨ne_of_bare p.h p.nc.1 z1, ne_of_bare p.h p.nc.1 z2⟩
/-- the core: what is done with the new list comes last -/
theorem comp_gen {β : Type} {mi : DEnv → M Src} {ts vs : List Nat} {g : D → DEnv → M DEnv} {mt : DEnv → M Bool} {me : DEnv → M D} {fin : List D → M β} {Q0 : β → Store → Hp → Hp → Lam → Prop} {s : L2.St} {H : Hp} {Q : VK} {e : DEnv} {G : Hp} {L : Lam} {μ : Store} (sub : ∀ i ∈ ts, i ∈ vs)
    (hfin : ∀ (G1 H1 : Hp) (L1 : Lam) (G' H' : Hp) (L' : Lam) (μ : Store) (Dl : Addr) (ws : List V) (ds : List D), Stp G H L G1 H1 L1 → Stp G1 H1 L1 G' H' L' → H1 Dl = none → Wd k X.K G' H' L' μ → Pv G' H' L' Dl (.lst ws) → RpA k X.K G' L' ws ds →
      Good k X.K E G1 H1 L1 (fin ds μ) Q0 → Q (.ref Dl) H') (sg : Sg k X.K G L s e) (w : Wd k X.K G H L μ) (gd : Good k X.K E G H L ((compM mi g mt me vs e >>= fin) μ) Q0) :
    tLc (dI k X.K E mi) (dG k X.K E0 ts g) (dT k X.K E0 mt) (dE k X.K E0 me) vs s H Q := by
  have gd1 := good_assoc gd
  refine ⟨e, G, L, μ, sg, w, Good.mono (Good.bind gd1) fun src m1 G1 H1 L1 st1 w1 q1 J ok Dl hD => ?_⟩
  have sg1 := wipe_sg (sg.mono st1.g st1.l) vs
  obtain ⟨hz, q1⟩ := sizeOk_good (good_assoc q1)
  have pv1 : Pv G1 (upd H1 Dl (.lst [])) L1 Dl (.lst []) := ⟨upd_same, w1.gnone hD, fun p hp => by
    obtain ⟨⟨o1, z1, _⟩, ⟨o2, z2, _⟩⟩ := w1.tk p hp
    exact ⟨Ne.symm (ne_of_none z1 hD), Ne.symm (ne_of_none z2 hD)⟩, nc_lst []⟩
  refine ⟨fun i m H => m = src.items.length - i ∧ i ≤ src.items.length ∧ ∃ G L μ ws ds, Stp G1 H1 L1 G H L ∧ Wd k X.K G H L μ ∧ Pv G H L Dl (.lst ws) ∧ RpA k X.K G L ws ds ∧ ws.length ≤ i ∧
      Good k X.K E G1 H1 L1 ((do let rest ← compL src g mt me (wipeD e vs) (src.items.drop i); fin (ds ++ rest)) μ) Q0,
    ⟨src.items.length, by simp, Nat.zero_le _, G1, L1, m1, [], [], junkS hD, w1.junk hD, pv1, .nil, Nat.zero_le _, by simpa using q1⟩, ?_⟩
  rintro i m H2 ⟨rfl, hi, G2, L2, μ2, ws, ds, st2, w2, pv2, ra, hl, q2⟩
  by_cases hlt : i < src.items.length
  · have hd : src.items.drop i = src.items[i] :: src.items.drop (i + 1) := List.drop_eq_getElem_cons hlt
    rw [hd] at q2
    obtain ⟨hok, q2⟩ := chk_good (good_assoc q2)
    obtain ⟨ho, _⟩ := ok G2 H2 L2 μ2 st2.g st2.l w2 hok i
    obtain ⟨go, yl⟩ := ho src.items[i] (List.getElem?_eq_getElem hlt)
    refine .inr ⟨go, fun H => ∃ G L μ ws ds, Stp G1 H1 L1 G H L ∧ Wd k X.K G H L μ ∧ Pv G H L Dl (.lst ws) ∧ RpA k X.K G L ws ds ∧ ws.length ≤ i + 1 ∧
      Good k X.K E G1 H1 L1 ((do let rest ← compL src g mt me (wipeD e vs) (src.items.drop (i + 1)); fin (ds ++ rest)) μ) Q0, fun H' q => ⟨src.items.length - (i + 1), by omega, rfl, hlt, q⟩, fun x H3 y => ?_⟩
    obtain ⟨G3, st3, w3, r3⟩ := yl x H3 y
    have s13 := st2.trans st3
    refine ⟨src.items[i], wipeD e vs, G3, L2, μ2, sg1.mono s13.g s13.l, r3, w3, Good.mono (good_noX (good_assoc q2) s13) fun e4 m4 G4 H4 L4 st4 w4 q4 s4 sg4 ag => ⟨?_, ?_⟩⟩
    · rw [wipe_agree ag.1 ag.2 sub, wipe_twice]
    · have s14 := s13.trans st4
      refine ⟨e4, G4, L4, m4, sg4, w4, Good.mono (good_noX (good_assoc q4) s14) fun b m5 G5 H5 L5 st5 w5 q5 => ?_⟩
      have s15 := s14.trans st5
      have ra5 := RpA.mono ((st3.g.trans st4.g).trans st5.g) ((st3.l.trans st4.l).trans st5.l) _ _ ra
      have pv5 := ((pv2.step st3).step st4).step st5
      cases b with
      | false => exact ⟨G5, L5, m5, ws, ds, s15, w5, pv5, ra5, Nat.le_succ_of_le hl, q5⟩
      | true =>
        refine ⟨e4, G5, L5, m5, sg4.mono st5.g st5.l, w5, Good.mono (good_noX (good_assoc q5) s15) fun d6 m6 G6 H6 L6 st6 w6 q6 v6 r6 => ?_⟩
        have pv6 := pv5.step st6
        refine ⟨ws, pv6.h, lt_size (by omega), G6, L6, m6, ws ++ [v6], ds ++ [d6], privS (s15.trans st6) hD (nc_lst _).1, w6.priv pv6.g pv6.h pv6.nc (nc_lst _).1 pv6.n, ⟨upd_same, pv6.g, pv6.n, nc_lst _⟩, (RpA.mono st6.g st6.l _ _ ra5).append (.cons r6 .nil), by simp; omega, ?_⟩
        have q7 := good_assoc q6
        have e7 : (fun rest => fin (ds ++ [d6] ++ rest)) = fun rest => fin (ds ++ d6 :: rest) := by
          funext rest
          simp
        rw [e7]
        exact q7
  · have e0 : i = src.items.length := by omega
    subst e0
    rw [List.drop_length] at q2
    obtain ⟨hok, q2⟩ := chk_good (good_assoc q2)
    obtain ⟨_, stp⟩ := ok G2 H2 L2 μ2 st2.g st2.l w2 hok src.items.length
    have q3 := good_pureb q2
    rw [List.append_nil] at q3
    exact .inl ⟨stp (Nat.le_refl _), hfin G1 H1 L1 G2 H2 L2 μ2 Dl ws ds st1 st2 hD w2 pv2 ra q3⟩
theorem comp_core {mi : DEnv → M Src} {ts vs : List Nat} {g : D → DEnv → M DEnv} {mt : DEnv → M Bool} {me : DEnv → M D} {fin : List D → M D} (sub : ∀ i ∈ ts, i ∈ vs)
    (hfin : ∀ (G1 H1 : Hp) (L1 : Lam) (G H : Hp) (L : Lam) (μ : Store) (Dl : Addr) (ws : List V) (ds : List D) (Q : VK), Stp G1 H1 L1 G H L → H1 Dl = none → Wd k X.K G H L μ → Pv G H L Dl (.lst ws) → RpA k X.K G L ws ds →
      Good k X.K E G1 H1 L1 (fin ds μ) (QV k X.K Q) → Q (.ref Dl) H) {s : L2.St} {H : Hp} {Q : VK} (h : dE k X.K E (fun e => do let ds ← compM mi g mt me vs e; fin ds) s H Q) :
    tLc (dI k X.K E mi) (dG k X.K E0 ts g) (dT k X.K E0 mt) (dE k X.K E0 me) vs s H Q := by
  obtain ⟨e, G, L, μ, sg, w, gd⟩ := h
  exact comp_gen sub (fun G1 H1 L1 G' H' L' μ Dl ws ds _ st hD w pv ra g => hfin G1 H1 L1 G' H' L' μ Dl ws ds Q st hD w pv ra g) sg w gd
theorem adoptS {G H G1 H1 : Hp} {L L1 : Lam} {a : Addr} {o : HO} (st : Stp G1 H1 L1 G H L) (ha : H1 a = none) (ga : G a = none) : Stp G1 H1 L1 (upd G a o) H L where
  g := st.g.trans (Same.new ga)
  l := st.l
  tr := st.tr
  keep := fun x u e nt n => by
    obtain ⟨h1, h2⟩ := st.keep x u e nt n
    exact ⟨h1, fun z => by rw [upd_ne (ne_of_none e ha)]; exact h2 z⟩
  nl := st.nl
theorem adoptLocS {G H G1 H1 : Hp} {L L1 : Lam} {a : Addr} (st : Stp G1 H1 L1 G H L) (ha : H1 a = none) : Stp G1 H1 L1 G H (L ++ [(a, a)]) where
  g := st.g
  l := st.l.trans (List.prefix_append _ _)
  tr := st.tr
  keep := st.keep
  nl := fun p hp => by
    rcases List.mem_append.mp hp with z | z
    · exact st.nl p z
    · simp at z
      subst z
      exact .inr ⟨bare_none ha, bare_none ha⟩
theorem fin_lst {E : XK} (G1 H1 : Hp) (L1 : Lam) (G H : Hp) (L : Lam) (μ : Store) (Dl : Addr) (ws : List V) (ds : List D) (Q : VK) (st : Stp G1 H1 L1 G H L) (hD : H1 Dl = none) (w : Wd k X.K G H L μ) (pv : Pv G H L Dl (.lst ws)) (ra : RpA k X.K G L ws ds)
    (g : Good k X.K E G1 H1 L1 ((pure (.lst ds) : M D) μ) (QV k X.K Q)) : Q (.ref Dl) H :=
  g _ _ _ (adoptS st hD pv.g) (w.adopt pv.g pv.h pv.nc.1 pv.n) _ (.lst (SqL.of upd_same) (RpA.mono (Same.new pv.g) (pre_refl L) _ _ ra))
theorem fin_loc {E : XK} (G1 H1 : Hp) (L1 : Lam) (G H : Hp) (L : Lam) (μ : Store) (Dl : Addr) (ws : List V) (ds : List D) (Q : VK) (st : Stp G1 H1 L1 G H L) (hD : H1 Dl = none) (w : Wd k X.K G H L μ) (pv : Pv G H L Dl (.lst ws)) (ra : RpA k X.K G L ws ds)
    (g : Good k X.K E G1 H1 L1 (newL ds μ) (QV k X.K Q)) : Q (.ref Dl) H :=
  g _ _ _ (adoptLocS st hD) (w.adoptLoc pv.g pv.h pv.n ra) _ (.loc (a := Dl) (b := Dl) (by rw [← w.len]; simp))
section
variable {mi : DEnv → M Src} {ts : List Nat} {g : D → DEnv → M DEnv} {mt : DEnv → M Bool} {me : DEnv → M D} {ifs : List Expr} {scope : Scope} {own : List (Str × Nat)}
theorem jts_nil {X : Cx} : PTs X [] (dT k X.K E tYesD) := by
  have h := pts_nil (X := X)
  refine ⟨fun pins s σ H Q I hw => h.run pins s σ H Q I ?_⟩
  obtain ⟨e, G, L, μ, sg, w, gd⟩ := hw
  exact Good.ret gd w
theorem jts_one {X : Cx} {c : Expr} {mt : DEnv → M Bool} (h : JT k X E c mt) : PTs X [c] (dT k X.K E mt) := pts_one h
theorem j_comp (sub : ∀ i ∈ ts, i ∈ own.map (·.2)) (hc : X.calm = true) (hN : X.N.Nodup) (hi : JI k X E tg iter mi) (ok : BlkOk X.N X.env.scope scope own)
    (hg : ∀ (s : Shared) (H : Hp) (C : Addr) (cl : List (Str × Addr)) (fp : List Addr), JG k (X.blk s H scope (compEnvC scope cl C X.env) fp) E0 tg ts g)
    (ht : ∀ (s : Shared) (H : Hp) (C : Addr) (cl : List (Str × Addr)) (fp : List Addr), PTs (X.blk s H scope (compEnvC scope cl C X.env) fp) ifs (dT k X.K E0 mt))
    (he : ∀ (s : Shared) (H : Hp) (C : Addr) (cl : List (Str × Addr)) (fp : List Addr), JE k (X.blk s H scope (compEnvC scope cl C X.env) fp) E0 elt me) (hs : ∀ x, foldedSetIterable iter X.env x = pure x := by intro _; rfl) :
    JE k X E (.ListComp elt [⟨tg, iter, ifs, 0⟩] scope pos) (eComp mi g mt me (own.map (·.2))) :=
  PE.imp (pe_lc hc hN hi ok hg ht he hs) fun s H Q h => comp_core sub fin_lst h
theorem js_setC {i : Nat} {y : Str} {py spos : Pos} {fin : List D → M D}
    (hfin : ∀ (G1 H1 : Hp) (L1 : Lam) (G H : Hp) (L : Lam) (μ : Store) (Dl : Addr) (ws : List V) (ds : List D) (Q : VK), Stp G1 H1 L1 G H L → H1 Dl = none → Wd k X.K G H L μ → Pv G H L Dl (.lst ws) → RpA k X.K G L ws ds → Good k X.K E G1 H1 L1 (fin ds μ) (QV k X.K Q) → Q (.ref Dl) H)
    (sub : ∀ i ∈ ts, i ∈ own.map (·.2)) (hc : X.calm = true) (hN : X.N.Nodup) (hy : X.N[i]? = some y) (hyl : X.env.scope.names.lookup y = some .local)
    (hsw : swapsWith (.ListComp elt [⟨tg, iter, ifs, 0⟩] scope pos) (some (.Name y py)) spos.line X.env = pure true) (hi : JI k X E tg iter mi) (ok : BlkOk X.N X.env.scope scope own)
    (hg : ∀ (s : Shared) (H : Hp) (C : Addr) (cl : List (Str × Addr)) (fp : List Addr), JG k (X.blk s H scope (compEnvC scope cl C X.env) fp) E0 tg ts g)
    (ht : ∀ (s : Shared) (H : Hp) (C : Addr) (cl : List (Str × Addr)) (fp : List Addr), PTs (X.blk s H scope (compEnvC scope cl C X.env) fp) ifs (dT k X.K E0 mt))
    (he : ∀ (s : Shared) (H : Hp) (C : Addr) (cl : List (Str × Addr)) (fp : List Addr), JE k (X.blk s H scope (compEnvC scope cl C X.env) fp) E0 elt me) (hs : ∀ x, foldedSetIterable iter X.env x = pure x := by intro _; rfl) :
    JS k X E (.Assign [.Name y py] (.ListComp elt [⟨tg, iter, ifs, 0⟩] scope pos) spos) (sSet i (fun e => do let ds ← compM mi g mt me (own.map (·.2)) e; fin ds)) := by
  refine PS.imp (ps_setLc (g := dG k X.K E0 ts g) (te := dE k X.K E0 me) hc hN hy hyl hsw hi ok hg ht he hs) fun D s H h => ?_
  refine comp_core (fin := fin) sub hfin ?_
  obtain ⟨e, G, L, μ, sg, w, gd⟩ := h
  refine ⟨e, G, L, μ, sg, w, Good.mono (Good.bind gd) fun d m1 G1 H1 L1 st1 w1 q1 v r => ?_⟩
  exact Good.ret q1 w1 _ ((sg.mono st1.g st1.l).set i r)
end
end
end DL
namespace DL
open PySem L2 PyProof.Rows
mutual
def D.und (n : Nat) : D → Bool
  | .lst ds => D.undL n ds
  | .tup ds => D.undL n ds
  | .loc i => decide (i < n)
  | .obj _ ds => D.undL n ds
  | .dct _ ds => D.undL n ds
  | .fdc _ ds => D.undL n ds
  | .err _ ds => D.undL n ds
  | _ => true
def D.undL (n : Nat) : List D → Bool
  | [] => true
  | d :: ds => d.und n && D.undL n ds
end
def undO (n : Nat) : List (Option D) → Bool
  | [] => true
  | some d :: r => d.und n && undO n r
  | none :: r => undO n r
def Cell.und (n : Nat) : Cell → Bool
  | .lst ds => D.undL n ds
  | .ins _ ss => undO n ss
  | .dct _ ds => D.undL n ds
instance : DecidableEq Cell := fun a b => match a, b with
  | .lst x, .lst y => if h : x = y then .isTrue (by rw [h]) else .isFalse (by intro z; cases z; exact h rfl)
  | .ins c x, .ins d y => if h : c = d ∧ x = y then .isTrue (by rw [h.1, h.2]) else .isFalse (by intro z; cases z; exact h ⟨rfl, rfl⟩)
  | .lst _, .ins _ _ => .isFalse nofun
  | .ins _ _, .lst _ => .isFalse nofun
  | .dct c x, .dct d y => if h : c = d ∧ x = y then .isTrue (by rw [h.1, h.2]) else .isFalse (by intro z; cases z; exact h ⟨rfl, rfl⟩)
  | .dct _ _, .lst _ => .isFalse nofun
  | .dct _ _, .ins _ _ => .isFalse nofun
  | .lst _, .dct _ _ => .isFalse nofun
  | .ins _ _, .dct _ _ => .isFalse nofun
section
variable {k : Kx} {K : PySem.W.Frag} {G G' : Hp} {L L' : Lam}
mutual
theorem Rp.lower (e : L <+: L') : ∀ (d : D) (v : V), Rp k K G L' v d → d.und L.length = true → Rp k K G L v d
  | .non, _, h, _ => by cases h; exact .non
  | .bl b, _, h, _ => by cases h; exact .bl b
  | .int i, _, h, _ => by cases h; exact .int i
  | .str i, _, h, _ => by cases h; exact .str i
  | .lst ds, _, h, b => by
    cases h with
    | lst hs ha => exact .lst hs (RpA.lower e ds _ ha (by simpa [D.und] using b))
  | .tup ds, _, h, b => by
    cases h with
    | tup hs ha => exact .tup hs (RpA.lower e ds _ ha (by simpa [D.und] using b))
  | .loc n, _, h, b => by
    cases h with
    | loc hn =>
      have hl : n < L.length := by simpa [D.und] using b
      obtain ⟨t, rfl⟩ := e
      rw [List.getElem?_append_left hl] at hn
      exact .loc hn
  | .obj c ds, _, h, b => by
    cases h with
    | obj hs ha => exact .obj hs (RpA.lower e ds _ ha (by simpa [D.und] using b))
  | .cls c, _, h, _ => by cases h; exact .cls c
  | .dct ks ds, _, h, b => by
    cases h with
    | dct hs hl ha => exact .dct hs hl (RpA.lower e ds _ ha (by simpa [D.und] using b))
  | .fdc ks ds, _, h, b => by
    cases h with
    | fdc hs hl ha => exact .fdc hs hl (RpA.lower e ds _ ha (by simpa [D.und] using b))
  | .err c ds, _, h, b => by
    cases h with
    | err h1 h2 hl ha => exact .err h1 h2 hl (RpA.lower e ds _ ha (by simpa [D.und] using b))
    | err0 h0 h1 => exact .err0 h0 h1
theorem RpA.lower (e : L <+: L') : ∀ (ds : List D) (vs : List V), RpA k K G L' vs ds → D.undL L.length ds = true → RpA k K G L vs ds
  | [], _, h, _ => by cases h; exact .nil
  | d :: ds, _, h, b => by
    cases h with
    | cons h1 h2 =>
      have b' : d.und L.length = true ∧ D.undL L.length ds = true := by simpa [D.undL] using b
      exact .cons (Rp.lower e d _ h1 b'.1) (RpA.lower e ds _ h2 b'.2)
end
mutual
theorem Rp.und : ∀ (d : D) (v : V), Rp k K G L v d → d.und L.length = true
  | .non, _, _ => rfl
  | .bl _, _, _ => rfl
  | .int _, _, _ => rfl
  | .str _, _, _ => rfl
  | .lst ds, _, h => by
    cases h with
    | lst hs ha => simpa [D.und] using RpA.und ds _ ha
  | .tup ds, _, h => by
    cases h with
    | tup hs ha => simpa [D.und] using RpA.und ds _ ha
  | .loc n, _, h => by
    cases h with
    | loc hn => simpa [D.und] using (List.getElem?_eq_some_iff.mp hn).1
  | .obj c ds, _, h => by
    cases h with
    | obj hs ha => simpa [D.und] using RpA.und ds _ ha
  | .cls _, _, _ => rfl
  | .dct ks ds, _, h => by
    cases h with
    | dct hs hl ha => simpa [D.und] using RpA.und ds _ ha
  | .fdc ks ds, _, h => by
    cases h with
    | fdc hs hl ha => simpa [D.und] using RpA.und ds _ ha
  | .err c ds, _, h => by
    cases h with
    | err h1 h2 hl ha => simpa [D.und] using RpA.und ds _ ha
    | err0 h0 h1 => simp [D.und, D.undL]
theorem RpA.und : ∀ (ds : List D) (vs : List V), RpA k K G L vs ds → D.undL L.length ds = true
  | [], _, _ => rfl
  | d :: ds, _, h => by
    cases h with
    | cons h1 h2 => simp [D.undL, Rp.und d _ h1, RpA.und ds _ h2]
end
theorem undO_get {n : Nat} : ∀ {ss : List (Option D)} {i : Nat} {d : D}, undO n ss = true → ss[i]? = some (some d) → d.und n = true
  | [], i, d, _, h => by simp at h
  | o :: ss, 0, d, b, h => by
    simp at h
    subst h
    have : d.und n = true ∧ undO n ss = true := by simpa [undO] using b
    exact this.1
  | o :: ss, i + 1, d, b, h => by
    have hb : undO n ss = true := by
      cases o with
      | none => simpa [undO] using b
      | some x =>
        have : x.und n = true ∧ undO n ss = true := by simpa [undO] using b
        exact this.2
    exact undO_get (i := i) hb (by simpa using h)
theorem undO_of {n : Nat} : ∀ {ss : List (Option D)}, (∀ (i : Nat) (d : D), ss[i]? = some (some d) → d.und n = true) → undO n ss = true
  | [], _ => rfl
  | o :: ss, h => by
    have hr : undO n ss = true := undO_of fun i d e => h (i + 1) d (by simpa using e)
    cases o with
    | none => simpa [undO] using hr
    | some x => simp [undO, hr, h 0 x (by simp)]
theorem CellR.und {H : Hp} {a b : Addr} {c : Cell} (r : CellR k K G H L a b c) : c.und L.length = true := by
  cases c with
  | lst ds =>
    obtain ⟨_, vs, _, ra⟩ := r
    exact RpA.und ds vs ra
  | dct ks ds =>
    obtain ⟨_, vs, _, _, ra⟩ := r
    exact RpA.und ds vs ra
  | ins c ss =>
    obtain ⟨vs, _, q, _⟩ := r
    exact undO_of fun i d e => let ⟨v, _, rv⟩ := q.2 i d e; Rp.und d v rv
theorem CellR.lower {H : Hp} {a b : Addr} {c : Cell} (e : L <+: L') (r : CellR k K G H L' a b c) (hb : c.und L.length = true) : CellR k K G H L a b c := by
  cases c with
  | lst ds =>
    obtain ⟨e1, vs, h, ra⟩ := r
    exact ⟨e1, vs, h, RpA.lower e ds vs ra hb⟩
  | dct ks ds =>
    obtain ⟨e1, vs, h, hl, ra⟩ := r
    exact ⟨e1, vs, h, hl, RpA.lower e ds vs ra hb⟩
  | ins c ss =>
    obtain ⟨vs, h, q, r⟩ := r
    exact ⟨vs, h, ⟨q.1, fun i d z => let ⟨v, x, rv⟩ := q.2 i d z; ⟨v, x, Rp.lower e d v rv (undO_get hb z)⟩⟩, r⟩
end
def cellKept (n : Nat) (p : Option Cell × Option Cell) : Bool := decide (p.1 = p.2) || (match p.1 with | some c => c.und n | none => true)
def trimOk (m m' : Store) : Bool := decide (m.length ≤ m'.length) && ((m'.take m.length).zip m).all (cellKept m.length)
def scopeM (x : M D) : M D := fun m => match x m with
  | .ok d m' => if (trimOk m m' && d.und m.length) = true then .ok d (m'.take m.length) else .ok d m'
  | r => r
section
variable {k : Kx} {X : Cx} {E : XK}
theorem scope_good {x : M D} {G H : Hp} {L : Lam} {μ : Store} {Q : VK} (w : Wd k X.K G H L μ) (g : Good k X.K E G H L (scopeM x μ) (QV k X.K Q)) : Good k X.K E G H L (x μ) (QV k X.K Q) := by
  unfold scopeM at g
  cases e : x μ with
  | exn c fs m => rw [e] at g; exact g
  | bad => rw [e] at g; exact g
  | ok d m' =>
    rw [e] at g
    simp only at g
    by_cases hc : (trimOk μ m' && d.und μ.length) = true
    · rw [if_pos hc] at g
      obtain ⟨ht, hd⟩ := Bool.and_eq_true_iff.mp hc
      unfold trimOk at ht
      obtain ⟨t2, t3⟩ := Bool.and_eq_true_iff.mp ht
      have t2 := of_decide_eq_true t2
      intro G' H' L' st w' v r
      have hp : L <+: L' := st.l
      have live : ∀ i, Live (m'.take μ.length) i → i < μ.length ∧ Live m' i := fun i hi => by
        obtain ⟨c, hc⟩ := hi
        have hl := (List.getElem?_eq_some_iff.mp hc).1
        rw [List.length_take] at hl
        rw [List.getElem?_take_of_lt (by omega)] at hc
        exact ⟨by omega, c, hc⟩
      have getL : ∀ {i : Nat} {p : Addr × Addr}, i < μ.length → L'[i]? = some p → L[i]? = some p := fun {i p} hi h => by
        obtain ⟨t, rfl⟩ := hp
        rw [List.getElem?_append_left (by rw [w.len]; exact hi)] at h
        exact h
      have w2 : Wd k X.K G' H' L (m'.take μ.length) := by
        refine ⟨w'.ext, by rw [List.length_take, w.len]; omega, fun p hp' => w'.tk p (by obtain ⟨t, rfl⟩ := hp; exact List.mem_append_left _ hp'), w'.tab, w'.gt, fun n c hn => ?_, fun i j a b a' b' li lj ne ha hb => ?_⟩
        · obtain ⟨hl, _⟩ := live n ⟨c, hn⟩
          have hn' : m'[n]? = some (some c) := by
            rw [List.getElem?_take_of_lt hl] at hn
            exact hn
          obtain ⟨a, b, h1, h2, h3, r'⟩ := w'.cell n c hn'
          refine ⟨a, b, getL hl h1, h2, h3, r'.lower hp ?_⟩
          rw [w.len]
          have hz : ((m'.take μ.length).zip μ)[n]? = some (some c, μ[n]) := by
            rw [List.getElem?_zip_eq_some]
            exact ⟨hn, List.getElem?_eq_getElem hl⟩
          have hk := List.all_eq_true.mp t3 _ (List.mem_of_getElem? hz)
          unfold cellKept at hk
          rcases (Bool.or_eq_true_iff.mp hk) with q | q
          · have q' : some c = μ[n] := of_decide_eq_true q
            have hm : μ[n]? = some (some c) := by rw [List.getElem?_eq_getElem hl, ← q']
            obtain ⟨_, _, _, _, _, r0⟩ := w.cell n c hm
            have := r0.und
            rw [w.len] at this
            exact this
          · exact q
        · exact w'.apart i j a b a' b' (live i li).2 (live j lj).2 ne (pre_get hp ha) (pre_get hp hb)
      refine g G' H' L ⟨st.g, pre_refl L, st.tr, st.keep, fun p h => .inl h⟩ w2 v (Rp.lower hp d v r ?_)
      rw [w.len]
      exact hd
    · rw [if_neg hc] at g
      exact g
def spD (k : Kx) (K : PySem.W.Frag) (n : Nat) (den : List D → M D) : Sp := fun vs H Q E => ∃ ds G L μ, RpA k K G L vs ds ∧ ds.length = n ∧ Wd k K G H L μ ∧ Good k K E G H L (den ds μ) (QV k K Q)
def startD (n : Nat) (ds : List D) : DEnv := ds.map some ++ List.replicate (n - ds.length) none
def runB (x : M Out) : M D := do
  let o ← x
  match o with
    | .nx _ => pure .non
    | .rt d => pure d
    | _ => M.bad
/-- the denotation of a def: N slots, its body -/
def fnD (n : Nat) (body : DEnv → M Out) : List D → M D := fun ds => scopeM (runB (body (startD n ds)))
theorem start_sg {k : Kx} {K : PySem.W.Frag} {G : Hp} {L : Lam} {N : List Str} {vs : List V} {ds : List D} (r : RpA k K G L vs ds) : Sg k K G L (start N vs) (startD N.length ds) := by
  unfold L2.start startD
  refine ⟨by simp [r.len], fun i d h => ?_⟩
  by_cases hi : i < ds.length
  · rw [List.getElem?_append_left (by simpa using hi), List.getElem?_map] at h
    cases e : ds[i]? with
    | none => rw [e] at h; cases h
    | some d' =>
      rw [e] at h
      cases h
      obtain ⟨v, hv, rv⟩ := r.get e
      refine ⟨v, ?_, rv⟩
      rw [List.getElem?_append_left (by rw [List.length_map, r.len]; exact hi), List.getElem?_map, hv]
      rfl
  · rw [List.getElem?_append_right (by simpa using hi), List.getElem?_replicate] at h
    split at h <;> cases h
section
variable {P : Program} {w : World} {K : PySem.W.Frag} {mg : Str → Option Value} {base : Heap}
theorem fn_ok {x qual : Str} {st : Stmt} {f : Addr} {fd : FuncData} {N ps : List Str} {lvl : Nat} {m : DEnv → M Out} (F : Fun K x qual st f fd) (S : FnScope N ps (defScope st))
    (hb : ∀ (cdv : Value) (A : Around) (outer : List Env) (s : Shared) (H : Hp) (E : XK), Room lvl (A.deeper (envOfC qual (defScope st) s.heap.objs.size f cdv)) → JB k (cxOf (L2.CX P w) P w K mg base N qual (defScope st) f cdv A outer s H E) E (defBody st) m) :
    FnOk P w K mg base (L2.CX P w) (lvl + 1) f fd ps (spD k K ps.length (fnD N.length m)) := by
  refine Fun.okX F S (fun vs H Q E h => ?_) (fun cdv A outer s H vs Q E hr h => ?_)
  · obtain ⟨ds, G, L, μ, r, hl, _⟩ := h
    rw [r.len, hl]
  · obtain ⟨ds, G, L, μ, r, hl, w0, g⟩ := h
    refine ⟨_, hb cdv A outer s H E hr, ?_⟩
    have g1 := scope_good (X := cxOf (L2.CX P w) P w K mg base N qual (defScope st) f cdv A outer s H E) w0 g
    refine ⟨startD N.length ds, G, L, μ, start_sg r, w0, Good.mono (Good.bind g1) fun o m1 G1 H1 L1 st1 w1 q1 => ?_⟩
    cases o with
    | nx e => exact fun s1 _ => Good.ret q1 w1 _ .non
    | rt d => exact fun v rv => Good.ret q1 w1 v rv
    | bk e => exact False.elim q1
    | ct e => exact False.elim q1
end
def callN (n : Nat) (den : List D → M D) (ds : List D) : M D := if ds.length = n then den ds else M.bad
abbrev FnDn (k : Kx) (X : Cx) (lvl : Nat) (f : Addr) (n : Nat) (den : List D → M D) : Prop := FnR X.prog X.w X.K X.mg X.base (L2.CX X.prog X.w) lvl f (spD k X.K n den)
theorem j_call {x : Str} {p pos : Pos} {a : Expr} {es : List Expr} {ms : DEnv → M (List D)} {lvl : Nat} {f : Addr} {n : Nat} {den : List D → M D} (F : FnDn k X lvl f n den) (hr : Room lvl X.A) (hx : Passes (L2.CX X.prog X.w) X E) (hg : Gl X x) (hm : X.mg x = some (.ref f))
    (hk : PySem.W.keepIn X.K (.ref f) = true) (ha : JA k X E (a :: es) ms) (hdb : (x == ("__debug__" : Str)) = false := by decide) (he : starEach (a :: es) X.env = (false, eval a X.env) :: starEach es X.env := by rfl) (hpl : (backTo pos (starEach es X.env)).any (·.1) = false := by rfl) :
    JE k X E (.Call (.Name x p) (a :: es) [] pos) (eCallB (callN n den) ms) := by
  refine ⟨fun pins s σ H Q I h => ?_⟩
  refine wpAny_Call_Name_kw (ld_glob I hg hm ?_ hdb)
  obtain ⟨e, G, L, μ, sg, w, gd⟩ := h
  have h' : dA k X.K E ms σ H fun vs H1 => spD k X.K n den vs H1 Q E := ⟨e, G, L, μ, sg, w, Good.mono (Good.bind gd) fun ds m1 G1 H1 L1 st1 w1 q1 vs r => by
    obtain ⟨hl, q1⟩ := good_ite q1
    exact ⟨ds, G1, L1, m1, r, hl, w1, q1⟩⟩
  refine PySem.W.callWith_K (h₀ := X.base) I.ok.mod.kin hk (thn (ha.run pos pins s σ H _ I h') fun us s1 ⟨vs, H1, I1, r, q⟩ => ⟨I1.kIn, ?_⟩) he hpl
  exact wpAny_call (run_fnR F hr hx I1 r q)
end
end DL
namespace DL
open PySem L2 PyProof.Rows
inductive Kd where
  | non | bl | int | str | lst | tup | dct | obj (c : Nat)
  deriving DecidableEq
inductive Ty where
  | int | bool | str | lst | tup | seq | cls (c : Nat)
  deriving DecidableEq
def isK : Ty → Kd → Bool
  | .int, .int => true
  | .int, .bl => true
  | .bool, .bl => true
  | .str, .str => true
  | .lst, .lst => true
  | .tup, .tup => true
  | .seq, .lst => true
  | .seq, .tup => true
  | .cls c, .obj c' => decide (c = c')
  | _, _ => false
def kindOf (cs : List Nat) (d : D) (m : Store) : Option Kd := match d with
  | .non => some .non
  | .bl _ => some .bl
  | .int _ => some .int
  | .str _ => some .str
  | .lst _ => some .lst
  | .tup _ => some .tup
  | .cls _ => none
  | .dct _ _ => some .dct
  | .fdc _ _ => none
  | .err _ _ => none
  | .obj c _ => if c ∈ cs then some (.obj c) else none
  | .loc n => match m[n]? with
    | some (some (.lst _)) => some .lst
    | _ => none
def isiD (cs : List Nat) (t : Ty) (d : D) : M D := fun m => match kindOf cs d m with
  | some kd => .ok (.bl (isK t kd)) m
  | none => .bad
def nmK : Kd → String
  | .non => "NoneType"
  | .bl => "bool"
  | .int => "int"
  | .str => "str"
  | .lst => "list"
  | .tup => "tuple"
  | .dct => "dict"
  | .obj _ => ""
def tyNm : Ty → String
  | .int => "int"
  | .bool => "bool"
  | .str => "str"
  | .lst => "list"
  | .tup => "tuple"
  | _ => ""
section
variable {k : Kx} {X : Cx} {E : XK}
theorem tyx_of {cs : List Nat} {d : D} {x : V} {kd : Kd} {G H : Hp} {L : Lam} {μ : Store} (r : Rp k X.K G L x d) (w : Wd k X.K G H L μ) (h : kindOf cs d μ = some kd) (no : ∀ c, kd ≠ .obj c) : TyX X.K H x (.type (nmK kd)) := by
  have lst : ∀ {a : Addr} {xs : List V}, SqL X.K H a xs → TyX X.K H (.ref a) (.type "list") := fun {a xs} hs => by
    rcases hs with (hs | ⟨o, hs⟩) | ⟨o, its, n, hk, hc, _⟩
    · exact .base (.lst hs)
    · exact .base (.frz hs)
    · exact .kList hk hc
  have tup : ∀ {a : Addr} {xs : List V}, SqT X.K H a xs → TyX X.K H (.ref a) (.type "tuple") := fun {a xs} hs => by
    rcases hs with (hs | ⟨o, hs⟩) | ⟨o, its, n, hk, hc, _⟩
    · exact .base (.tup hs)
    · exact .fTuple hs
    · exact .kTuple hk hc
  cases d with
  | non => cases r; cases h; exact .base .non
  | bl b => cases r; cases h; exact .base (.bl b)
  | int i => cases r; cases h; exact .base (.int i)
  | str s => cases r; cases h; exact .base (.str s)
  | lst ds =>
    cases h
    cases r with
    | lst hs ha => exact lst (w.ext.seq hs)
  | tup ds =>
    cases h
    cases r with
    | tup hs ha => exact tup (sqT_mono w.ext hs)
  | loc n =>
    simp only [kindOf] at h
    cases hm : μ[n]? with
    | none => rw [hm] at h; cases h
    | some o =>
      cases o with
      | none => rw [hm] at h; cases h
      | some c =>
        cases c with
        | ins _ _ => rw [hm] at h; cases h
        | dct _ _ => rw [hm] at h; cases h
        | lst ds =>
          rw [hm] at h
          cases h
          obtain ⟨a, vs, rfl, _, _, hh, _⟩ := w.look hm r
          exact lst (SqL.of hh)
  | cls c => cases h
  | fdc _ _ => cases h
  | err _ _ => cases h
  | dct ks ds =>
    cases h
    cases r with
    | dct hs hl ha => exact .base (.dK (w.ext _ _ hs))
  | obj c ds =>
    simp only [kindOf] at h
    by_cases hc : c ∈ cs
    · rw [if_pos hc] at h
      cases h
      exact absurd rfl (no c)
    · rw [if_neg hc] at h
      cases h
/-- what is to be known of the law's classes for isinstance with the class value u -/
structure IsiF (k : Kx) (K : PySem.W.Frag) (cs : List Nat) (t : Ty) (u : Value) : Prop where
  ob : ∀ c ∈ cs, SlX.SCls K (k.cl c) ∧ SlX.SIsi K (k.cl c) ∧ PySem.W.kitOne K (.ref (k.cl c)) u = some (isK t (.obj c))
  bu : ∀ kd, (∀ c, kd ≠ .obj c) → PySem.W.kitOne K (.type (nmK kd)) u = some (isK t kd)
theorem isi_run {cs : List Nat} {t : Ty} {u : Value} {c : V} (F : IsiF k X.K cs t u) (rc : RelV c u) (one : ∀ w, RelV c w → w = u) (kc : ClsV c u) {d : D} {x : V} {G H : Hp} {L : Lam} {μ : Store} {Q : VK} (r : Rp k X.K G L x d) (w : Wd k X.K G H L μ)
    (g : Good k X.K E G H L (isiD cs t d μ) (QV k X.K Q)) : rIsi X.K [x, c] H Q ∨ SlX.rIsiSl X.K u [x, c] H Q := by
  unfold isiD at g
  cases h : kindOf cs d μ with
  | none => rw [h] at g; exact False.elim g
  | some kd =>
    rw [h] at g
    have q := Good.okE g w _ (.bl _)
    by_cases no : ∀ c, kd ≠ .obj c
    · exact .inl ⟨x, c, _, u, _, rfl, kc, tyx_of r w h no, F.bu kd no, q⟩
    · have no' : ∃ c, kd = .obj c := by
        cases kd with
        | obj c => exact ⟨c, rfl⟩
        | _ => exact absurd (fun c z => nomatch z) no
      obtain ⟨cc, rfl⟩ := no'
      have hd : ∃ ds, d = .obj cc ds ∧ cc ∈ cs := by
        cases d with
        | obj c' ds =>
          simp only [kindOf] at h
          by_cases hc : c' ∈ cs
          · rw [if_pos hc] at h
            cases h
            exact ⟨ds, rfl, hc⟩
          · rw [if_neg hc] at h
            cases h
        | loc n =>
          simp only [kindOf] at h
          cases hm : μ[n]? with
          | none => rw [hm] at h; cases h
          | some o =>
            cases o with
            | none => rw [hm] at h; cases h
            | some c' => cases c' <;> (rw [hm] at h; cases h)
        | _ => cases h
      obtain ⟨ds, rfl, hcs⟩ := hd
      cases r with
      | @obj _ a dx vs _ hs ha =>
        obtain ⟨f1, f2, f3⟩ := F.ob cc hcs
        exact .inr ⟨a, k.cl cc, dx, _, c, _, rfl, rc, one, slt_mono w.ext hs, f1, f2, f3, q⟩
def eIsi (cs : List Nat) (t : Ty) (a : DEnv → M D) : DEnv → M D := eUn (isiD cs t) a
theorem kit_bu (t : Ty) (h : t = .int ∨ t = .bool ∨ t = .str ∨ t = .lst ∨ t = .tup) {K : PySem.W.Frag} : ∀ kd, (∀ c, kd ≠ .obj c) → PySem.W.kitOne K (.type (nmK kd)) (.type (tyNm t)) = some (isK t kd) := by
  intro kd no
  cases kd with
  | obj c => exact absurd rfl (no c)
  | _ => rcases h with rfl | rfl | rfl | rfl | rfl <;> exact kit_ty (by decide +kernel)
/-- isinstance(e, T), T a built-in class or one of the program's -/
theorem j_isi {a : Expr} {ma : DEnv → M D} {p pos pc : Pos} {cn : Str} {cs : List Nat} {t : Ty} {u : Value} {c : V} {te : TE} (F : IsiF k X.K cs t u) (rc : RelV c u) (one : ∀ w, RelV c w → w = u) (kc : ClsV c u) (hg : Gl X "isinstance") (hm : X.mg "isinstance" = none)
    (ha : JE k X E a ma) (hc : PE X (.Name cn pc) (tC c)) (hs1 : starEach [.Name cn pc] X.env = [(false, eval (.Name cn pc) X.env)] := by rfl) (he : starEach [a, .Name cn pc] X.env = (false, eval a X.env) :: starEach [.Name cn pc] X.env := by rfl) (hpl : (backTo pos (starEach [.Name cn pc] X.env)).any (·.1) = false := by rfl) :
    JE k X E (.Call (.Name "isinstance" p) [a, .Name cn pc] [] pos) (eIsi cs t ma) := by
  refine PE.imp (pe_callB (CallR.or call_isi (SlX.call_isiSl u)) hg hm (by decide +kernel) (pa_cons ha (pa_cons hc pa_nil hs1) he) (by decide) (by decide) he hpl) fun s H Q h => ?_
  obtain ⟨e, G, L, μ, sg, w, gd⟩ := h
  refine ⟨e, G, L, μ, sg, w, Good.mono (Good.bind gd) fun d1 m1 G1 H1 L1 st1 w1 q1 x r1 => ?_⟩
  exact isi_run F rc one kc r1 w1 q1
/-- isinstance(e, (list, tuple)) -/
theorem kit_seq {K : PySem.W.Frag} : ∀ kd, (∀ c, kd ≠ .obj c) → PySem.W.kitAny K (.type (nmK kd)) [.type "list", .type "tuple"] = some (isK .seq kd) := by
  intro kd no
  have h1 := kit_bu (K := K) .lst (by simp) kd no
  have h2 := kit_bu (K := K) .tup (by simp) kd no
  cases kd with
  | obj c => exact absurd rfl (no c)
  | lst => exact kitAny_cons h1 (fun z => by cases z) fun _ => rfl
  | tup => exact kitAny_cons h1 (fun _ => kitAny_cons h2 (fun z => by cases z) fun _ => rfl) fun z => by cases z
  | _ => exact kitAny_cons h1 (fun _ => kitAny_cons h2 (fun _ => kitAny_nil) fun z => by cases z) fun z => by cases z
structure IsiS (k : Kx) (K : PySem.W.Frag) (cs : List Nat) : Prop where
  ob : ∀ c ∈ cs, SlX.SCls K (k.cl c) ∧ SlX.SIsi K (k.cl c) ∧ PySem.W.kitAny K (.ref (k.cl c)) [.type "list", .type "tuple"] = some false
/-- isinstance of an instance with slots against a tuple of classes -/
def rIsiSlT (K : PySem.W.Frag) : List V → Hp → VK → Prop := fun xs H Q => ∃ (a C dx tp : Addr) (vs : List (Option V)) (cs : List V) (us : List Value) (b : Bool), xs = [V.ref a, .ref tp] ∧ H tp = some (.tup cs) ∧ Paired ClsV cs us ∧ SlX.Slt H a C dx vs ∧ SlX.SCls K C ∧ SlX.SIsi K C ∧ PySem.W.kitAny K (.ref C) us = some b ∧ Q (.bl b) H
theorem call_isiSlT : CallR X (.builtin "isinstance") (rIsiSlT X.K) := by
  intro pins s σ H xs us Q I r h
  obtain ⟨a, C, dx, tp, vs, cs, ws, b, rfl, hT, kk, hsl, hc, hi, hk, q⟩ := h
  obtain ⟨u1, u2, rfl, r1, r2⟩ := r.two
  cases (show u1 = Value.ref a from r1)
  cases (show u2 = Value.ref tp from r2)
  obtain ⟨sl, od, _, J, _⟩ := SlX.slt_inst I hsl
  obtain ⟨_, its, rv, o, h1, h2, n, h3⟩ := (show ObjOk X.prog X.w H s.heap tp (.tup cs) from I.hok tp _ hT)
  have e3 := ClsV.all kk rv
  subst e3
  obtain ⟨oc, od', dt, sl'⟩ := o
  simp only at h2 h3
  subst h2 h3
  exact PySem.W.kia_tup (OwX.kitx_slt hc.ic (hc.get _) hi.ca hi.cn hi.ct hi.cm) I.kIn J h1 hk (fun z => nomatch z) fun tk => ⟨.bl b, H, I.tok tk, rfl, q⟩
theorem j_isiS {a : Expr} {ma : DEnv → M D} {p pos p1 p2 p3 : Pos} {kk : Nat} {cs : List Nat} (F : IsiS k X.K cs) (hg : Gl X "isinstance") (hm : X.mg "isinstance" = none) (hgl : Gl X "list") (hml : X.mg "list" = none) (hgt : Gl X "tuple") (hmt : X.mg "tuple" = none) (ha : JE k X E a ma)
    (h1 : starEach [.Name "tuple" p2] X.env = [(false, eval (.Name "tuple" p2) X.env)] := by rfl) (h2 : starEach [.Name "list" p1, .Name "tuple" p2] X.env = (false, eval (.Name "list" p1) X.env) :: starEach [.Name "tuple" p2] X.env := by rfl)
    (h3 : starEach [.Tuple [.Name "list" p1, .Name "tuple" p2] kk p3] X.env = [(false, eval (.Tuple [.Name "list" p1, .Name "tuple" p2] kk p3) X.env)] := by rfl)
    (he : starEach [a, .Tuple [.Name "list" p1, .Name "tuple" p2] kk p3] X.env = (false, eval a X.env) :: starEach [.Tuple [.Name "list" p1, .Name "tuple" p2] kk p3] X.env := by rfl)
    (hpl : (backTo pos (starEach [.Tuple [.Name "list" p1, .Name "tuple" p2] kk p3] X.env)).any (·.1) = false := by rfl) :
    JE k X E (.Call (.Name "isinstance" p) [a, .Tuple [.Name "list" p1, .Name "tuple" p2] kk p3] [] pos) (eIsi cs .seq ma) := by
  have hl : PE X (.Name "list" p1) (tC (.ty "list")) := pe_bltn hgl hml (by decide +kernel) rfl
  have ht : PE X (.Name "tuple" p2) (tC (.ty "tuple")) := pe_bltn hgt hmt (by decide +kernel) rfl
  refine PE.imp (pe_callB (CallR.or call_isiT call_isiSlT) hg hm (by decide +kernel) (pa_cons ha (pa_cons (pe_tup (pa_cons hl (pa_cons ht pa_nil h1) h2)) pa_nil h3) he) (by decide) (by decide) he hpl) fun s H Q h => ?_
  obtain ⟨e, G, L, μ, sg, w, gd⟩ := h
  refine ⟨e, G, L, μ, sg, w, Good.mono (Good.bind gd) fun d1 m1 G1 H1 L1 st1 w1 q1 x r1 => ⟨by show 2 ≤ sizeLine; decide, fun tp htp => ?_⟩⟩
  have w2 := w1.junk (o := .tup [V.ty "list", V.ty "tuple"]) htp
  have q2 := Good.up q1 (junkS (G := G1) (L := L1) (o := .tup [V.ty "list", V.ty "tuple"]) htp)
  unfold isiD at q2
  cases h : kindOf cs d1 m1 with
  | none => rw [h] at q2; exact False.elim q2
  | some kd =>
    rw [h] at q2
    have q := Good.okE q2 w2 _ (.bl _)
    have kp : Paired ClsV [V.ty "list", V.ty "tuple"] [.type "list", .type "tuple"] := .cons (.ty _) (.cons (.ty _) .nil)
    by_cases no : ∀ c, kd ≠ .obj c
    · exact .inl ⟨x, tp, _, _, _, _, rfl, upd_same, kp, tyx_of r1 w2 h no, kit_seq kd no, q⟩
    · have no' : ∃ c, kd = .obj c := by
        cases kd with
        | obj c => exact ⟨c, rfl⟩
        | _ => exact absurd (fun c z => nomatch z) no
      obtain ⟨cc, rfl⟩ := no'
      cases d1 with
      | obj c' ds =>
        simp only [kindOf] at h
        by_cases hc : c' ∈ cs
        · rw [if_pos hc] at h
          cases h
          cases r1 with
          | @obj _ a dx vs _ hs ha =>
            obtain ⟨f1, f2, f3⟩ := F.ob cc hc
            exact .inr ⟨a, k.cl cc, dx, tp, _, _, _, _, rfl, upd_same, kp, slt_mono w2.ext hs, f1, f2, f3, q⟩
        · rw [if_neg hc] at h
          cases h
      | loc n =>
        simp only [kindOf] at h
        cases hm : m1[n]? with
        | none => rw [hm] at h; cases h
        | some o =>
          cases o with
          | none => rw [hm] at h; cases h
          | some c' => cases c' <;> (rw [hm] at h; cases h)
      | _ => cases h
def setIx (o i v : D) : M Unit := fun m => match o, i with
  | .loc n, .int i => match m[n]? with
    | some (some (.lst ds)) => match ixN ds.length i with
      | some j => .ok () (m.set n (some (.lst (ds.set j v))))
      | none => .bad
    | _ => .bad
  | _, _ => .bad
def sSetIx (o i v : DEnv → M D) : DEnv → M Out := fun e => do let x ← v e; let y ← o e; let z ← i e; setIx y z x; pure (.nx e)
theorem setIx_good {β : Type} {o i v : D} {x y : V} {u : V} {f : Unit → M β} {G H : Hp} {L : Lam} {μ : Store} {Q : β → Store → Hp → Hp → Lam → Prop} (ro : Rp k X.K G L x o) (ri : Rp k X.K G L y i) (rv : Rp k X.K G L u v) (w : Wd k X.K G H L μ) (g : Good k X.K E G H L ((setIx o i v >>= f) μ) Q) :
    ∃ p xs kk j m', x = .ref p ∧ y = .int kk ∧ H p = some (.lst xs) ∧ ixN xs.length kk = some j ∧ Stp G H L G (upd H p (.lst (xs.set j u))) L ∧ Wd k X.K G (upd H p (.lst (xs.set j u))) L m' ∧ Good k X.K E G H L (f () m') Q := by
  have g' : Good k X.K E G H L (M.bind (setIx o i v) f μ) Q := g
  unfold M.bind setIx at g'
  cases o with
  | loc n =>
    cases i with
    | int kk =>
      cases ri
      simp only at g'
      cases hm : μ[n]? with
      | none => rw [hm] at g'; exact False.elim g'
      | some c =>
        cases c with
        | none => rw [hm] at g'; exact False.elim g'
        | some c =>
          cases c with
          | ins _ _ => rw [hm] at g'; exact False.elim g'
          | dct _ _ => rw [hm] at g'; exact False.elim g'
          | lst ds =>
            rw [hm] at g'
            simp only at g'
            cases hj : ixN ds.length kk with
            | none => rw [hj] at g'; exact False.elim g'
            | some j =>
              rw [hj] at g'
              obtain ⟨a, vs, rfl, hl, ga, h, ra⟩ := w.look hm ro
              exact ⟨a, vs, kk, j, _, rfl, rfl, h, by rw [ra.len]; exact hj, setLocS hl h, w.setLoc hm hl (ra.set j rv), g'⟩
    | _ => exact False.elim g'
  | _ => cases i <;> exact False.elim g'
theorem js_setIx {o i v : Expr} {mo mi mv : DEnv → M D} {pos pos' : Pos} (hv : JE k X E v mv) (ho : JE k X E o mo) (hi : JE k X E i mi) (hs : swapsWithSole [.Subscript o i pos'] v pos.line X.env = pure false := by rfl) (hw : swappedStores [.Subscript o i pos'] v X.env = pure none := by rfl)
    (h1 : (assignEach [.Subscript o i pos'] X.env).map (·.2) = [assign (.Subscript o i pos') X.env] := by rfl)
    (ha : ∀ v, assign (.Subscript o i pos') X.env v = (do
      let ov ← holding [v] (eval o X.env)
      let iv ← holding [v, ov] (eval i X.env)
      standAt pos'
      holding [v, ov, iv] (setItem ov iv v)
      release [v, ov, iv] []) := by intro _; rfl) : JS k X E (.Assign [.Subscript o i pos'] v pos) (sSetIx mo mi mv) := by
  refine PS.imp (ps_asg hv (pg_sub ho hi set_list ha) hs hw h1) fun Ds s H h => ?_
  obtain ⟨e, G, L, μ, sg, w, gd⟩ := h
  refine ⟨e, G, L, μ, sg, w, Good.mono (Good.bind gd) fun d1 m1 G1 H1 L1 st1 w1 q1 x1 r1 => ?_⟩
  have sg1 := sg.mono st1.g st1.l
  refine ⟨e, G1, L1, m1, sg1, w1, Good.mono (Good.bind q1) fun d2 m2 G2 H2 L2 st2 w2 q2 x2 r2 => ?_⟩
  have sg2 := sg1.mono st2.g st2.l
  refine ⟨e, G2, L2, m2, sg2, w2, Good.mono (Good.bind q2) fun d3 m3 G3 H3 L3 st3 w3 q3 x3 r3 => ?_⟩
  have sg3 := sg2.mono st3.g st3.l
  obtain ⟨p, xs, kk, j, m', rfl, rfl, h, hj, st4, w4, q4⟩ := setIx_good (Rp.mono st3.g st3.l _ _ r2) r3 (Rp.mono st3.g st3.l _ _ (Rp.mono st2.g st2.l _ _ r1)) w3 q3
  exact ⟨p, xs, kk, j, rfl, rfl, h, hj, Good.up q4 st4 _ _ _ (Stp.refl _ _ _) w4 _ (sg3.mono st4.g st4.l)⟩
def isLocL (o : D) : M Unit := fun m => match o with
  | .loc n => match m[n]? with
    | some (some (.lst _)) => .ok () m
    | _ => .bad
  | _ => .bad
def growD (o : D) (vs : List D) : M D := fun m => match o with
  | .loc n => match m[n]? with
    | some (some (.lst ds)) => if ds.length + vs.length ≤ 100000 then .ok .non (m.set n (some (.lst (ds ++ vs)))) else .bad
    | _ => .bad
  | _ => .bad
def eApp (o v : DEnv → M D) : DEnv → M D := fun e => do let x ← o e; isLocL x; let y ← v e; growD x [y]
theorem isLoc_good {β : Type} {o : D} {x : V} {f : Unit → M β} {G H : Hp} {L : Lam} {μ : Store} {Q : β → Store → Hp → Hp → Lam → Prop} (r : Rp k X.K G L x o) (w : Wd k X.K G H L μ) (g : Good k X.K E G H L ((isLocL o >>= f) μ) Q) :
    tyV X.K "list" x H ∧ Good k X.K E G H L (f () μ) Q := by
  have g' : Good k X.K E G H L (M.bind (isLocL o) f μ) Q := g
  unfold M.bind isLocL at g'
  cases o with
  | loc n =>
    simp only at g'
    cases hm : μ[n]? with
    | none => rw [hm] at g'; exact False.elim g'
    | some c =>
      cases c with
      | none => rw [hm] at g'; exact False.elim g'
      | some c =>
        cases c with
        | ins _ _ => rw [hm] at g'; exact False.elim g'
        | dct _ _ => rw [hm] at g'; exact False.elim g'
        | lst ds =>
          rw [hm] at g'
          obtain ⟨a, vs, rfl, hl, ga, h, ra⟩ := w.look hm r
          exact ⟨.inl ⟨rfl, vs, SqL.of h⟩, g'⟩
  | _ => exact False.elim g'
theorem grow_good {o : D} {x : V} {us : List V} {ds' : List D} {G H : Hp} {L : Lam} {μ : Store} {Q : VK} (r : Rp k X.K G L x o) (ru : RpA k X.K G L us ds') (w : Wd k X.K G H L μ) (g : Good k X.K E G H L (growD o ds' μ) (QV k X.K Q)) :
    ∃ l xs, x = .ref l ∧ H l = some (.lst xs) ∧ xs.length + us.length ≤ 100000 ∧ Q .non (upd H l (.lst (xs ++ us))) := by
  unfold growD at g
  cases o with
  | loc n =>
    simp only at g
    cases hm : μ[n]? with
    | none => rw [hm] at g; exact False.elim g
    | some c =>
      cases c with
      | none => rw [hm] at g; exact False.elim g
      | some c =>
        cases c with
        | ins _ _ => rw [hm] at g; exact False.elim g
        | dct _ _ => rw [hm] at g; exact False.elim g
        | lst ds =>
          rw [hm] at g
          simp only at g
          by_cases hz : ds.length + ds'.length ≤ 100000
          · rw [if_pos hz] at g
            obtain ⟨a, vs, rfl, hl, ga, h, ra⟩ := w.look hm r
            exact ⟨a, vs, rfl, h, by rw [ra.len, ru.len]; exact hz, g _ _ _ (setLocS hl h) (w.setLoc hm hl (ra.append ru)) _ .non⟩
          · rw [if_neg hz] at g
            exact False.elim g
  | _ => exact False.elim g
theorem j_app {o v : Expr} {mo mv : DEnv → M D} {apos pos : Pos} (ho : JE k X E o mo) (hv : JE k X E v mv)
    (hbase : attributeBase o "append" X.env (eval o X.env) = eval o X.env := by rfl)
    (hfew : ((backTo pos (starEach [v] X.env)).all (fun x => !x.1) && (backToKw pos (keywordEach [] X.env)).all (fun x => x.1.isSome)
      && decide ([v].length + ([] : List Keyword).length + (if ([] : List Keyword).isEmpty then 0 else 1) < 30)) = true := by rfl)
    (hline : (apos.endLine == pos.line) = true := by rfl) (hs : starEach [v] X.env = (false, eval v X.env) :: starEach [] X.env := by rfl) (hplain : (backTo pos (starEach [] X.env)).any (·.1) = false := by rfl) :
    JE k X E (.Call (.Attribute o "append" apos) [v] [] pos) (eApp mo mv) := by
  refine PE.imp (pe_bm PySem.F.plainAttrs_list PySem.F.slot_list_append PySem.F.type_list_append mt_append ho (pa_cons hv pa_nil hs) hbase hfew hline hs hplain) fun s H Q h => ?_
  obtain ⟨e, G, L, μ, sg, w, gd⟩ := h
  refine ⟨e, G, L, μ, sg, w, Good.mono (Good.bind gd) fun d1 m1 G1 H1 L1 st1 w1 q1 x1 r1 => ?_⟩
  obtain ⟨ty, q1⟩ := isLoc_good r1 w1 q1
  refine ⟨ty, e, G1, L1, m1, sg.mono st1.g st1.l, w1, Good.mono (Good.bind q1) fun d2 m2 G2 H2 L2 st2 w2 q2 x2 r2 => ?_⟩
  obtain ⟨l, xs, rfl, h, hz, q⟩ := grow_good (Rp.mono st2.g st2.l _ _ r1) (.cons r2 .nil) w2 q2
  exact ⟨l, xs, x2, rfl, rfl, h, lt_size (by simp at hz; omega), q⟩
end
end DL
namespace DL
open PySem L2 PyProof.Rows
def clsD (d : D) (m : Store) : Option Nat := match d with
  | .obj c _ => some c
  | .loc n => match m[n]? with
    | some (some (.ins c _)) => some c
    | _ => none
  | _ => none
def slotD (i : Nat) (d : D) (m : Store) : Option D := match d with
  | .obj _ ds => ds[i]?
  | .loc n => match m[n]? with
    | some (some (.ins _ ss)) => match ss[i]? with
      | some (some v) => some v
      | _ => none
    | _ => none
  | _ => none
inductive At where
  | slot (i : Nat)
  | prop (den : List D → M D)
def attrD (tab : List (Nat × At)) (d : D) : M D := fun m => match clsD d m with
  | some c => match tab.lookup c with
    | some (.slot i) => match slotD i d m with
      | some v => .ok v m
      | none => .bad
    | some (.prop den) => noX (den [d]) m
    | none => .bad
  | none => .bad
section
variable {k : Kx} {X : Cx} {E : XK}
theorem ins_at {d : D} {x : V} {c : Nat} {G H : Hp} {L : Lam} {μ : Store} (r : Rp k X.K G L x d) (w : Wd k X.K G H L μ) (h : clsD d μ = some c) :
    ∃ a dx vs, x = .ref a ∧ SlX.Slt H a (k.cl c) dx vs ∧ ∀ i v, slotD i d μ = some v → ∃ u, vs[i]? = some (some u) ∧ Rp k X.K G L u v := by
  cases d with
  | obj c' ds =>
    simp only [clsD] at h
    cases h
    cases r with
    | @obj _ a dx vs _ hs ha =>
      refine ⟨a, dx, _, rfl, slt_mono w.ext hs, fun i v e => ?_⟩
      simp only [slotD] at e
      obtain ⟨u, hu, ru⟩ := ha.get e
      exact ⟨u, by rw [List.getElem?_map, hu]; rfl, ru⟩
  | loc n =>
    simp only [clsD] at h
    cases hm : μ[n]? with
    | none => rw [hm] at h; cases h
    | some o =>
      cases o with
      | none => rw [hm] at h; cases h
      | some cc =>
        cases cc with
        | lst _ => rw [hm] at h; cases h
        | dct _ _ => rw [hm] at h; cases h
        | ins c' ss =>
          rw [hm] at h
          cases h
          obtain ⟨a, dx, vs, rfl, hl, ga, gb, hs, q, ne⟩ := w.lookIns hm r
          refine ⟨a, dx, vs, rfl, hs, fun i v e => ?_⟩
          simp only [slotD, hm] at e
          cases he : ss[i]? with
          | none => rw [he] at e; cases e
          | some o =>
            cases o with
            | none => rw [he] at e; cases e
            | some d' =>
              rw [he] at e
              cases e
              exact q.2 i _ he
  | _ => cases h
theorem slt_of {d : D} {x : V} {c : Nat} {G H : Hp} {L : Lam} {μ : Store} (r : Rp k X.K G L x d) (w : Wd k X.K G H L μ) (h : clsD d μ = some c) : ∃ a dx vs, x = .ref a ∧ SlX.Slt H a (k.cl c) dx vs :=
  let ⟨a, dx, vs, e, hs, _⟩ := ins_at r w h
  ⟨a, dx, vs, e, hs⟩
def At1 (k : Kx) (X : Cx) (f : Str) (c : Nat) : At → Prop
  | .slot i => SlX.SCls X.K (k.cl c) ∧ ∃ p, SlX.Slot1 X.K (k.cl c) f p i
  | .prop den => SlX.SCls X.K (k.cl c) ∧ ∃ p g lvl rest, PySem.W.findIn X.K (.ref (k.cl c)) f = some (some (.ref p)) ∧ PySem.W.specialIn X.K (.ref p) "__get__" = some (some (.builtin "property.__get__")) ∧
      PySem.W.takesIn X.K (.ref p) = some true ∧ PySem.W.recIn X.K p "property" = some (.ref g :: rest) ∧ FnDn k X lvl g 1 den ∧ Room (lvl + 1) X.A
def AtAll (k : Kx) (X : Cx) (f : Str) : List (Nat × At) → Prop
  | [] => True
  | p :: r => At1 k X f p.1 p.2 ∧ AtAll k X f r
theorem atAll_of {f : Str} {c : Nat} {a : At} : ∀ {tab : List (Nat × At)}, AtAll k X f tab → tab.lookup c = some a → At1 k X f c a
  | [], _, h => by cases h
  | p :: r, F, h => by
    rw [List.lookup_cons] at h
    by_cases hc : c == p.1
    · rw [hc] at h
      cases h
      rw [beq_iff_eq.mp hc]
      exact F.1
    · rw [Bool.eq_false_iff.mpr hc] at h
      exact atAll_of F.2 h
theorem noX_good {α : Type} {x : M α} {G H : Hp} {L : Lam} {m : Store} {Q : α → Store → Hp → Hp → Lam → Prop} (h : Good k X.K E G H L (noX x m) Q) : Good k X.K E0 G H L (x m) Q := by
  unfold noX at h
  cases e : x m with
  | ok a m' => rw [e] at h; exact h
  | exn c fs m' => rw [e] at h; exact False.elim h
  | bad => rw [e] at h; exact False.elim h
/-- e.f, by the class of e: a slot, a property -/
theorem j_attr {a : Expr} {ma : DEnv → M D} {f : Str} {pos : Pos} {tab : List (Nat × At)} (F : AtAll k X f tab) (ha : JE k X E a ma) (hb : attributeBase a f X.env (eval a X.env) = eval a X.env := by rfl) : JE k X E (.Attribute a f pos) (eUn (attrD tab) ma) := by
  refine ⟨fun pins s σ H Q I h => ?_⟩
  obtain ⟨e, G, L, μ, sg, w, gd⟩ := h
  have h' : dE k X.K E ma σ H fun x H1 => ∃ G1 L1 m1 d, Rp k X.K G1 L1 x d ∧ Wd k X.K G1 H1 L1 m1 ∧ Good k X.K E G1 H1 L1 (attrD tab d m1) (QV k X.K Q) :=
    ⟨e, G, L, μ, sg, w, Good.mono (Good.bind gd) fun d m1 G1 H1 L1 st1 w1 q1 x r => ⟨G1, L1, m1, d, r, w1, q1⟩⟩
  refine attr_of hb (thn (ha.run pins s σ H _ I h') fun u s1 ⟨x, H1, I1, rx, G1, L1, m1, d, r, w1, q1⟩ => ?_)
  unfold attrD at q1
  cases hc : clsD d m1 with
  | none => rw [hc] at q1; exact False.elim q1
  | some c =>
    simp only [hc] at q1
    obtain ⟨a, dx, vs, rfl, hs, hv⟩ := ins_at r w1 hc
    obtain rfl : u = Value.ref a := rx
    cases ht : tab.lookup c with
    | none => rw [ht] at q1; exact False.elim q1
    | some at' =>
      simp only [ht] at q1
      have A1 := atAll_of F ht
      cases at' with
      | slot i =>
        simp only at q1
        cases hsl : slotD i d m1 with
        | none => rw [hsl] at q1; exact False.elim q1
        | some v =>
          simp only [hsl] at q1
          obtain ⟨y, hy, ry⟩ := hv i v hsl
          obtain ⟨sc, p, sp⟩ := A1
          exact SlX.getslot_ok I1 hs sc sp hy fun u' s2 I2 ru => ⟨y, H1, I2, ru, Good.okE q1 w1 _ ry⟩
      | prop den =>
        simp only at q1
        obtain ⟨sc, p, g, lvl, rest, f1, f2, f3, f4, Fn, hr⟩ := A1
        refine SlX.getprop_sl (E := E0) I1 hs sc f1 f2 f3 ⟨rest, f4⟩ Fn hr (fun H s e s' z => ?_) ⟨[d], G1, L1, m1, .cons r .nil, rfl, w1, noX_good q1⟩
        obtain ⟨_, _, _, _, _, _, _, _, _, _, _, _, z⟩ := z
        exact z.elim
/-- self.f = e, in a class's own defs -/
def setAt (i : Nat) (o v : D) : M Unit := fun m => match o with
  | .loc n => match m[n]? with
    | some (some (.ins c ss)) => .ok () (m.set n (some (.ins c (putD i v ss))))
    | _ => .bad
  | _ => .bad
def setAtT (tab : List (Nat × Nat)) (o v : D) : M Unit := fun m => match clsD o m with
  | some c => match tab.lookup c with
    | some i => setAt i o v m
    | none => .bad
  | none => .bad
def sAttr (tab : List (Nat × Nat)) (o v : DEnv → M D) : DEnv → M Out := fun e => do let x ← v e; let y ← o e; setAtT tab y x; pure (.nx e)
def SlAll (k : Kx) (X : Cx) (f : Str) : List (Nat × Nat) → Prop
  | [] => True
  | p :: r => (SlX.SCls X.K (k.cl p.1) ∧ ∃ q, SlX.Slot1 X.K (k.cl p.1) f q p.2) ∧ SlAll k X f r
theorem slAll_of {f : Str} {c i : Nat} : ∀ {tab : List (Nat × Nat)}, SlAll k X f tab → tab.lookup c = some i → SlX.SCls X.K (k.cl c) ∧ ∃ q, SlX.Slot1 X.K (k.cl c) f q i
  | [], _, h => by cases h
  | p :: r, F, h => by
    rw [List.lookup_cons] at h
    by_cases hc : c == p.1
    · rw [hc] at h
      cases h
      rw [beq_iff_eq.mp hc]
      exact F.1
    · rw [Bool.eq_false_iff.mpr hc] at h
      exact slAll_of F.2 h
theorem setAt_good {β : Type} {tab : List (Nat × Nat)} {o v : D} {x y : V} {f : Unit → M β} {G H : Hp} {L : Lam} {μ : Store} {Q : β → Store → Hp → Hp → Lam → Prop} (ro : Rp k X.K G L x o) (rv : Rp k X.K G L y v) (w : Wd k X.K G H L μ) (g : Good k X.K E G H L ((setAtT tab o v >>= f) μ) Q) :
    ∃ a c dx vs i m', x = .ref a ∧ tab.lookup c = some i ∧ SlX.Slt H a (k.cl c) dx vs ∧ Stp G H L G (SlX.slH H a (k.cl c) dx (SlX.putS i y vs)) L ∧ Wd k X.K G (SlX.slH H a (k.cl c) dx (SlX.putS i y vs)) L m' ∧ Good k X.K E G H L (f () m') Q := by
  have g' : Good k X.K E G H L (M.bind (setAtT tab o v) f μ) Q := g
  unfold M.bind setAtT setAt at g'
  cases o with
  | loc n =>
    simp only [clsD] at g'
    cases hm : μ[n]? with
    | none => simp only [hm] at g'; exact False.elim g'
    | some oc =>
      cases oc with
      | none => simp only [hm] at g'; exact False.elim g'
      | some cc =>
        cases cc with
        | lst _ => simp only [hm] at g'; exact False.elim g'
        | dct _ _ => simp only [hm] at g'; exact False.elim g'
        | ins c ss =>
          simp only [hm] at g'
          cases ht : tab.lookup c with
          | none => rw [ht] at g'; exact False.elim g'
          | some i =>
            rw [ht] at g'
            simp only at g'
            obtain ⟨a, dx, vs, rfl, hl, ga, gb, hs, q, ne⟩ := w.lookIns hm ro
            exact ⟨a, c, dx, vs, i, _, rfl, ht, hs, setInsS hl, w.setIns i hm hl q ne rv, g'⟩
  | obj c ds =>
    simp only [clsD] at g'
    cases ht : tab.lookup c with
    | none => rw [ht] at g'; exact False.elim g'
    | some i => rw [ht] at g'; exact False.elim g'
  | _ => exact False.elim g'
theorem js_attr {o v : Expr} {mo mv : DEnv → M D} {f : Str} {pos pos' : Pos} {tab : List (Nat × Nat)} (F : SlAll k X f tab) (ho : JE k X E o mo) (hv : JE k X E v mv) (hs : swapsWith v (some (.Attribute o f pos')) pos.line X.env = pure false := by rfl) :
    JS k X E (.Assign [.Attribute o f pos'] v pos) (sAttr tab mo mv) := by
  refine PS.imp (SlX.ps_sl ho hv hs) fun Ds s H h => ?_
  obtain ⟨e, G, L, μ, sg, w, gd⟩ := h
  refine ⟨e, G, L, μ, sg, w, Good.mono (Good.bind gd) fun d1 m1 G1 H1 L1 st1 w1 q1 x1 r1 => ?_⟩
  have sg1 := sg.mono st1.g st1.l
  refine ⟨e, G1, L1, m1, sg1, w1, Good.mono (Good.bind q1) fun d2 m2 G2 H2 L2 st2 w2 q2 x2 r2 => ?_⟩
  have sg2 := sg1.mono st2.g st2.l
  obtain ⟨a, c, dx, vs, i, m', rfl, ht, hsl, st3, w3, q3⟩ := setAt_good r2 (Rp.mono st2.g st2.l _ _ r1) w2 q2
  obtain ⟨sc, p, sp⟩ := slAll_of F ht
  exact ⟨a, k.cl c, dx, p, vs, i, rfl, hsl, sc, sp, Good.up q3 st3 _ _ _ (Stp.refl _ _ _) w3 _ (sg2.mono st3.g st3.l)⟩
abbrev MTab := List (Nat × Nat × (List D → M D))
def clsM (d : D) : M Nat := fun m => match clsD d m with
  | some c => .ok c m
  | none => .bad
def methOf (tab : MTab) (c : Nat) : M (Nat × (List D → M D)) := match tab.lookup c with
  | some p => pure p
  | none => M.bad
def eMeth (tab : MTab) (o : DEnv → M D) (as : DEnv → M (List D)) : DEnv → M D := fun e => do
  let x ← o e
  let c ← clsM x
  let p ← methOf tab c
  let ds ← as e
  callN p.1 p.2 (x :: ds)
def Mt1 (k : Kx) (X : Cx) (m : Str) (c n : Nat) (den : List D → M D) : Prop := SlX.SCls X.K (k.cl c) ∧ ∃ g lvl, Meth X.K (k.cl c) m g ∧ FnDn k X lvl g n den ∧ Room lvl X.A
def MtAll (k : Kx) (X : Cx) (m : Str) : MTab → Prop
  | [] => True
  | p :: r => Mt1 k X m p.1 p.2.1 p.2.2 ∧ MtAll k X m r
theorem mtAll_of {m : Str} {c : Nat} {q : Nat × (List D → M D)} : ∀ {tab : MTab}, MtAll k X m tab → tab.lookup c = some q → Mt1 k X m c q.1 q.2
  | [], _, h => by cases h
  | p :: r, F, h => by
    rw [List.lookup_cons] at h
    by_cases hc : c == p.1
    · rw [hc] at h
      cases h
      rw [beq_iff_eq.mp hc]
      exact F.1
    · rw [Bool.eq_false_iff.mpr hc] at h
      exact mtAll_of F.2 h
theorem clsM_good {β : Type} {d : D} {f : Nat → M β} {G H : Hp} {L : Lam} {μ : Store} {Q : β → Store → Hp → Hp → Lam → Prop} (g : Good k X.K E G H L ((clsM d >>= f) μ) Q) : ∃ c, clsD d μ = some c ∧ Good k X.K E G H L (f c μ) Q := by
  have g' : Good k X.K E G H L (M.bind (clsM d) f μ) Q := g
  unfold M.bind clsM at g'
  cases h : clsD d μ with
  | none => rw [h] at g'; exact False.elim g'
  | some c => rw [h] at g'; exact ⟨c, rfl, g'⟩
theorem methOf_good {β : Type} {tab : MTab} {c : Nat} {f : (Nat × (List D → M D)) → M β} {G H : Hp} {L : Lam} {μ : Store} {Q : β → Store → Hp → Hp → Lam → Prop} (g : Good k X.K E G H L ((methOf tab c >>= f) μ) Q) : ∃ p, tab.lookup c = some p ∧ Good k X.K E G H L (f p μ) Q := by
  unfold methOf at g
  cases h : tab.lookup c with
  | none => rw [h] at g; exact False.elim g
  | some p => rw [h] at g; exact ⟨p, rfl, g⟩
theorem j_meth {o a : Expr} {es : List Expr} {mo : DEnv → M D} {ms : DEnv → M (List D)} {m : Str} {pos apos : Pos} {tab : MTab} {pl : Sem Bool} (F : MtAll k X m tab) (hx : Passes (L2.CX X.prog X.w) X E) (ho : JE k X E o mo) (ha : JA k X E (a :: es) ms)
    (hst : starEach (a :: es) X.env = (false, eval a X.env) :: starEach es X.env := by rfl) (hpl : (backTo pos (starEach es X.env)).any (·.1) = false := by rfl)
    (ht : eval (.Call (.Attribute o m apos) (a :: es) [] pos) X.env = (do
      let ov ← eval o X.env
      standAt apos.atName
      let (f, first) ← holding [ov] (getMethod ov m pl)
      callWith pos f first (backTo pos (starEach (a :: es) X.env)) (backToKw pos (keywordEach [] X.env))) := by rfl) :
    JE k X E (.Call (.Attribute o m apos) (a :: es) [] pos) (eMeth tab mo ms) := by
  refine ⟨fun pins s σ H Q I h => ?_⟩
  obtain ⟨e, G, L, μ, sg, w, gd⟩ := h
  have h' : dE k X.K E mo σ H fun x H1 => ∃ c n den a dx vs, x = .ref a ∧ tab.lookup c = some (n, den) ∧ SlX.Slt H1 a (k.cl c) dx vs ∧ dA k X.K E ms σ H1 fun ws H2 => spD k X.K n den (x :: ws) H2 Q E := by
    refine ⟨e, G, L, μ, sg, w, Good.mono (Good.bind gd) fun d m1 G1 H1 L1 st1 w1 q1 x r => ?_⟩
    obtain ⟨c, hc, q1⟩ := clsM_good q1
    obtain ⟨⟨n, den⟩, ht, q1⟩ := methOf_good q1
    obtain ⟨a, dx, vs, rfl, hs⟩ := slt_of r w1 hc
    refine ⟨c, n, den, a, dx, vs, rfl, ht, hs, e, G1, L1, m1, sg.mono st1.g st1.l, w1, Good.mono (Good.bind q1) fun ds m2 G2 H2 L2 st2 w2 q2 ws rw' => ?_⟩
    obtain ⟨hl, q2⟩ := good_ite q2
    exact ⟨d :: ds, G2, L2, m2, .cons (Rp.mono st2.g st2.l _ _ r) rw', hl, w2, q2⟩
  refine PySem.W.methodCall_KW (pl := pl) (thn (ho.run pins s σ H _ I h') fun u s1 ⟨x, H1, I1, rx, c, n, den, a, dx, vs, ex, htab, hsl, q⟩ => ?_) ht
  subst ex
  obtain rfl : u = Value.ref a := rx
  obtain ⟨sc, g, lvl, hm, Fn, hr⟩ := mtAll_of F htab
  refine SlX.getmethsl_ok I1 hsl sc hm ?_
  refine PySem.W.callWith_K (first := [.ref a]) (h₀ := X.base) I.ok.mod.kin hm.kp (thn (ha.run pos pins s1 σ H1 _ I1 q) fun us s2 ⟨ws, H2, I2, r, q2⟩ => ⟨I2.kIn, ?_⟩) hst hpl
  exact wpAny_call (run_fnR (us := .ref a :: us) (vs := .ref a :: ws) Fn hr hx I2 (.cons rfl r) q2)
def newI (c : Nat) : M D := fun m => .ok (.loc m.length) (m ++ [some (.ins c [])])
def allSome : List (Option D) → Option (List D)
  | [] => some []
  | some d :: r => (allSome r).map (d :: ·)
  | none :: _ => none
def frzI (d : D) : M D := fun m => match d with
  | .loc n => match m[n]? with
    | some (some (.ins c ss)) => match allSome ss with
      | some ds => .ok (.obj c ds) (m.set n none)
      | none => .bad
    | _ => .bad
  | _ => .bad
def isNon : D → M Unit
  | .non => pure ()
  | _ => M.bad
def makeD (c n : Nat) (den : List D → M D) (ds : List D) : M D := scopeM (do
  let o ← newI c
  let r ← callN n den (o :: ds)
  isNon r
  frzI o)
theorem allSome_of : ∀ {ss : List (Option D)} {ds : List D}, allSome ss = some ds → ss = ds.map some
  | [], _, h => by cases h; rfl
  | none :: _, _, h => by cases h
  | some d :: r, _, h => by
    simp only [allSome] at h
    cases e : allSome r with
    | none => rw [e] at h; cases h
    | some es =>
      rw [e] at h
      cases h
      rw [allSome_of e]
      rfl
theorem make_good {c n : Nat} {den : List D → M D} {vs : List V} {ds : List D} {G H : Hp} {L : Lam} {μ : Store} {Q : VK} (r : RpA k X.K G L vs ds) (w : Wd k X.K G H L μ) (g : Good k X.K E G H L (makeD c n den ds μ) (QV k X.K Q)) :
    ∀ x dx, H x = none → H dx = none → dx ≠ x → spD k X.K n den (V.ref x :: vs) (upd (upd H dx (.own x)) x (.ins (k.cl c) dx [])) (fun v H2 => v = .non ∧ Q (.ref x) H2) E := by
  intro x dx hx hd ne
  have g1 := scope_good w g
  have g2 : Good k X.K E G H L ((do let r ← callN n den (.loc μ.length :: ds); isNon r; frzI (.loc μ.length)) (μ ++ [some (Cell.ins c [])])) (QV k X.K Q) := g1
  have st := newInsS (G := G) (L := L) (o := .own x) (o' := .ins (k.cl c) dx []) hx hd ne
  have w1 := w.newIns (c := c) hx hd ne
  have rx : Rp k X.K G (L ++ [(x, dx)]) (.ref x) (.loc μ.length) := .loc (a := x) (b := dx) (by rw [← w.len]; simp)
  have g3 := Good.up g2 st
  unfold callN at g3
  by_cases hl : (D.loc μ.length :: ds).length = n
  · simp only [hl, if_true] at g3
    refine ⟨.loc μ.length :: ds, G, L ++ [(x, dx)], _, .cons rx (RpA.mono st.g st.l _ _ r), hl, w1, Good.mono (Good.bind g3) fun d m2 G2 H2 L2 st2 w2 q2 v rv => ?_⟩
    cases d with
    | non =>
      cases rv
      have q3 : Good k X.K E G2 H2 L2 (frzI (.loc μ.length) m2) (QV k X.K Q) := q2
      refine ⟨rfl, ?_⟩
      unfold frzI at q3
      simp only at q3
      cases hm : m2[μ.length]? with
      | none => rw [hm] at q3; exact False.elim q3
      | some o =>
        cases o with
        | none => rw [hm] at q3; exact False.elim q3
        | some cc =>
          cases cc with
          | lst _ => rw [hm] at q3; exact False.elim q3
          | dct _ _ => rw [hm] at q3; exact False.elim q3
          | ins c' ss =>
            rw [hm] at q3
            simp only at q3
            cases ha : allSome ss with
            | none => rw [ha] at q3; exact False.elim q3
            | some es =>
              rw [ha] at q3
              have e := allSome_of ha
              subst e
              obtain ⟨G3, st3, w3, r3⟩ := w2.freezeIns hm (Rp.mono st2.g st2.l _ _ rx)
              exact q3 G3 H2 L2 st3 w3 _ r3
    | _ => exact False.elim q2
  · simp only [hl, if_false] at g3
    exact False.elim g3
theorem j_make {x : Str} {p pos : Pos} {a : Expr} {es : List Expr} {ms : DEnv → M (List D)} {lvl c n : Nat} {f : Addr} {den : List D → M D} (Mc : Mk X.K (k.cl c) f) (F : FnDn k X lvl f n den) (hr : Room (lvl + 1) X.A) (hx : Passes (L2.CX X.prog X.w) X E) (hg : Gl X x) (hm : X.mg x = some (.ref (k.cl c)))
    (ha : JA k X E (a :: es) ms) (hdb : (x == ("__debug__" : Str)) = false := by decide) (he : starEach (a :: es) X.env = (false, eval a X.env) :: starEach es X.env := by rfl) (hpl : (backTo pos (starEach es X.env)).any (·.1) = false := by rfl) :
    JE k X E (.Call (.Name x p) (a :: es) [] pos) (eCallB (makeD c n den) ms) := by
  refine PE.imp (StX.pe_makeR Mc F hr hg hm hx ha hdb he hpl) fun s H Q h => ?_
  obtain ⟨e, G, L, μ, sg, w, gd⟩ := h
  exact ⟨e, G, L, μ, sg, w, Good.mono (Good.bind gd) fun ds m1 G1 H1 L1 st1 w1 q1 vs r => make_good r w1 q1⟩
end
end DL
namespace DL
open PySem L2 PyProof.Rows
section
variable {k : Kx} {X : Cx} {E : XK}
def argOk (cls : Nat) (y : D) (m : Store) : Bool := match y with
  | .int _ => true
  | y => decide (clsD y m = some cls)
def ownB (tab : MTab) (g0 : D → D → M D) (x y : D) : M D := fun m => match clsD x m with
  | some c => match tab.lookup c with
    | some p => if argOk c y m = true then callN p.1 p.2 [x, y] m else .bad
    | none => .bad
  | none => g0 x y m
structure Ob1 (k : Kx) (X : Cx) (op : Operator) (c n : Nat) (den : List D → M D) : Prop where
  sf : PySem.W.selfFirst X.K (k.cl c) = true
  ex : ∃ g lvl, PySem.W.findIn X.K (.ref (k.cl c)) (PySem.dunder op.info.2) = some (some (.ref g)) ∧ PySem.W.isFn X.K (.ref g) = true ∧ FnDn k X lvl g n den ∧ Room lvl X.A
  rc : PySem.W.findIn X.K (.ref (k.cl c)) (dunderR op.info.2) = some none
  i1 : ∃ fo, PySem.W.findIn X.K (.type "int") (PySem.dunder op.info.2) = some fo
  i2 : ∃ ro, PySem.W.findIn X.K (.type "int") (dunderR op.info.2) = some ro
  i3 : PySem.W.subIn X.K (.type "int") (.ref (k.cl c)) = some false
def ObAll (k : Kx) (X : Cx) (op : Operator) : MTab → Prop
  | [] => True
  | p :: r => Ob1 k X op p.1 p.2.1 p.2.2 ∧ ObAll k X op r
theorem obAll_of {op : Operator} {c : Nat} {q : Nat × (List D → M D)} : ∀ {tab : MTab}, ObAll k X op tab → tab.lookup c = some q → Ob1 k X op c q.1 q.2
  | [], _, h => by cases h
  | p :: r, F, h => by
    rw [List.lookup_cons] at h
    by_cases hc : c == p.1
    · rw [hc] at h
      cases h
      rw [beq_iff_eq.mp hc]
      exact F.1
    · rw [Bool.eq_false_iff.mpr hc] at h
      exact obAll_of F.2 h
def rOB (k : Kx) (K : PySem.W.Frag) (E : XK) (tab : MTab) : R2 := fun x y H Q => ∃ a c dx vs n den, x = .ref a ∧ SlX.Slt H a (k.cl c) dx vs ∧ tab.lookup c = some (n, den) ∧ ((∃ b dy ws, y = .ref b ∧ SlX.Slt H b (k.cl c) dy ws) ∨ ∃ i, y = .int i) ∧ spD k K n den [x, y] H Q E
theorem op_OB {op : Operator} {tab : MTab} (F : ObAll k X op tab) (hx : Passes (L2.CX X.prog X.w) X E) : OpR X (binaryOp op) (rOB k X.K E tab) := by
  intro pins s σ H x y v u Q I rx ry h
  obtain ⟨a, c, dx, vs, n, den, rfl, hs, ht, hy, q⟩ := h
  obtain ⟨sf, ⟨g, lvl, f1, f2, Fn, hr⟩, rc, ⟨fo, i1⟩, ⟨ro, i2⟩, i3⟩ := obAll_of F ht
  cases (show v = Value.ref a from rx)
  obtain ⟨sl, od, _, J, _⟩ := SlX.slt_inst I hs
  obtain ⟨m, hF⟩ := I.fr
  have fin : wpAny (model X.prog X.w) X.A (call (.ref g) [.ref a, u]) (PySem.W.CmpBack (EP X pins σ Q)) X.xe s := by
    refine wpAny_mono (wpAny_call (run_fnR (us := [.ref a, u]) (vs := [.ref a, y]) Fn hr hx I (.cons rfl (.cons ry .nil)) q)) (fun w s' z => ?_) fun _ _ x => x
    obtain ⟨z', H', I', rz, qz⟩ := z
    exact SlX.cmpback rz ⟨z', H', I', rz, qz⟩
  rcases hy with ⟨b, dy, ws, rfl, hb⟩ | ⟨i, rfl⟩
  · cases (show u = Value.ref b from ry)
    obtain ⟨sl', od', _, J', _⟩ := SlX.slt_inst I hb
    exact PySem.W.binop_K hF I.ok.mod.kin J J'.type sf f1 f2 fin
  · obtain ⟨t, rfl⟩ := (show ∃ t, u = Value.int i t from ry)
    exact PySem.W.ksp_binT (T := "int") hF I.ok.mod.kin J rfl sf f1 f2 rc (.inl rfl) i1 i2 i3 fin
theorem b_own {op : Operator} {tab : MTab} {g0 : D → D → M D} (F : ObAll k X op tab) (hx : Passes (L2.CX X.prog X.w) X E) (h0 : BinD k X E (binaryOp op) g0) : BinD k X E (binaryOp op) (ownB tab g0) := by
  obtain ⟨r0, h1, h2⟩ := h0
  refine ⟨_, OpR.or h1 (op_OB F hx), fun x y dx dy G H L μ Q rx ry w g => ?_⟩
  unfold ownB at g
  cases hc : clsD dx μ with
  | none =>
    simp only [hc] at g
    exact .inl (h2 x y dx dy G H L μ Q rx ry w g)
  | some c =>
    simp only [hc] at g
    cases ht : tab.lookup c with
    | none => simp only [ht] at g; exact False.elim g
    | some p =>
      simp only [ht] at g
      by_cases ho : argOk c dy μ = true
      · rw [if_pos ho] at g
        obtain ⟨hl, g⟩ := good_ite g
        obtain ⟨a, dx', vs, rfl, hs⟩ := slt_of rx w hc
        refine .inr ⟨a, c, dx', vs, p.1, p.2, rfl, hs, ht, ?_, [dx, dy], G, L, μ, .cons rx (.cons ry .nil), hl, w, g⟩
        cases dy with
        | int i => cases ry; exact .inr ⟨i, rfl⟩
        | _ =>
          obtain ⟨b, dy', ws, rfl, hb⟩ := slt_of ry w (of_decide_eq_true ho)
          exact .inl ⟨b, dy', ws, rfl, hb⟩
      · rw [if_neg ho] at g
        exact False.elim g
theorem UnR.or {f : Value → Sem Value} {r r' : V → Hp → VK → Prop} (h : UnR X f r) (h' : UnR X f r') : UnR X f (fun x H Q => r x H Q ∨ r' x H Q) := by
  intro pins s σ H x v Q I rx q
  rcases q with q | q
  · exact h pins s σ H x v Q I rx q
  · exact h' pins s σ H x v Q I rx q
/-- the kinds of the other side: built-in ones, or the law's classes cs -/
structure Oe1 (k : Kx) (X : Cx) (cs : List Nat) (c n : Nat) (den : List D → M D) : Prop where
  ex : ∃ g lvl, PySem.W.findIn X.K (.ref (k.cl c)) "__eq__" = some (some (.ref g)) ∧ PySem.W.isFn X.K (.ref g) = true ∧ FnDn k X lvl g n den ∧ Room (lvl + 1) X.A
  ne : PySem.W.findIn X.K (.ref (k.cl c)) "__ne__" = some (some (.builtin "object.__ne__"))
  mo : PySem.W.mroIn X.K (k.cl c) (.type "object") = some true
  nb : ∀ kd, (∀ c, kd ≠ .obj c) → PySem.W.notFirst X.K (k.cl c) (.type (nmK kd)) = true
  no : ∀ c' ∈ cs, PySem.W.notFirst X.K (k.cl c) (.ref (k.cl c')) = true
def OeAll (k : Kx) (X : Cx) (cs : List Nat) : MTab → Prop
  | [] => True
  | p :: r => Oe1 k X cs p.1 p.2.1 p.2.2 ∧ OeAll k X cs r
theorem oeAll_of {cs : List Nat} {c : Nat} {q : Nat × (List D → M D)} : ∀ {tab : MTab}, OeAll k X cs tab → tab.lookup c = some q → Oe1 k X cs c q.1 q.2
  | [], _, h => by cases h
  | p :: r, F, h => by
    rw [List.lookup_cons] at h
    by_cases hc : c == p.1
    · rw [hc] at h
      cases h
      rw [beq_iff_eq.mp hc]
      exact F.1
    · rw [Bool.eq_false_iff.mpr hc] at h
      exact oeAll_of F.2 h
def rOE (k : Kx) (K : PySem.W.Frag) (E : XK) (cs : List Nat) (tab : MTab) (neg : Bool) : R2 := fun x y H Q => ∃ a c dx vs n den, x = .ref a ∧ SlX.Slt H a (k.cl c) dx vs ∧ tab.lookup c = some (n, den) ∧
  ((∃ kd, (∀ c, kd ≠ .obj c) ∧ TyX K H y (.type (nmK kd))) ∨ ∃ c' b dy ws, c' ∈ cs ∧ y = .ref b ∧ SlX.Slt H b (k.cl c') dy ws) ∧ spD k K n den [x, y] H (fun z H' => if neg = true then ∃ b, z = .bl b ∧ Q (.bl (!b)) H' else Q z H') E
theorem cmp_ne_K {prog : Program} {w : World} {A : Around} {E : Value → Shared → Prop} {s : Shared} {K : PySem.W.Frag} {x C L f : Addr} {h₀ : Heap} {m : Str → Option Value} {ox : Obj} {od : Option Obj} {b tb : Value} {Q : Value → Shared → Prop} (hu : A.units + 1 < cLine) (Fx : Fr h₀ L s.heap m) (X₀ : K.In h₀) (I : PySem.W.InstAt s.heap x ox C od)
    (hb : PySem.W.Looks (model prog w) s.heap (typeOf b) tb) (hn : PySem.W.notFirst K C tb = true) (hne : PySem.W.findIn K (.ref C) "__ne__" = some (some (.builtin "object.__ne__"))) (hmo : PySem.W.mroIn K C (.type "object") = some true)
    (hs : PySem.W.findIn K (.ref C) "__eq__" = some (some (.ref f))) (hf : PySem.W.isFn K (.ref f) = true)
    (h : wpAny (model prog w) A.in1 (call (.ref f) [.ref x, b]) (fun v s' => ∃ r, v = .bool r ∧ Q (.bool (!r)) s') E s) : wpAny (model prog w) A (richCompare .NotEq (.ref x) b) Q E s := by
  have X := X₀.keeps Fx.keep
  have sub : PySem.W.Looks (model prog w) s.heap (isInstance (.ref x) (.type "object")) true := I.type.andThen (PySem.W.looks_mroIn X hmo)
  have ent : wpAny (model prog w) A.in1 (Builtin.«object.__ne__» ⟨[.ref x, b], []⟩) (fun fin s' => ∃ r, fin = .done (.ret (.bool r)) ∧ Q (.bool r) s') E s := by
    unfold Builtin.«object.__ne__»
    refine wpAny_bind (wpAny_of_eq (a := (.ref x, [b])) (by first | rfl | kernel_rfl) ?_)
    dsimp only
    refine wpAny_bind (wpAny_cRoomFor hu ?_)
    refine wpAny_bind (PySem.W.ifBound_K X I hs hf (wpAny_mono h (fun v s' hv => ?_) fun _ _ e => e))
    obtain ⟨r, rfl, hq⟩ := hv
    dsimp only
    exact wpAny_bind (wpAny_truthy_bool (wpAny_pure ⟨_, rfl, hq⟩))
  have cal : wpAny (model prog w) A (call (.builtin "object.__ne__") [.ref x, b]) (fun v s' => ∃ r, v = .bool r ∧ Q (.bool r) s') E s :=
    wpAny_call (codeAny_call_builtin F.cmp_object.ne.plain F.cmpEntry_ne (PySem.W.check_slot F.cmpKind_ne F.cmpSplit_ne sub (F.cmpArgs_ne _ _) (wpAny_mono ent (fun fin s' z => by obtain ⟨v, rfl, q⟩ := z; exact ⟨v, rfl, q⟩) fun _ _ e => e)))
  have spc : wpAny (model prog w) A (callSpecialIfBound? (.ref x) "__ne__" [b]) (fun v s' => ∃ r, v = some (.bool r) ∧ Q (.bool r) s') E s := by
    simp only [callSpecialIfBound?, bindSpecialIfBound?]
    refine wpAny_holding (wpAny_bind (wpAny_bind (wpAny_bind (I.type.here ((PySem.W.looks_findIn X hne).here ?_)))))
    refine wpAny_bind (wpAny_askSetting (wpAny_ite ?_))
    have fin : wpAny (model prog w) A (call (.builtin "object.__ne__") ([.ref x] ++ [b]) >>= fun v => pure (some v)) (fun v s' => ∃ r, v = some (.bool r) ∧ Q (.bool r) s') E s := wpAny_bind (wpAny_mono cal (fun v s' h' => wpAny_pure (by obtain ⟨r, rfl, q⟩ := h'; exact ⟨r, rfl, q⟩)) fun _ _ h' => h')
    split
    · exact wpAny_bind (wpAny_of_eq (F.cmp_object.ne.bind _) (wpAny_pure (by exact fin)))
    · exact wpAny_tryCatch (wpAny_bind (wpAny_of_eq (F.cmp_object.ne.bind _) (wpAny_pure (by exact fin))))
  have one : wpAny (model prog w) A (tryCompare (.ref x) (cmpInfo .NotEq).2.1 b) (fun r s' => ∃ v, r = some v ∧ Q v s') E s := by
    unfold tryCompare
    refine wpAny_bind (wpAny_mono spc (fun v s' hv => ?_) fun _ _ e => e)
    obtain ⟨r, rfl, hq⟩ := hv
    exact wpAny_pure ⟨_, rfl, hq⟩
  unfold richCompare
  simp only [oneThing_ref]
  refine wpAny_holding (wpAny_bind (wpAny_cRoomFor (Nat.lt_of_succ_lt hu) ?_))
  refine wpAny_bind (I.type.here (wpAny_bind (hb.here ?_)))
  split
  · rename_i q
    have e : PySem.W.subIn K tb (.ref C) = some false := by
      rcases Bool.or_eq_true_iff.mp hn with e | e
      · rw [beq_iff_eq.mp e] at q; simp at q
      · exact beq_iff_eq.mp e
    refine wpAny_bind ((PySem.W.looks_subIn X e).here ?_)
    simp only [Bool.false_eq_true, if_false]
    refine wpAny_bind (wpAny_mono one (fun r s' z => ?_) fun _ _ e => e)
    obtain ⟨v, rfl, hq⟩ := z
    exact wpAny_pure hq
  · refine wpAny_bind (wpAny_pure ?_)
    simp only [Bool.false_eq_true, if_false]
    refine wpAny_bind (wpAny_mono one (fun r s' z => ?_) fun _ _ e => e)
    obtain ⟨v, rfl, hq⟩ := z
    exact wpAny_pure hq
theorem rOE_ty {cs : List Nat} {C : Addr} {H : Hp} {pins : List (Addr × Obj)} {σ : L2.St} {s : Shared} {y : V} {u : Value} (I : L2.Inv X pins σ H s) (ry : L2.RelV y u) (nb : ∀ kd, (∀ c, kd ≠ .obj c) → PySem.W.notFirst X.K C (.type (nmK kd)) = true)
    (no : ∀ c' ∈ cs, PySem.W.notFirst X.K C (.ref (k.cl c')) = true) (h : (∃ kd, (∀ c, kd ≠ .obj c) ∧ TyX X.K H y (.type (nmK kd))) ∨ ∃ c' b dy ws, c' ∈ cs ∧ y = .ref b ∧ SlX.Slt H b (k.cl c') dy ws) :
    ∃ tb, PySem.W.Looks (model X.prog X.w) s.heap (typeOf u) tb ∧ PySem.W.notFirst X.K C tb = true := by
  rcases h with ⟨kd, n, t⟩ | ⟨c', b, dy, ws, hc, rfl, hs⟩
  · obtain ⟨P, kx, hp, _⟩ := kit_of I ry t
    exact ⟨_, kx.ty _ _ I.kIn hp, nb kd n⟩
  · cases (show u = Value.ref b from ry)
    obtain ⟨sl, od, _, J, _⟩ := SlX.slt_inst I hs
    exact ⟨_, J.type, no c' hc⟩
theorem op_OE {cs : List Nat} {tab : MTab} (F : OeAll k X cs tab) (hx : Passes (L2.CX X.prog X.w) X E) (hu : X.A.units + 64 < cLine) : OpR X (compareOp .Eq) (rOE k X.K E cs tab false) := by
  intro pins s σ H x y v u Q I rx ry h
  obtain ⟨a, c, dx, vs, n, den, rfl, hs, ht, hy, q⟩ := h
  obtain ⟨⟨g, lvl, f1, f2, Fn, hr⟩, ne, mo, nb, no⟩ := oeAll_of F ht
  cases (show v = Value.ref a from rx)
  obtain ⟨tb, hb, hn⟩ := rOE_ty I ry nb no hy
  obtain ⟨sl, od, _, J, _⟩ := SlX.slt_inst I hs
  obtain ⟨m, hF⟩ := I.fr
  refine PySem.W.cmp_K (op := .Eq) (Nat.lt_of_le_of_lt (Nat.le_add_right _ _) hu) hF I.ok.mod.kin J hb hn f1 f2 ?_
  refine wpAny_mono (wpAny_call (run_fnR (us := [.ref a, u]) (vs := [.ref a, y]) Fn (Room.mono hr (Nat.le_succ _)) hx I (.cons rfl (.cons ry .nil)) q)) (fun w s' z => ?_) fun _ _ x => x
  obtain ⟨z', H', I', rz, qz⟩ := z
  exact SlX.cmpback rz ⟨z', H', I', rz, qz⟩
theorem op_ONE {cs : List Nat} {tab : MTab} (F : OeAll k X cs tab) (hx : Passes (L2.CX X.prog X.w) X E) (hu : X.A.units + 64 < cLine) : OpR X (compareOp .NotEq) (rOE k X.K E cs tab true) := by
  intro pins s σ H x y v u Q I rx ry h
  obtain ⟨a, c, dx, vs, n, den, rfl, hs, ht, hy, q⟩ := h
  obtain ⟨⟨g, lvl, f1, f2, Fn, hr⟩, ne, mo, nb, no⟩ := oeAll_of F ht
  cases (show v = Value.ref a from rx)
  obtain ⟨tb, hb, hn⟩ := rOE_ty I ry nb no hy
  obtain ⟨sl, od, _, J, _⟩ := SlX.slt_inst I hs
  obtain ⟨m, hF⟩ := I.fr
  refine cmp_ne_K (Nat.lt_of_le_of_lt (Nat.add_le_add_left (by decide) _) hu) hF I.ok.mod.kin J hb hn ne mo f1 f2 ?_
  refine wpAny_mono (wpAny_call (SlX.run_at (us := [.ref a, u]) (ws := [.ref a, y]) Fn hr.in1 I.env0.in1 hx I (.cons rfl (.cons ry .nil)) q)) (fun w s' z => ?_) fun _ _ x => x
  obtain ⟨z', H', I', rz, b, rfl, qz⟩ := z
  cases (show w = Value.bool b from rz)
  exact ⟨b, rfl, .bl (!b), H', I', rfl, qz⟩
def flipD : Bool → D → M D
  | false, d => pure d
  | true, .bl b => pure (.bl (!b))
  | true, _ => fun _ => .bad
def ownE (cs : List Nat) (tab : MTab) (neg : Bool) (g0 : D → D → M D) (x y : D) : M D := fun m => match clsD x m with
  | some c => match tab.lookup c with
    | some p => match kindOf cs y m with
      | some _ => (callN p.1 p.2 [x, y] >>= flipD neg) m
      | none => .bad
    | none => .bad
  | none => g0 x y m
theorem ownE_op {cs : List Nat} {tab : MTab} {neg : Bool} {g0 : D → D → M D} {op : CmpOp} {r0 : R2} (h1 : OpR X (compareOp op) (rOE k X.K E cs tab neg)) (o0 : OpR X (compareOp op) r0) (h2 : OpD k X.K E r0 g0) : BinD k X E (compareOp op) (ownE cs tab neg g0) := by
  refine ⟨_, OpR.or o0 h1, fun x y dx dy G H L μ Q rx ry w g => ?_⟩
  unfold ownE at g
  cases hc : clsD dx μ with
  | none =>
    simp only [hc] at g
    exact .inl (h2 x y dx dy G H L μ Q rx ry w g)
  | some c =>
    simp only [hc] at g
    cases ht : tab.lookup c with
    | none => simp only [ht] at g; exact False.elim g
    | some p =>
      simp only [ht] at g
      cases hk : kindOf cs dy μ with
      | none => simp only [hk] at g; exact False.elim g
      | some kd =>
        simp only [hk] at g
        obtain ⟨a, dx', vs, rfl, hs⟩ := slt_of rx w hc
        have g1 := Good.bind g
        obtain ⟨hl, g2⟩ := good_ite g1
        refine .inr ⟨a, c, dx', vs, p.1, p.2, rfl, hs, ht, ?_, [dx, dy], G, L, μ, .cons rx (.cons ry .nil), hl, w, ?_⟩
        · by_cases no : ∀ c, kd ≠ .obj c
          · exact .inl ⟨kd, no, tyx_of ry w hk no⟩
          · have no' : ∃ c, kd = .obj c := by
              cases kd with
              | obj c => exact ⟨c, rfl⟩
              | _ => exact absurd (fun c z => nomatch z) no
            obtain ⟨cc, rfl⟩ := no'
            cases dy with
            | obj c' ds =>
              simp only [kindOf] at hk
              by_cases hcs : c' ∈ cs
              · rw [if_pos hcs] at hk
                cases hk
                cases ry with
                | @obj _ b dy' ws _ hs' ha => exact .inr ⟨cc, b, dy', _, hcs, rfl, slt_mono w.ext hs'⟩
              · rw [if_neg hcs] at hk
                cases hk
            | loc n =>
              simp only [kindOf] at hk
              cases hm : μ[n]? with
              | none => rw [hm] at hk; cases hk
              | some o =>
                cases o with
                | none => rw [hm] at hk; cases hk
                | some c' => cases c' <;> (rw [hm] at hk; cases hk)
            | _ => cases hk
        · refine Good.mono g2 fun d1 m1 G1 H1 L1 st1 w1 q1 z rz => ?_
          cases neg with
          | false => exact Good.okE q1 w1 z rz
          | true =>
            cases d1 with
            | bl b => cases rz; exact ⟨b, rfl, Good.okE q1 w1 _ (.bl _)⟩
            | _ => exact False.elim q1
theorem b_eqO {cs : List Nat} {tab : MTab} (F : OeAll k X cs tab) (hx : Passes (L2.CX X.prog X.w) X E) (hu : X.A.units + 64 < cLine) : BinD k X E (compareOp .Eq) (ownE cs tab false eqD) := by
  obtain ⟨r, h1, h2⟩ := b_eq (k := k) (E := E) hu
  exact ownE_op (op_OE F hx hu) h1 h2
theorem b_neO {cs : List Nat} {tab : MTab} (F : OeAll k X cs tab) (hx : Passes (L2.CX X.prog X.w) X E) (hu : X.A.units + 64 < cLine) : BinD k X E (compareOp .NotEq) (ownE cs tab true neD) := by
  obtain ⟨r, h1, h2⟩ := b_ne (k := k) (E := E) hu
  exact ownE_op (op_ONE F hx hu) h1 h2
end
end DL
namespace DL
open PySem L2 PyProof.Rows
section
variable {k : Kx} {X : Cx} {E : XK}
def sParA (i j : Nat) (as : DEnv → M (List D)) : DEnv → M Out := fun e => do
  let ds ← as e
  match ds with
  | [x, y] => pure (.nx ((e.set i (some x)).set j (some y)))
  | _ => M.bad
theorem js_par (i j : Nat) {x y : Str} {a b : Expr} {ms : DEnv → M (List D)} {px py pt pos : Pos} {kt k2 pt2} (hc : X.calm = true) (hN : X.N.Nodup) (hi : X.N[i]? = some x) (hj : X.N[j]? = some y) (hij : i ≠ j)
    (hx : X.env.scope.names.lookup x = some .local) (hy : X.env.scope.names.lookup y = some .local) (ha : JA k X E [a, b] ms)
    (hw : swappedStores [.Tuple [.Name x px, .Name y py] kt pt] (.Tuple [a, b] k2 pt2) X.env = pure (some [x, y]))
    (hs : swapsWithSole [.Tuple [.Name x px, .Name y py] kt pt] (.Tuple [a, b] k2 pt2) pos.line X.env = pure false := by rfl) :
    JS k X E (.Assign [.Tuple [.Name x px, .Name y py] kt pt] (.Tuple [a, b] k2 pt2) pos) (sParA i j ms) := by
  refine PS.imp (ps_par hc hN hi hj hij hx hy ha hw hs) fun Ds s H h => ?_
  obtain ⟨e, G, L, μ, sg, w, gd⟩ := h
  refine ⟨e, G, L, μ, sg, w, Good.mono (Good.bind gd) fun ds m1 G1 H1 L1 st1 w1 q1 vs r => ?_⟩
  match ds, r, q1 with
  | [dx, dy], .cons r1 (.cons r2 .nil), q1 => exact ⟨_, _, rfl, Good.ret q1 w1 _ (((sg.mono st1.g st1.l).set i r1).set j r2)⟩
  | [], _, q1 => exact False.elim q1
  | [_], _, q1 => exact False.elim q1
  | _ :: _ :: _ :: _, _, q1 => exact False.elim q1
def sBad : DEnv → M Out := fun _ => M.bad
end
end DL
namespace DL
open PySem L2 PyProof.Rows
def KI : Bool → Heap → Addr → Addr → Nat → Prop
  | true, h, a, l, i => h.IsListIter a l i
  | false, h, a, l, i => h.IsTupleIter a l i
def KQ : Bool → Heap → Addr → Array Value → Prop
  | true, h, a, xs => h.IsList a xs
  | false, h, a, xs => h.IsTuple a xs
def kiN : Bool → String
  | true => "list_iterator"
  | false => "tuple_iterator"
theorem KI.ex {b : Bool} {h : Heap} {a l : Addr} {i : Nat} (x : KI b h a l i) : ∃ o, h.get? a = some o ∧ o.cls = .type (kiN b) ∧ o.data = .fields #[.ref l, .int i 0] := by cases b <;> exact x
theorem KI.of {b : Bool} {h : Heap} {a l : Addr} {i : Nat} (x : ∃ o, h.get? a = some o ∧ o.cls = .type (kiN b) ∧ o.data = .fields #[.ref l, .int i 0]) : KI b h a l i := by cases b <;> exact x
theorem KI.at {b : Bool} {h h' : Heap} {a l : Addr} {i : Nat} (x : KI b h a l i) (e : ∀ o, h.get? a = some o → h'.get? a = some o) : KI b h' a l i := let ⟨o, ho, r⟩ := x.ex; .of ⟨o, e _ ho, r⟩
theorem KI.but {b : Bool} {h h' : Heap} {a c l : Addr} {i : Nat} (x : KI b h a l i) (hs : Heap.ExtBut c h h') (n : a ≠ c) : KI b h' a l i := x.at fun o e => hs a o n e
theorem KI.lt {b : Bool} {h : Heap} {a l : Addr} {i : Nat} (x : KI b h a l i) : a < h.objs.size := let ⟨_, e, _⟩ := x.ex; Heap.lt_size e
theorem KQ.but {b : Bool} {h h' : Heap} {a c : Addr} {xs : Array Value} (x : KQ b h a xs) (hs : Heap.ExtBut c h h') (n : a ≠ c) : KQ b h' a xs := by
  cases b
  · exact Heap.IsTuple.extBut x hs n
  · exact Heap.IsList.extBut x hs n
theorem KQ.push {b : Bool} {h : Heap} {a : Addr} {xs : Array Value} (x : KQ b h a xs) (o : Obj) : KQ b (h.push o) a xs := by
  cases b
  · exact Heap.IsTuple.push x o
  · exact Heap.IsList.push x o
section
variable {prog : Program} {w : World} {A : Around} {E : Value → Shared → Prop} {s : Shared}
theorem nextK_item {b : Bool} {it l : Addr} {i : Nat} {items : Array Value} {x : Value} {Q : Value → Shared → Prop} (hit : KI b s.heap it l i) (hl : KQ b s.heap l items) (hx : items[i]? = some x)
    (hQ : ∀ h', KI b h' it l (i + 1) → Heap.SameBut it s.heap h' → Q x { s with heap := h' }) : wpAny (model prog w) A (Builtin.SmallTypes.nextOf (.ref it)) Q E s := by
  cases b
  · exact RZ.nextOf_tuple_item hit hl hx hQ
  · exact wpAny_nextOf_list_item hit hl hx hQ
theorem nextK_end {b : Bool} {it l : Addr} {i : Nat} {items : Array Value} {Q : Value → Shared → Prop} (hh : A.handled = none) (hit : KI b s.heap it l i) (hl : KQ b s.heap l items) (hx : items[i]? = none)
    (hE : ∀ h' e, Heap.ExtBut it s.heap h' → (∃ o, h'.get? e = some o ∧ o.cls = .type "StopIteration") → E (.ref e) { s with heap := h' }) : wpAny (model prog w) A (Builtin.SmallTypes.nextOf (.ref it)) Q E s := by
  cases b
  · exact RZ.nextOf_tuple_end hh hit hl hx hE
  · exact wpAny_nextOf_list_end hh hit hl hx hE
theorem iterK {b : Bool} {l : Addr} {items : Array Value} {Q : Value → Shared → Prop} (hl : KQ b s.heap l items) (hQ : Q (.ref s.heap.objs.size) { s with heap := s.heap.push { cls := .type (kiN b), data := .fields #[.ref l, .int 0 0] } }) :
    wpAny (model prog w) A (pyIter (.ref l)) Q E s := by
  cases b
  · exact wpAny_pyIter_tuple hl hQ
  · exact wpAny_pyIter_list hl hQ
variable {b1 b2 : Bool}
theorem zipK_item {z TI TO i1 i2 l1 l2 : Addr} {k1 k2 : Nat} {xs ys : Array Value} {x y a b : Value} {Q : Value → Shared → Prop} (D : ZipApart z TI TO i1 i2 l1 l2)
    (hz : IsZip s.heap z TI TO .none) (hTI : IsPair s.heap TI (.ref i1) (.ref i2)) (hTO : IsPair s.heap TO a b)
    (h1 : KI b1 s.heap i1 l1 k1) (h2 : KI b2 s.heap i2 l2 k2) (hl1 : KQ b1 s.heap l1 xs) (hl2 : KQ b2 s.heap l2 ys) (hx : xs[k1]? = some x) (hy : ys[k2]? = some y)
    (hQ : ∀ h', IsZip h' z TI TO (rawInt s.heap.objs.size) → IsPair h' TO x y → KI b1 h' i1 l1 (k1 + 1) → KI b2 h' i2 l2 (k2 + 1) → IsPair h' s.heap.objs.size x y → h'.objs.size = s.heap.objs.size + 1 →
      (∀ c o, c ≠ z → c ≠ TO → c ≠ i1 → c ≠ i2 → s.heap.get? c = some o → h'.get? c = some o) → Q (.ref s.heap.objs.size) { s with heap := h' }) :
    wpAny (model prog w) A (Builtin.«zip.__next__» ⟨[.ref z], []⟩) (fun fin s' => ∃ v, fin = .done (.ret v) ∧ Q v s') E s := by
  show wpAny _ _ (field (.ref z) 2 >>= _) _ _ _
  refine wpAny_bind (wpAny_field hz rfl (x := .bool false) rfl ?_)
  show wpAny _ _ (field (.ref z) 3 >>= _) _ _ _
  refine wpAny_bind (wpAny_field hz rfl (x := .ref TI) rfl (wpAny_bind (wpAny_seqItems hTI rfl ?_)))
  show wpAny _ _ (Builtin.SmallTypes.ownedTupleIsFree (.ref z) >>= _) _ _ _
  refine wpAny_bind ?_
  unfold Builtin.SmallTypes.ownedTupleIsFree
  refine wpAny_bind (wpAny_field hz rfl (x := .none) rfl (wpAny_pure ?_))
  simp only [if_true]
  refine wpAny_bind (wpAny_rule (wpAny_bind (wpAny_field hz rfl (x := .ref TO) rfl (wpAny_bind (wpAny_setField_rec hz (by simp) fun g1 z1 e1 => ?_)))))
  replace z1 : IsZip g1 z TI TO .ellipsis := z1
  refine wpAny_bind ?_
  simp only [List.zipIdx_cons, List.zipIdx_nil, List.forIn_cons, List.forIn_nil]
  refine wpAny_bind (wpAny_bind (wpAny_onRaise ?_))
  show wpAny _ _ (Builtin.SmallTypes.nextOf (.ref i1) >>= _) _ _ _
  refine wpAny_bind (nextK_item (h1.but e1.extBut D.i1z) (hl1.but e1.extBut D.l1z) hx fun g2 n2 e2 => wpAny_pure ?_)
  have t2 : IsPair g2 TO a b := e2.extBut _ _ D.TOi1 (e1.extBut _ _ D.TOz hTO)
  refine wpAny_bind (wpAny_seqItems t2 rfl (wpAny_bind (wpAny_updateSeq_pair t2 fun g3 t3 e3 => ?_)))
  replace t3 : IsPair g3 TO x b := t3
  refine wpAny_bind (wpAny_letGo (wpAny_pure (wpAny_bind (wpAny_bind (wpAny_onRaise ?_)))))
  show wpAny _ _ (Builtin.SmallTypes.nextOf (.ref i2) >>= _) _ _ _
  refine wpAny_bind (nextK_item (((h2.but e1.extBut D.i2z).but e2.extBut D.i12.symm).but e3.extBut D.TOi2.symm) (((hl2.but e1.extBut D.l2z).but e2.extBut D.l2i1).but e3.extBut D.l2TO) hy fun g4 n4 e4 => wpAny_pure ?_)
  have t4 : IsPair g4 TO x b := e4.extBut _ _ D.TOi2 t3
  refine wpAny_bind (wpAny_seqItems t4 rfl (wpAny_bind (wpAny_updateSeq_pair t4 fun g5 t5 e5 => ?_)))
  replace t5 : IsPair g5 TO x y := t5
  refine wpAny_bind (wpAny_letGo (wpAny_pure (wpAny_pure (wpAny_bind (wpAny_seqItems t5 rfl (wpAny_bind (wpAny_newTuple ?_)))))))
  have sz : g5.objs.size = s.heap.objs.size := by rw [e5.1, e4.1, e3.1, e2.1, e1.1]
  have z5 : IsZip g5 z TI TO .ellipsis := e5.extBut _ _ D.TOz.symm (e4.extBut _ _ D.i2z.symm (e3.extBut _ _ D.TOz.symm (e2.extBut _ _ D.i1z.symm z1)))
  have k5 : ∀ c o, c ≠ z → c ≠ TO → c ≠ i1 → c ≠ i2 → s.heap.get? c = some o → g5.get? c = some o := fun c o c1 c2 c3 c4 e => e5.extBut _ _ c2 (e4.extBut _ _ c4 (e3.extBut _ _ c2 (e2.extBut _ _ c3 (e1.extBut _ _ c1 e))))
  have m1 : KI b1 g5 i1 l1 (k1 + 1) := ((n2.but e3.extBut D.TOi1.symm).but e4.extBut D.i12).but e5.extBut D.TOi1.symm
  have m2 : KI b2 g5 i2 l2 (k2 + 1) := n4.but e5.extBut D.TOi2.symm
  have zl : z < g5.objs.size := Heap.lt_size z5
  show wpAny _ _ (Builtin.SmallTypes.ownedTupleHandOut (.ref z) (.ref g5.objs.size) >>= _) _ _ _
  refine wpAny_bind ?_
  unfold Builtin.SmallTypes.ownedTupleHandOut
  have z6 : IsZip (g5.push { cls := .type "tuple", data := .seq #[x, y] }) z TI TO .ellipsis := Heap.get?_push_of_some _ z5
  refine wpAny_bind (wpAny_setField_rec z6 (by simp) fun g7 z7 e7 => ?_)
  replace z7 : IsZip g7 z TI TO (rawInt g5.objs.size) := z7
  refine wpAny_setField_rec z7 (by simp) fun g8 z8 e8 => ?_
  replace z8 : IsZip g8 z TI TO (rawInt g5.objs.size) := z8
  have up : ∀ c o, c ≠ z → g5.get? c = some o → g8.get? c = some o := fun c o c1 e => e8.extBut _ _ c1 (e7.extBut _ _ c1 (Heap.get?_push_of_some _ e))
  have t8 : IsPair g8 g5.objs.size x y := e8.extBut _ _ (Nat.ne_of_gt zl) (e7.extBut _ _ (Nat.ne_of_gt zl) (Heap.get?_push_size _ rfl))
  have s8 : g8.objs.size = g5.objs.size + 1 := by rw [e8.1, e7.1, Heap.size_push]
  rw [sz] at z8 t8 s8
  refine wpAny_pure ⟨_, rfl, ?_⟩
  show Q (.ref g5.objs.size) _
  rw [sz]
  exact hQ g8 z8 (up _ _ D.TOz t5) (m1.at fun o e => up _ o D.i1z e) (m2.at fun o e => up _ o D.i2z e) t8 s8 fun c o c1 c2 c3 c4 e => up c o c1 (k5 c o c1 c2 c3 c4 e)
theorem zipK_end {z TI TO i1 i2 l1 l2 : Addr} {k1 k2 : Nat} {xs ys : Array Value} {a b : Value} {Q : Fin → Shared → Prop} (hh : A.handled = none) (D : ZipApart z TI TO i1 i2 l1 l2)
    (hz : IsZip s.heap z TI TO .none) (hTI : IsPair s.heap TI (.ref i1) (.ref i2)) (hTO : IsPair s.heap TO a b)
    (h1 : KI b1 s.heap i1 l1 k1) (h2 : KI b2 s.heap i2 l2 k2) (hl1 : KQ b1 s.heap l1 xs) (hl2 : KQ b2 s.heap l2 ys) (hend : xs[k1]? = none ∨ ys[k2]? = none)
    (hE : ∀ h' e, (∀ c o, c ≠ z → c ≠ TO → c ≠ i1 → c ≠ i2 → s.heap.get? c = some o → h'.get? c = some o) → (∃ o, h'.get? e = some o ∧ o.cls = .type "StopIteration") → E (.ref e) { s with heap := h' }) :
    wpAny (model prog w) A (Builtin.«zip.__next__» ⟨[.ref z], []⟩) Q E s := by
  show wpAny _ _ (field (.ref z) 2 >>= _) _ _ _
  refine wpAny_bind (wpAny_field hz rfl (x := .bool false) rfl ?_)
  show wpAny _ _ (field (.ref z) 3 >>= _) _ _ _
  refine wpAny_bind (wpAny_field hz rfl (x := .ref TI) rfl (wpAny_bind (wpAny_seqItems hTI rfl ?_)))
  show wpAny _ _ (Builtin.SmallTypes.ownedTupleIsFree (.ref z) >>= _) _ _ _
  refine wpAny_bind ?_
  unfold Builtin.SmallTypes.ownedTupleIsFree
  refine wpAny_bind (wpAny_field hz rfl (x := .none) rfl (wpAny_pure ?_))
  simp only [if_true]
  refine wpAny_bind (wpAny_rule (wpAny_bind (wpAny_field hz rfl (x := .ref TO) rfl (wpAny_bind (wpAny_setField_rec hz (by simp) fun g1 z1 e1 => ?_)))))
  replace z1 : IsZip g1 z TI TO .ellipsis := z1
  refine wpAny_bind ?_
  simp only [List.zipIdx_cons, List.zipIdx_nil, List.forIn_cons, List.forIn_nil]
  refine wpAny_bind (wpAny_bind (wpAny_onRaise ?_))
  show wpAny _ _ (Builtin.SmallTypes.nextOf (.ref i1) >>= _) _ _ _
  have ne : ∀ {h : Heap} {e : Addr} {o : Obj}, IsZip h z TI TO .ellipsis → h.get? e = some o → o.cls = .type "StopIteration" → e ≠ z := fun {h e o} hz' ho hc q => by
    subst q
    rw [hz'] at ho
    cases ho
    simp at hc
  cases hx : xs[k1]? with
  | none =>
    refine wpAny_bind (nextK_end hh (h1.but e1.extBut D.i1z) (hl1.but e1.extBut D.l1z) hx fun g2 e e2 he => ?_)
    obtain ⟨oe, hoe, hce⟩ := he
    have z2 : IsZip g2 z TI TO .ellipsis := e2 _ _ D.i1z.symm z1
    exact wpAny_setField_rec z2 (by simp) fun g3 _ e3 => hE g3 e (fun c o c1 _ c3 _ x => e3.extBut _ _ c1 (e2 _ _ c3 (e1.extBut _ _ c1 x))) ⟨oe, e3.extBut _ _ (ne z2 hoe hce) hoe, hce⟩
  | some x =>
    have hy : ys[k2]? = none := by
      rcases hend with h | h
      · rw [hx] at h; cases h
      · exact h
    refine wpAny_bind (nextK_item (h1.but e1.extBut D.i1z) (hl1.but e1.extBut D.l1z) hx fun g2 n2 e2 => wpAny_pure ?_)
    have t2 : IsPair g2 TO a b := e2.extBut _ _ D.TOi1 (e1.extBut _ _ D.TOz hTO)
    refine wpAny_bind (wpAny_seqItems t2 rfl (wpAny_bind (wpAny_updateSeq_pair t2 fun g3 t3 e3 => ?_)))
    refine wpAny_bind (wpAny_letGo (wpAny_pure (wpAny_bind (wpAny_bind (wpAny_onRaise ?_)))))
    show wpAny _ _ (Builtin.SmallTypes.nextOf (.ref i2) >>= _) _ _ _
    refine wpAny_bind (nextK_end hh (((h2.but e1.extBut D.i2z).but e2.extBut D.i12.symm).but e3.extBut D.TOi2.symm) (((hl2.but e1.extBut D.l2z).but e2.extBut D.l2i1).but e3.extBut D.l2TO) hy fun g4 e e4 he => ?_)
    obtain ⟨oe, hoe, hce⟩ := he
    have z4 : IsZip g4 z TI TO .ellipsis := e4 _ _ D.i2z.symm (e3.extBut _ _ D.TOz.symm (e2.extBut _ _ D.i1z.symm z1))
    exact wpAny_setField_rec z4 (by simp) fun g5 _ e5 => hE g5 e (fun c o c1 c2 c3 c4 x => e5.extBut _ _ c1 (e4 _ _ c4 (e3.extBut _ _ c2 (e2.extBut _ _ c3 (e1.extBut _ _ c1 x))))) ⟨oe, e5.extBut _ _ (ne z4 hoe hce) hoe, hce⟩
theorem pyNextK_item {z TI TO i1 i2 l1 l2 : Addr} {k1 k2 : Nat} {xs ys : Array Value} {x y a b : Value} {Q : Option Value → Shared → Prop} (D : ZipApart z TI TO i1 i2 l1 l2)
    (hz : IsZip s.heap z TI TO .none) (hTI : IsPair s.heap TI (.ref i1) (.ref i2)) (hTO : IsPair s.heap TO a b)
    (h1 : KI b1 s.heap i1 l1 k1) (h2 : KI b2 s.heap i2 l2 k2) (hl1 : KQ b1 s.heap l1 xs) (hl2 : KQ b2 s.heap l2 ys) (hx : xs[k1]? = some x) (hy : ys[k2]? = some y)
    (hQ : ∀ h', IsZip h' z TI TO (rawInt s.heap.objs.size) → IsPair h' TO x y → KI b1 h' i1 l1 (k1 + 1) → KI b2 h' i2 l2 (k2 + 1) → IsPair h' s.heap.objs.size x y → h'.objs.size = s.heap.objs.size + 1 →
      (∀ c o, c ≠ z → c ≠ TO → c ≠ i1 → c ≠ i2 → s.heap.get? c = some o → h'.get? c = some o) → Q (some (.ref s.heap.objs.size)) { s with heap := h' }) : wpAny (model prog w) A (pyNext (.ref z)) Q E s := by
  have hT : s.TypeIs (.ref z) "zip" := ⟨_, hz, rfl⟩
  unfold pyNext
  exact wpAny_bind (wpAny_attempt (wpAny_callSpecial?_slot (name := Str.ofString "__next__") hT F.slot_zip_next (wpAny_call_entry F.slot_zip_next hT F.entry_zip_next
    (zipK_item D hz hTI hTO h1 h2 hl1 hl2 hx hy fun h' a1 a2 a3 a4 a5 a6 a7 => wpAny_pure (hQ h' a1 a2 a3 a4 a5 a6 a7)) (F.args_zip_next_1 _))))
theorem pyNextK_end {z TI TO i1 i2 l1 l2 : Addr} {k1 k2 : Nat} {xs ys : Array Value} {a b : Value} {Q : Option Value → Shared → Prop} (hh : A.handled = none) (D : ZipApart z TI TO i1 i2 l1 l2)
    (hz : IsZip s.heap z TI TO .none) (hTI : IsPair s.heap TI (.ref i1) (.ref i2)) (hTO : IsPair s.heap TO a b)
    (h1 : KI b1 s.heap i1 l1 k1) (h2 : KI b2 s.heap i2 l2 k2) (hl1 : KQ b1 s.heap l1 xs) (hl2 : KQ b2 s.heap l2 ys) (hend : xs[k1]? = none ∨ ys[k2]? = none)
    (hQ : ∀ h', (∀ c o, c ≠ z → c ≠ TO → c ≠ i1 → c ≠ i2 → s.heap.get? c = some o → h'.get? c = some o) → Q none { s with heap := h' }) : wpAny (model prog w) A (pyNext (.ref z)) Q E s := by
  have hT : s.TypeIs (.ref z) "zip" := ⟨_, hz, rfl⟩
  unfold pyNext
  refine wpAny_bind (wpAny_attempt (wpAny_callSpecial?_slot (name := Str.ofString "__next__") hT F.slot_zip_next (wpAny_call_entry F.slot_zip_next hT F.entry_zip_next
    (zipK_end hh D hz hTI hTO h1 h2 hl1 hl2 hend fun h' e hk he => ?_) (F.args_zip_next_1 _))))
  obtain ⟨o, ho, hc⟩ := he
  exact wpAny_bind (wpAny_isInstance (T := "StopIteration") (b := true) ⟨o, ho, hc⟩ isSubtype_stop (wpAny_pure (hQ _ hk)))
end
abbrev zkH1 (b1 : Bool) (h : Heap) (l1 : Addr) : Heap := h.push { cls := .type (kiN b1), data := .fields #[.ref l1, .int 0 0] }
abbrev zkH2 (b1 b2 : Bool) (h : Heap) (l1 l2 : Addr) : Heap := (zkH1 b1 h l1).push { cls := .type (kiN b2), data := .fields #[.ref l2, .int 0 0] }
abbrev zkH3 (b1 b2 : Bool) (h : Heap) (l1 l2 : Addr) : Heap := (zkH2 b1 b2 h l1 l2).push { cls := .type "tuple", data := .seq #[.ref h.objs.size, .ref (zkH1 b1 h l1).objs.size] }
abbrev zkH4 (b1 b2 : Bool) (h : Heap) (l1 l2 : Addr) : Heap := (zkH3 b1 b2 h l1 l2).push { cls := .type "tuple", data := .seq #[.none, .none] }
abbrev zkH5 (b1 b2 : Bool) (h : Heap) (l1 l2 : Addr) : Heap := (zkH4 b1 b2 h l1 l2).push { cls := .type "zip", data := .fields #[.none, .bool false, .bool false, .ref (zkH2 b1 b2 h l1 l2).objs.size, .ref (zkH3 b1 b2 h l1 l2).objs.size] }
theorem meets_zipK (b1 b2 : Bool) (l1 l2 : Addr) (xs ys : Array Value) :
    Meets (Builtin.«zip.__new__» ⟨[.type "zip", .ref l1, .ref l2], []⟩) (fun _ R s => KQ b1 s.heap l1 xs ∧ KQ b2 s.heap l2 ys ∧ R (.ok (.ret (.ref (zkH4 b1 b2 s.heap l1 l2).objs.size))) { s with heap := zkH5 b1 b2 s.heap l1 l2 }) :=
  .of_wp fun prog w A R s h => by
    obtain ⟨hp, g, d, tk, os⟩ := s
    obtain ⟨hl1, hl2, h⟩ := h
    have hsub := sub_zip
    have hL1 : KQ b1 (Shared.heap ⟨hp, g, d, tk, os⟩) l1 xs := hl1
    have hL2 : KQ b2 (Shared.heap ⟨hp.push { cls := .type (kiN b1), data := .fields #[.ref l1, .int 0 0] }, g, d, tk, os⟩) l2 ys := KQ.push hl2 _
    wp_walk using iterK hL1, iterK hL2
    exact ⟨_, rfl, h⟩
theorem call_zipK {prog : Program} {w : World} {A : Around} {E : Value → Shared → Prop} {s : Shared} {b1 b2 : Bool} {l1 l2 : Addr} {xs ys : Array Value} {Q : Value → Shared → Prop} (hl1 : KQ b1 s.heap l1 xs) (hl2 : KQ b2 s.heap l2 ys)
    (h : ∀ h', IsZip h' (s.heap.objs.size + 4) (s.heap.objs.size + 2) (s.heap.objs.size + 3) .none → IsPair h' (s.heap.objs.size + 2) (.ref s.heap.objs.size) (.ref (s.heap.objs.size + 1)) →
      IsPair h' (s.heap.objs.size + 3) .none .none → KI b1 h' s.heap.objs.size l1 0 → KI b2 h' (s.heap.objs.size + 1) l2 0 → h'.objs.size = s.heap.objs.size + 5 →
      (∀ c o, s.heap.get? c = some o → h'.get? c = some o) → Q (.ref (s.heap.objs.size + 4)) { s with heap := h' }) : wpAny (model prog w) A (call (.type "zip") [.ref l1, .ref l2]) Q E s := by
  refine callType_new F.called_zip (by decide) (F.typeCall_zip_2 _ _) (F.newCall_zip_2 _ _) (fun obj => F.args_object_init_3 obj _ _) F.entry_zip_new (meets_zipK b1 b2 l1 l2 xs ys) ⟨hl1, hl2, ?_⟩
  have y1 : (zkH1 b1 s.heap l1).objs.size = s.heap.objs.size + 1 := Heap.size_push ..
  have y2 : (zkH2 b1 b2 s.heap l1 l2).objs.size = s.heap.objs.size + 2 := by rw [Heap.size_push, y1]
  have y3 : (zkH3 b1 b2 s.heap l1 l2).objs.size = s.heap.objs.size + 3 := by rw [Heap.size_push, y2]
  have y4 : (zkH4 b1 b2 s.heap l1 l2).objs.size = s.heap.objs.size + 4 := by rw [Heap.size_push, y3]
  have y5 : (zkH5 b1 b2 s.heap l1 l2).objs.size = s.heap.objs.size + 5 := by rw [Heap.size_push, y4]
  have p1 : ∀ {h : Heap} {o o' : Obj} {a : Addr}, h.get? a = some o → (h.push o').get? a = some o := fun e => Heap.get?_push_of_some _ e
  have g5 : (zkH5 b1 b2 s.heap l1 l2).get? (zkH4 b1 b2 s.heap l1 l2).objs.size = some _ := Heap.get?_push_size _ rfl
  have g4 : (zkH5 b1 b2 s.heap l1 l2).get? (zkH3 b1 b2 s.heap l1 l2).objs.size = some _ := p1 (Heap.get?_push_size _ rfl)
  have g3 : (zkH5 b1 b2 s.heap l1 l2).get? (zkH2 b1 b2 s.heap l1 l2).objs.size = some _ := p1 (p1 (Heap.get?_push_size _ rfl))
  have g2 : (zkH5 b1 b2 s.heap l1 l2).get? (zkH1 b1 s.heap l1).objs.size = some _ := p1 (p1 (p1 (Heap.get?_push_size _ rfl)))
  have g1 : (zkH5 b1 b2 s.heap l1 l2).get? s.heap.objs.size = some _ := p1 (p1 (p1 (p1 (Heap.get?_push_size _ rfl))))
  show _ ∧ _
  rw [y2, y3, y4] at g5
  rw [y1, y2] at g3
  rw [y3] at g4
  rw [y1] at g2
  rw [y4]
  exact ⟨⟨_, g5, rfl⟩, h _ g5 g3 g4 (.of ⟨_, g1, rfl, rfl⟩) (.of ⟨_, g2, rfl, rfl⟩) y5 fun c o x => p1 (p1 (p1 (p1 (p1 x))))⟩
end DL
namespace DL
open PySem L2 PyProof.Rows
def SqK (b : Bool) (K : PySem.W.Frag) (H : Hp) (a : Addr) (xs : List V) : Prop := if b = true then SqL K H a xs else SqT K H a xs
section
variable {X : Cx} {pins : List (Addr × Obj)} {σ : L2.St} {H : Hp} {s : Shared} {a : Addr} {xs ys : List V} {b : Bool}
theorem sqK_val (I : L2.Inv X pins σ H s) (h : SqK b X.K H a xs) : ∃ its : List Value, Vals xs its ∧ KQ b s.heap a its.toArray ∧ a < s.heap.objs.size := by
  cases b
  · obtain ⟨its, r, p, _⟩ := I.tuple h
    obtain ⟨o, ho, _⟩ := id p
    exact ⟨its, r, p, Heap.lt_size ho⟩
  · obtain ⟨its, r, p, _⟩ := I.list h
    exact ⟨its, r, p.isList, p.lt⟩
theorem sqK_inj (I : L2.Inv X pins σ H s) (h : SqK b X.K H a xs) (h' : SqK b X.K H a ys) : xs = ys := by
  cases b
  · exact I.tuple_inj h h'
  · exact I.list_inj h h'
end
def ItzK (b1 b2 : Bool) (K : PySem.W.Frag) (a b : Addr) : It :=
  ⟨fun i H => ∃ (xs ys : List V) (x y : V), SqK b1 K H a xs ∧ SqK b2 K H b ys ∧ xs[i]? = some x ∧ ys[i]? = some y,
    fun i H v H' => ∃ T x y, v = .ref T ∧ H T = none ∧ H' = upd H T (.tup [x, y]) ∧ (∀ xs, SqK b1 K H a xs → xs[i]? = some x) ∧ ∀ ys, SqK b2 K H b ys → ys[i]? = some y,
    fun i H => ∃ xs ys : List V, SqK b1 K H a xs ∧ SqK b2 K H b ys ∧ (xs.length ≤ i ∨ ys.length ≤ i)⟩
theorem turn_zipK {P : Program} {w : World} {K : PySem.W.Frag} {elts : List Expr} {kk : Nat} {tpos : Pos} {b1 b2 : Bool} {a b z TI TO i1 i2 : Addr} (D : ZipApart z TI TO i1 i2 a b) :
    Turn P w K (.Tuple elts kk tpos) (ItzK b1 b2 K a b) [z, TI, TO, i1, i2] z (fun i h => IsZip h z TI TO .none ∧ IsPair h TI (.ref i1) (.ref i2) ∧ (∃ x y, IsPair h TO x y) ∧ KI b1 h i1 a i ∧ KI b2 h i2 b i) where
  mem := by simp
  obj := fun i h st c hc => by
    obtain ⟨hz, hTI, ⟨x, y, hTO⟩, h1, h2⟩ := st
    obtain ⟨o1, e1, _, d1⟩ := h1.ex
    obtain ⟨o2, e2, _, d2⟩ := h2.ex
    have e' : c = z ∨ c = TI ∨ c = TO ∨ c = i1 ∨ c = i2 := by simpa using hc
    rcases e' with rfl | rfl | rfl | rfl | rfl
    · exact ⟨_, hz, fun v q => nomatch q⟩
    · exact ⟨_, hTI, fun v q => nomatch q⟩
    · exact ⟨_, hTO, fun v q => nomatch q⟩
    · exact ⟨o1, e1, fun v q => by rw [d1] at q; cases q⟩
    · exact ⟨o2, e2, fun v q => by rw [d2] at q; cases q⟩
  keep := fun i h h' st k => by
    obtain ⟨hz, hTI, ⟨x, y, hTO⟩, h1, h2⟩ := st
    exact ⟨k z (by simp) _ hz, k TI (by simp) _ hTI, ⟨x, y, k TO (by simp) _ hTO⟩, h1.at fun o q => k i1 (by simp) o q, h2.at fun o q => k i2 (by simp) o q⟩
  item := by
    intro X hP hw hK hc i pins s σ H E I hf st hg
    subst hP hw hK
    obtain ⟨hz, hTI, ⟨x0, y0, hTO⟩, h1, h2⟩ := st
    obtain ⟨xs, ys, x, y, hqx, hqy, hx, hy⟩ := hg
    obtain ⟨its, rv, p, _⟩ := sqK_val I hqx
    obtain ⟨its2, rv2, p2, _⟩ := sqK_val I hqy
    obtain ⟨u, hu, ru⟩ := rv.get hx
    obtain ⟨u2, hu2, ru2⟩ := rv2.get hy
    have hzl : z < s.heap.objs.size := Heap.lt_size hz
    have q1 := h1.lt
    have q2 := h2.lt
    refine pyNextK_item D hz hTI hTO h1 h2 p p2 (x := u) (y := u2) (by simpa using hu) (by simpa using hu2) fun h' z' TO' h1' h2' hT hsz hk => ?_
    refine ⟨_, rfl, wpAny_letOwnedTupleGo_zip (s := { s with heap := h' }) z' fun h'' z'' sb => ?_⟩
    have hT2 : h''.get? s.heap.objs.size = some { cls := .type "tuple", data := .seq #[u, u2] } := (sb.2 _ (Nat.ne_of_gt hzl)).trans hT
    have new : ObjOk X.prog X.w (upd H s.heap.objs.size (.tup [x, y])) h'' s.heap.objs.size (.tup [x, y]) := ⟨by show 2 ≤ sizeLine; decide, [u, u2], .cons ru (.cons ru2 .nil), ⟨_, hT2, rfl, _, rfl⟩⟩
    have I1 : L2.Inv X pins σ (upd H s.heap.objs.size (.tup [x, y])) { s with heap := h'' } :=
      I.turnedNew (t' := s.toks) (ch := [z, TI, TO, i1, i2]) (fun c o hb q => (sb.2 c (fun q' => hb (by simp [q']))).trans (hk c o (fun q' => hb (by simp [q'])) (fun q' => hb (by simp [q'])) (fun q' => hb (by simp [q'])) (fun q' => hb (by simp [q'])) q)) hf (Nat.le_refl _) new
    refine ⟨.ref s.heap.objs.size, _, I1, rfl, ⟨_, x, y, rfl, I.hok.fresh (Nat.le_refl _), rfl, fun l hl => by rw [sqK_inj I hl hqx]; exact hx, fun l hl => by rw [sqK_inj I hl hqy]; exact hy⟩, ⟨z'', ?_, ⟨u, u2, ?_⟩, ?_, ?_⟩, fun c hcm => ?_⟩
    · exact (sb.2 _ D.TIz).trans (hk _ _ D.TIz D.TITO D.TIi1 D.TIi2 hTI)
    · exact (sb.2 _ D.TOz).trans TO'
    · exact h1'.at fun o q => (sb.2 _ D.i1z).trans q
    · exact h2'.at fun o q => (sb.2 _ D.i2z).trans q
    · have hlt : c < s.heap.objs.size := by
        have e' : c = z ∨ c = TI ∨ c = TO ∨ c = i1 ∨ c = i2 := by simpa using hcm
        rcases e' with rfl | rfl | rfl | rfl | rfl
        · exact hzl
        · exact Heap.lt_size hTI
        · exact Heap.lt_size hTO
        · exact q1
        · exact q2
      rw [upd_ne (Nat.ne_of_lt hlt)]
      exact (hf c hcm).1
  done := by
    intro X hP hw hK hc i pins s σ H E I hf st hg
    subst hP hw hK
    obtain ⟨hz, hTI, ⟨x0, y0, hTO⟩, h1, h2⟩ := st
    obtain ⟨xs, ys, hqx, hqy, hend⟩ := hg
    obtain ⟨its, rv, p, _⟩ := sqK_val I hqx
    obtain ⟨its2, rv2, p2, _⟩ := sqK_val I hqy
    have l1 := rv.length
    have l2 := rv2.length
    have he : its.toArray[i]? = none ∨ its2.toArray[i]? = none := by
      rcases hend with q | q
      · exact .inl (by simp; omega)
      · exact .inr (by simp; omega)
    exact pyNextK_end (I.ok.hd hc) D hz hTI hTO h1 h2 p p2 he fun h' hk => ⟨rfl, I.turnedL (t' := s.toks) (ch := [z, TI, TO, i1, i2]) (fun c o hb q =>
      hk c o (fun q' => hb (by simp [q'])) (fun q' => hb (by simp [q'])) (fun q' => hb (by simp [q'])) (fun q' => hb (by simp [q'])) q) hf⟩
  self := fun A i s Q E st h => wpAny_pyIter_zip st.1 h
def iZipT (K : PySem.W.Frag) (ta : TA) : TI := fun σ H R => ta σ H fun vs H1 => ∃ b1 b2 a b xs ys, vs = [.ref a, .ref b] ∧ SqK b1 K H1 a xs ∧ SqK b2 K H1 b ys ∧ R (ItzK b1 b2 K a b) H1
theorem pi_zipK {X : Cx} {e e2 : Expr} {ta : TA} {p pos tpos : Pos} {elts : List Expr} {kk : Nat} (hg : Gl X "zip") (hm : X.mg "zip" = none) (ha : PA X [e, e2] ta)
    (hs : starEach [e, e2] X.env = (false, eval e X.env) :: starEach [e2] X.env := by rfl) (hpl : (backTo pos (starEach [e2] X.env)).any (·.1) = false := by rfl) :
    PI X (.Tuple elts kk tpos) (.Call (.Name "zip" p) [e, e2] [] pos) (iZipT X.K ta) := by
  refine ⟨fun pins s σ H R I h => ?_⟩
  refine Call_ (ld_blt I hg hm PyProof.Rows.boot_zip (PyProof.Rows.callWith_type1 (thn (ha.run pos pins s σ H _ I h) fun us s1 ⟨vs, H1, I1, r1, q1⟩ => ?_) hs hpl))
  obtain ⟨b1, b2, a, b, xs, ys, ex, hqx, hqy, q⟩ := q1
  subst ex
  cases r1 with
  | cons r rr =>
    cases rr with
    | cons r' rr =>
      cases rr
      cases r
      cases r'
      have fresh5 : ∀ c, c ∈ [s1.heap.objs.size + 4, s1.heap.objs.size + 2, s1.heap.objs.size + 3, s1.heap.objs.size, s1.heap.objs.size + 1] → FpOk X pins H1 c := fun c hcm => by
        have hle : s1.heap.objs.size ≤ c := by
          simp only [List.mem_cons, List.not_mem_nil, or_false] at hcm
          omega
        exact I1.fpOk hle (I1.hok.fresh hle)
      obtain ⟨its, rv, p1, lt1⟩ := sqK_val I1 hqx
      obtain ⟨its2, rv2, p2, lt2⟩ := sqK_val I1 hqy
      refine call_zipK p1 p2 fun h' hz hTI hTO h1 h2 hsz hk => wpAny_pyIter_zip hz ?_
      have I2 : L2.Inv X pins σ H1 { s1 with heap := h' } := I1.kept (t' := s1.toks) hk
      exact ⟨s1.heap.objs.size + 4, [s1.heap.objs.size + 4, s1.heap.objs.size + 2, s1.heap.objs.size + 3, s1.heap.objs.size, s1.heap.objs.size + 1], _, _, H1, rfl, I2, turn_zipK (PySem.W.ktu_apart s1.heap.objs.size a b lt1 lt2), ⟨hz, hTI, ⟨_, _, hTO⟩, h1, h2⟩, fresh5, q⟩
def iZip (a : DEnv → M (List D)) : DEnv → M Src := fun e => do
  let xs ← a e
  match xs with
    | [x, y] => (do let s ← srcD x; let t ← srcD y; pure ⟨zipT s.items t.items, s.gd ++ t.gd⟩)
    | _ => M.bad
section
variable {k : Kx} {X : Cx} {E : XK} {pos : Pos}
theorem stand_K {G : Hp} {L : Lam} {s : Src} {a : Addr} {b : Bool} (h : Stand k X.K G L s a b) : ∀ (G2 H2 : Hp) (L2 : Lam) (μ : Store), Same G G2 → L <+: L2 → Wd k X.K G2 H2 L2 μ → s.okB μ = true → ∃ vs, SqK b X.K H2 a vs ∧ RpA k X.K G2 L2 vs s.items := by
  cases b <;> exact h
theorem itzK_ok {G : Hp} {L : Lam} {s t : Src} {a b : Addr} {b1 b2 : Bool} (h1 : Stand k X.K G L s a b1) (h2 : Stand k X.K G L t b b2) : ItOk k X.K G L (ItzK b1 b2 X.K a b) ⟨zipT s.items t.items, s.gd ++ t.gd⟩ := by
  intro G2 H2 L2 μ ge le w ok i
  obtain ⟨o1, o2⟩ := okB_app ok
  obtain ⟨vs, hs, ra⟩ := stand_K h1 G2 H2 L2 μ ge le w o1
  obtain ⟨us, ht, rb⟩ := stand_K h2 G2 H2 L2 μ ge le w o2
  refine ⟨fun d hd => ?_, fun hl => ?_⟩
  · obtain ⟨dx, dy, e1, e2, rfl⟩ := zipT_get hd
    obtain ⟨v, hv, rv⟩ := ra.get e1
    obtain ⟨u, hu, ru⟩ := rb.get e2
    refine ⟨⟨vs, us, v, u, hs, ht, hv, hu⟩, fun x H3 y => ?_⟩
    obtain ⟨T, x', y', rfl, hT, rfl, q1, q2⟩ := y
    have z1 := q1 vs hs
    have z2 := q2 us ht
    rw [hv] at z1
    rw [hu] at z2
    cases z1
    cases z2
    exact two_new w hT rv ru
  · refine ⟨vs, us, hs, ht, ?_⟩
    rw [zipT_len] at hl
    rw [ra.len, rb.len]
    omega
theorem ji_zipK {a b : Expr} {ms : DEnv → M (List D)} {p tpos : Pos} {elts : List Expr} {kk : Nat} (hg : Gl X "zip") (hm : X.mg "zip" = none) (ha : JA k X E [a, b] ms)
    (hs : starEach [a, b] X.env = (false, eval a X.env) :: starEach [b] X.env := by rfl) (hpl : (backTo pos (starEach [b] X.env)).any (·.1) = false := by rfl) :
    JI k X E (.Tuple elts kk tpos) (.Call (.Name "zip" p) [a, b] [] pos) (iZip ms) := by
  refine PI.imp (pi_zipK hg hm ha hs hpl) fun s H R h => ?_
  obtain ⟨e, G, L, μ, sg, w, gd⟩ := h
  refine ⟨e, G, L, μ, sg, w, Good.mono (Good.bind gd) fun ds m1 G1 H1 L1 st1 w1 q1 vs r => ?_⟩
  match ds, r, q1 with
  | [], _, q1 => exact False.elim q1
  | [_], _, q1 => exact False.elim q1
  | [x, y], r, q1 =>
    obtain ⟨v, u, rfl, r1, r2⟩ := two_of (H := H1) r
    obtain ⟨a, s, rfl, ⟨va, hva⟩, sa, q1⟩ := src_atK (f := fun s => do let t ← srcD y; (pure ⟨zipT s.items t.items, s.gd ++ t.gd⟩ : M Src)) r1 w1 q1
    obtain ⟨b, t, rfl, ⟨vb, hvb⟩, sb, q1⟩ := src_atK (f := fun t => (pure ⟨zipT s.items t.items, s.gd ++ t.gd⟩ : M Src)) r2 w1 q1
    exact ⟨notTup x, notTup y, a, b, va, vb, rfl, hva, hvb, Good.ret q1 w1 _ (itzK_ok sa sb)⟩
  | _ :: _ :: _ :: _, _, q1 => exact False.elim q1
end
end DL
namespace DL
open PySem L2 PyProof.Rows
/-- the module's name x stands for d -/
def GlD (k : Kx) (K : PySem.W.Frag) (mg : Str → Option Value) (x : Str) (d : D) : Prop := ∃ u v, mg x = some u ∧ RelV v u ∧ ∀ G L, Rp k K G L v d
theorem j_globD {k : Kx} {X : Cx} {E : XK} {x : Str} {d : D} {pos : Pos} (g : GlD k X.K X.mg x d) (hg : Gl X x) (hd : (x == ("__debug__" : Str)) = false := by decide) : JE k X E (.Name x pos) (eC d) := by
  obtain ⟨u, v, h1, h2, h3⟩ := g
  exact j_glob hg h1 h2 h3 hd
section
variable {k : Kx} {P : Program} {w : World} {K : PySem.W.Frag} {mg : Str → Option Value} {base : Heap}
theorem gl_int {x : Str} {i : Int} {t : Tok} (h : mg x = some (.int i t)) : GlD k K mg x (.int i) := ⟨_, .int i, h, ⟨t, rfl⟩, fun _ _ => .int i⟩
theorem rpa_ints {G : Hp} {L : Lam} : ∀ ns : List Int, RpA k K G L (ns.map V.int) (ns.map D.int)
  | [] => .nil
  | n :: r => .cons (.int n) (rpa_ints r)
def isIntV : Value → Option Int
  | .int i _ => some i
  | _ => none
theorem vals_ints : ∀ {us : List Value} {ns : List Int}, us.map isIntV = ns.map some → Vals (ns.map V.int) us
  | [], [], _ => .nil
  | [], _ :: _, h => by cases h
  | _ :: _, [], h => by cases h
  | u :: us, n :: ns, h => by
    simp only [List.map_cons, List.cons.injEq] at h
    refine .cons ?_ (vals_ints h.2)
    cases u with
    | int i t => exact ⟨t, by cases h.1; rfl⟩
    | _ => exact absurd h.1 (by simp [isIntV])
theorem gl_ints {x : Str} {a : Addr} {od : Option Addr} {its : Array Value} {n : Nat} {sl : Array (Option Value)} {ns : List Int} (h : mg x = some (.ref a)) (hk : K.lookup a = some ⟨.type "tuple", od, .seq its n, sl⟩) (hs : its.size ≤ sizeLine) (hv : its.toList.map isIntV = ns.map some) : GlD k K mg x (.tup (ns.map .int)) :=
  ⟨_, .ref a, h, rfl, fun G L => .tup (.inr ⟨_, its, n, hk, rfl, rfl, hs, vals_ints hv⟩) (rpa_ints ns)⟩
/-- a def of the text -/
structure FA (K : PySem.W.Frag) (x qual : Str) (st : Stmt) (ps : List Str) (f : Addr) : Prop where
  ex : ∃ fd, Fun K x qual st f fd ∧ Binds K fd ps []
theorem FA.kp {x qual : Str} {st : Stmt} {ps : List Str} {f : Addr} (F : FA K x qual st ps f) : PySem.W.keepIn K (.ref f) = true := let ⟨_, h, _⟩ := F.ex; h.kp
theorem fnr_ok {x qual : Str} {st : Stmt} {f : Addr} {N ps : List Str} {lvl : Nat} {m : DEnv → M Out} (F : FA K x qual st ps f) (S : FnScope N ps (defScope st))
    (hb : ∀ (cdv : Value) (A : Around) (outer : List Env) (s : Shared) (H : Hp) (E : XK), Room lvl (A.deeper (envOfC qual (defScope st) s.heap.objs.size f cdv)) → JB k (cxOf (L2.CX P w) P w K mg base N qual (defScope st) f cdv A outer s H E) E (defBody st) m) :
    FnR P w K mg base (L2.CX P w) (lvl + 1) f (spD k K ps.length (fnD N.length m)) := by
  obtain ⟨fd, h, b⟩ := F.ex
  refine FnR.imp ((fn_ok h S hb).raw b .nil) fun vs H Q E z => ?_
  rw [List.append_nil]
  exact z
theorem pass_def {N : List Str} {qual : Str} {sc : Scope} {f : Addr} {cdv : Value} {A : Around} {outer : List Env} {s : Shared} {H : Hp} {E : XK} : Passes (L2.CX P w) (cxOf (L2.CX P w) P w K mg base N qual sc f cdv A outer s H E) E :=
  passes_call (takes_of rfl rfl rfl rfl) (fun _ _ _ _ h => h)
theorem kd_all {p : Kd → Prop} (h1 : p .non) (h2 : p .bl) (h3 : p .int) (h4 : p .str) (h5 : p .lst) (h6 : p .tup) (h7 : p .dct) : ∀ kd, (∀ c, kd ≠ .obj c) → p kd
  | .non, _ => h1
  | .bl, _ => h2
  | .int, _ => h3
  | .str, _ => h4
  | .lst, _ => h5
  | .tup, _ => h6
  | .dct, _ => h7
  | .obj c, n => absurd rfl (n c)
theorem in_nil {p : Nat → Prop} : ∀ c ∈ ([] : List Nat), p c := fun _ h => nomatch h
theorem in_cons {p : Nat → Prop} {c : Nat} {r : List Nat} (h : p c) (hr : ∀ c ∈ r, p c) : ∀ x ∈ c :: r, p x := fun x hx => by
  rcases List.mem_cons.mp hx with q | q
  · rw [q]; exact h
  · exact hr x q
theorem hr_un65 {lvl : Nat} {A : Around} (r : Room lvl A) : A.units + 65 < cLine := by have := r.un; omega
def PrA (K : PySem.W.Frag) (C : Addr) (f : Str) (g : Addr) : Prop := ∃ p rest, PySem.W.findIn K (.ref C) f = some (some (.ref p)) ∧ PySem.W.specialIn K (.ref p) "__get__" = some (some (.builtin "property.__get__")) ∧
      PySem.W.takesIn K (.ref p) = some true ∧ PySem.W.recIn K p "property" = some (.ref g :: rest)
theorem prop_at {X : Cx} {f : Str} {c lvl : Nat} {g : Addr} {den : List D → M D} (h1 : SlX.SCls X.K (k.cl c)) (h2 : PrA X.K (k.cl c) f g) (h3 : FnDn k X lvl g 1 den) (h4 : Room (lvl + 1) X.A) : At1 k X f c (.prop den) :=
  let ⟨p, rest, a1, a2, a3, a4⟩ := h2
  ⟨h1, p, g, lvl, rest, a1, a2, a3, a4, h3, h4⟩
theorem kit_rt {C : Addr} {T : String} {b : Bool} (h : PySem.W.mroIn K C (.type T) = some b) (hm : PySem.W.kitMeta T = true) : PySem.W.kitOne K (.ref C) (.type T) = some b := by
  unfold PySem.W.kitOne
  rw [if_neg (by simp)]
  unfold PySem.W.kitCls
  simp only [hm, if_true]
  exact h
theorem kit_same {C : Addr} : PySem.W.kitOne K (.ref C) (.ref C) = some true := by
  unfold PySem.W.kitOne
  rw [if_pos (beq_self_eq_true _)]
theorem kit_to {C : Addr} {T : String} {b : Bool} (h : PySem.W.subIn K (.type T) (.ref C) = some b) (hc : PySem.W.isClsIn K C = true) (ht : PySem.W.typeIn K (.ref C) = some (.type "type")) : PySem.W.kitOne K (.type T) (.ref C) = some b := by
  unfold PySem.W.kitOne
  rw [if_neg (by simp)]
  unfold PySem.W.kitCls
  have hc' : (PySem.W.clsIn K C).isSome = true := hc
  simp only [hc', ht, beq_self_eq_true, Bool.and_self, if_true]
  exact h
theorem kit_no2 {C : Addr} (h1 : PySem.W.mroIn K C (.type "list") = some false) (h2 : PySem.W.mroIn K C (.type "tuple") = some false) : PySem.W.kitAny K (.ref C) [.type "list", .type "tuple"] = some false :=
  kitAny_cons (kit_rt h1 (by decide +kernel)) (fun _ => kitAny_cons (kit_rt h2 (by decide +kernel)) (fun _ => kitAny_nil) fun z => by cases z) fun z => by cases z
def spLaw (tb : List (Addr × Str)) (K : PySem.W.Frag) : Sp := fun vs H Q _ => ∃ (a : Addr) (ns : List Int), vs = [.ref a] ∧ SqL K H a (ns.map V.int) ∧ ns.length ≤ 63 ∧ LamX.Tabs tb H ∧ ∀ H', Q (.bl true) H'
/-- what is tracked, but for the tables -/
def offT (H : Hp) : Hp := fun a => match H a with
  | some (.tbl _) => none
  | o => o
theorem offT_nt {H : Hp} {a : Addr} {o : HO} (h : offT H a = some o) : H a = some o ∧ NT o := by
  unfold offT at h
  split at h
  · cases h
  · rename_i q
    exact ⟨h, fun ps e => q ps (by rw [h, e])⟩
theorem offT_of {H : Hp} {a : Addr} {o : HO} (h : H a = some o) (n : NT o) : offT H a = some o := by
  unfold offT
  split
  · rename_i ps q
    rw [h] at q
    exact absurd (Option.some.inj q) (n ps)
  · exact h
theorem offT_seq {H : Hp} {a : Addr} {xs : List V} (h : SqL K H a xs) : SqL K (offT H) a xs := by
  rcases h with (h | ⟨o, h⟩) | h
  · exact .inl (.inl (offT_of h fun ps e => by cases e))
  · exact .inl (.inr ⟨o, offT_of h fun ps e => by cases e⟩)
  · exact .inr h
theorem law_imp {den : List D → M D} (h : ∀ ns : List Int, ns.length ≤ 63 → ∃ m', den [.lst (ns.map .int)] [] = .ok (.bl true) m') (vs : List V) (H : Hp) (Q : VK) (E : XK) (z : spLaw k.tb K vs H Q E) : spD k K 1 den vs H Q E := by
  obtain ⟨a, ns, rfl, hs, hl, ht, q⟩ := z
  refine ⟨[.lst (ns.map .int)], offT H, [], [], .cons (.lst (offT_seq hs) (rpa_ints ns)) .nil, rfl, ⟨fun a o e => (offT_nt e).1, rfl, fun p hp => (by simp at hp), ht, fun a o e => (offT_nt e).2, fun n c e => by simp at e, fun i j a b a' b' li => by obtain ⟨c, hc⟩ := li; simp at hc⟩, ?_⟩
  obtain ⟨m', h'⟩ := h ns hl
  rw [h']
  intro G' H' L' st w v r
  cases r
  exact q H'
theorem cx_no {w : World} {H : Hp} {s : Shared} {e : Value} {s' : Shared} (h : L2.CX P w [] H s (fun _ _ _ => False) e s') : False := by
  obtain ⟨_, _, _, _, _, _, _, _, _, _, _, _, z⟩ := h
  exact z
theorem frag_mem {a : Addr} {o : Obj} : ∀ {l : PySem.W.Frag}, l.lookup a = some o → (a, o) ∈ l := fun {l} => by
  induction l with
  | nil => intro h; cases h
  | cons p l ih =>
    obtain ⟨b, u⟩ := p
    intro h
    by_cases e : a = b
    · subst e
      simp [List.lookup] at h
      subst h
      exact List.mem_cons_self
    · have e' : (a == b) = false := by simpa using e
      simp only [List.lookup, e'] at h
      exact List.mem_cons_of_mem _ (ih h)
/-- a table of code objects that holds none -/
def tab0 : Obj → Bool
  | ⟨.none, none, .fields vs, sl⟩ => vs.isEmpty && sl.isEmpty
  | _ => false
/-- where a def of the top stands, its code object and its table -/
structure MkT (mg : Str → Option Value) (h : Heap) (x : Str) (f c P : Addr) : Prop where
  at_ : mg x = some (.ref f)
  fn : ∃ o fd, h.get? f = some o ∧ o.data = .func fd ∧ fd.code = .ref c
  hd : PySem.W.CodeHd h c P
  tb : h.get? P = some { cls := .none, data := .fields #[] }
theorem mkT_of {q : Program} {loose : List Str} {mean : ExcName → Option Value} {mg mb : Str → Option Value} {h : Heap} (T : Top q loose mean mg mb h) {x : Str} (hx : ((recsOf q).any fun r => r.name == x) = true) : ∃ f c P, MkT mg h x f c P := by
  obtain ⟨r, hr, hn⟩ := List.any_eq_true.mp hx
  obtain rfl : r.name = x := beq_iff_eq.mp hn
  obtain ⟨f, o, fd, c, P, e1, e2, e3, e4, e5, e6⟩ := T.tab r hr
  exact ⟨f, c, P, e1, ⟨o, fd, e2, e3, e4⟩, .of e5 e6, e6.2⟩
end
end DL
namespace DL
open PySem L2
def Res.thn {α β : Type} (r : Res α) (f : α → Store → Res β) : Res β := match r with
  | .ok a m => f a m
  | .exn c fs m => .exn c fs m
  | .bad => .bad
section
variable {α β : Type}
@[simp] theorem thn_ok (a : α) (m : Store) (f : α → Store → Res β) : (Res.ok a m).thn f = f a m := (rfl)
@[simp] theorem thn_bad (f : α → Store → Res β) : (Res.bad : Res α).thn f = .bad := (rfl)
@[simp] theorem bind_ap (x : M α) (f : α → M β) (m : Store) : (x >>= f) m = (x m).thn fun a m1 => f a m1 := by
  show M.bind x f m = _
  unfold M.bind Res.thn
  cases x m <;> rfl
@[simp] theorem pure_ap (a : α) (m : Store) : (pure a : M α) m = .ok a m := (rfl)
@[simp] theorem bad_ap (m : Store) : (M.bad : M α) m = .bad := (rfl)
@[simp] theorem ite_ap {c : Prop} [Decidable c] (x y : M α) (m : Store) : (if c then x else y) m = if c then x m else y m := by split <;> rfl
variable (e : DEnv) (m : Store)
@[simp] theorem eVar_ap (i : Nat) : eVar i e m = getv i e m := (rfl)
@[simp] theorem getv_some {i : Nat} {d : D} {e : DEnv} (h : e[i]? = some (some d)) : getv i e m = .ok d m := by
  unfold getv
  rw [h]
  rfl
@[simp] theorem eC_ap (d : D) : eC d e m = .ok d m := (rfl)
@[simp] theorem eOp_ap (g : D → D → M D) (a b : DEnv → M D) : eOp g a b e m = (a e m).thn fun x m1 => (b e m1).thn fun y m2 => g x y m2 := by simp [eOp]
@[simp] theorem eUn_ap (g : D → M D) (a : DEnv → M D) : eUn g a e m = (a e m).thn fun x m1 => g x m1 := by simp [eUn]
@[simp] theorem asB_bl (b : Bool) : asB (.bl b) m = .ok b m := (rfl)
@[simp] theorem eIf_ap (t : DEnv → M Bool) (a b : DEnv → M D) : eIf t a b e m = (t e m).thn fun c m1 => if c then a e m1 else b e m1 := by simp [eIf]
@[simp] theorem eAnd_ap (a b : DEnv → M D) : eAnd a b e m = (a e m).thn fun x m1 => (asB x m1).thn fun c m2 => if c then b e m2 else .ok (.bl false) m2 := by simp [eAnd]
@[simp] theorem eOr_ap (a b : DEnv → M D) : eOr a b e m = (a e m).thn fun x m1 => (asB x m1).thn fun c m2 => if c then .ok (.bl true) m2 else b e m2 := by simp [eOr]
@[simp] theorem eNot_ap (a : DEnv → M D) : eNot a e m = (a e m).thn fun x m1 => (asB x m1).thn fun c m2 => .ok (.bl (!c)) m2 := by simp [eNot]
@[simp] theorem eChain_ap (g g' : D → D → M D) (a b c : DEnv → M D) : eChain g g' a b c e m = (a e m).thn fun x m1 => (b e m1).thn fun y m2 => (g x y m2).thn fun r m3 => (asB r m3).thn fun c1 m4 => if c1 then (c e m4).thn fun z m5 => g' y z m5 else .ok (.bl false) m4 := by simp [eChain]
@[simp] theorem tB_ap (a : DEnv → M D) : tB' a e m = (a e m).thn fun x m1 => asB x m1 := by simp [tB']
@[simp] theorem tAnd_ap (t u : DEnv → M Bool) : tAndD t u e m = (t e m).thn fun c m1 => if c then u e m1 else .ok false m1 := by simp [tAndD]
@[simp] theorem tOr_ap (t u : DEnv → M Bool) : tOrD t u e m = (t e m).thn fun c m1 => if c then .ok true m1 else u e m1 := by simp [tOrD]
@[simp] theorem tNot_ap (t : DEnv → M Bool) : tNotD t e m = (t e m).thn fun c m1 => .ok (!c) m1 := by simp [tNotD]
@[simp] theorem aNil_ap : aNil e m = .ok [] m := (rfl)
@[simp] theorem aCons_ap (a : DEnv → M D) (r : DEnv → M (List D)) : aCons a r e m = (a e m).thn fun x m1 => (r e m1).thn fun xs m2 => .ok (x :: xs) m2 := by simp [aCons]
@[simp] theorem eCallB_ap (g : List D → M D) (as : DEnv → M (List D)) : eCallB g as e m = (as e m).thn fun xs m1 => g xs m1 := by simp [eCallB]
@[simp] theorem eTup_ap (as : DEnv → M (List D)) : eTup as e m = (as e m).thn fun xs m1 => mkT xs m1 := by simp [eTup]
@[simp] theorem eLst_ap (as : DEnv → M (List D)) : eLst as e m = (as e m).thn fun xs m1 => mkL xs m1 := by simp [eLst]
@[simp] theorem eLstM_ap (as : DEnv → M (List D)) : eLstM as e m = (as e m).thn fun xs m1 => newM xs m1 := by simp [eLstM]
@[simp] theorem mkT_ap (ds : List D) : mkT ds m = if ds.length ≤ 100000 then .ok (.tup ds) m else .bad := by simp [mkT]
@[simp] theorem mkL_ap (ds : List D) : mkL ds m = if ds.length ≤ 100000 then .ok (.lst ds) m else .bad := by simp [mkL]
@[simp] theorem seq_lst (ds : List D) : seqD (.lst ds) m = .ok ds m := (rfl)
@[simp] theorem seq_tup (ds : List D) : seqD (.tup ds) m = .ok ds m := (rfl)
theorem seq_loc {n : Nat} {ds : List D} {m : Store} (h : m[n]? = some (some (.lst ds))) : seqD (.loc n) m = .ok ds m := by simp [seqD, h]
@[simp] theorem src_lst (ds : List D) : srcD (.lst ds) m = .ok ⟨ds, []⟩ m := (rfl)
@[simp] theorem src_tup (ds : List D) : srcD (.tup ds) m = .ok ⟨ds, []⟩ m := (rfl)
@[simp] theorem chk_nil (ds : List D) : chk ⟨ds, []⟩ m = .ok () m := (rfl)
@[simp] theorem tYes_ap : tYesD e m = .ok true m := (rfl)
@[simp] theorem sNil_ap : sNil e m = .ok (.nx e) m := (rfl)
@[simp] theorem andThen_nx (s : DEnv → M Out) : andThen (.nx e) s m = s e m := (rfl)
@[simp] theorem andThen_rt (d : D) (s : DEnv → M Out) : andThen (.rt d) s m = .ok (.rt d) m := (rfl)
@[simp] theorem sSeq_ap (s t : DEnv → M Out) : sSeq s t e m = (s e m).thn fun o m1 => andThen o t m1 := by simp [sSeq]
@[simp] theorem sSet_ap (i : Nat) (a : DEnv → M D) : sSet i a e m = (a e m).thn fun x m1 => .ok (.nx (e.set i (some x))) m1 := by simp [sSet]
@[simp] theorem sAsg_ap (a : DEnv → M D) (g : D → DEnv → M DEnv) : sAsg a g e m = (a e m).thn fun x m1 => (g x e m1).thn fun e2 m2 => .ok (.nx e2) m2 := by simp [sAsg]
@[simp] theorem sIf_ap (t : DEnv → M Bool) (s u : DEnv → M Out) : sIf t s u e m = (t e m).thn fun c m1 => if c then s e m1 else u e m1 := by simp [sIf]
@[simp] theorem sRet_ap (a : DEnv → M D) : sRet a e m = (a e m).thn fun x m1 => .ok (.rt x) m1 := by simp [sRet]
@[simp] theorem sExpr_ap (a : DEnv → M D) : sExpr a e m = (a e m).thn fun x m1 => .ok (.nx e) m1 := by simp [sExpr]
@[simp] theorem sBad_ap : sBad e m = .bad := (rfl)
@[simp] theorem sFor_ap (it : DEnv → M Src) (g : D → DEnv → M DEnv) (b : DEnv → M Out) : sFor it g b e m = (it e m).thn fun src m1 => forL src g b src.items e m1 := by simp [sFor]
@[simp] theorem gNm_ap (i : Nat) (d : D) : gNm i d e m = .ok (e.set i (some d)) m := (rfl)
@[simp] theorem gTp_ap (n : Nat) (g : List D → DEnv → M DEnv) (ds : List D) (h : ds.length = n) : gTp n g (.tup ds) e m = g ds e m := by simp [gTp, h]
@[simp] theorem gsNil_ap (ds : List D) : gsNil ds e m = .ok e m := (rfl)
@[simp] theorem gsCons_ap (g : D → DEnv → M DEnv) (gs : List D → DEnv → M DEnv) (d : D) (ds : List D) : gsCons g gs (d :: ds) e m = (g d e m).thn fun e1 m1 => gs ds e1 m1 := by simp [gsCons]
def par2 (i j : Nat) (e : DEnv) : List D → Store → Res Out
  | [x, y], m1 => .ok (.nx ((e.set i (some x)).set j (some y))) m1
  | _, _ => .bad
@[simp] theorem par2_two (i j : Nat) (x y : D) : par2 i j e [x, y] m = .ok (.nx ((e.set i (some x)).set j (some y))) m := (rfl)
@[simp] theorem sParA_ap (i j : Nat) (as : DEnv → M (List D)) : sParA i j as e m = (as e m).thn fun ds m1 => par2 i j e ds m1 := by
  simp only [sParA, bind_ap]
  congr
  funext ds m1
  match ds with
  | [] => rfl
  | [_] => rfl
  | [_, _] => rfl
  | _ :: _ :: _ :: _ => rfl
@[simp] theorem iSeq_ap (a : DEnv → M D) : iSeqD a e m = (a e m).thn fun x m1 => srcD x m1 := by simp [iSeqD]
theorem iRg1_ap (as : DEnv → M (List D)) {n : Int} {m1 : Store} (h : as e m = .ok [.int n] m1) (h1 : -(2 ^ 62) ≤ n) (h2 : n < 2 ^ 62) : iRg1 as e m = .ok ⟨rngI 0 n.toNat, []⟩ m1 := by
  have hc : -(2 ^ 62) ≤ n ∧ n < 2 ^ 62 := ⟨h1, h2⟩
  simp only [iRg1, bind_ap, h, thn_ok, ite_ap, hc, and_self, if_true, pure_ap]
theorem iZip_ap (as : DEnv → M (List D)) {x y : D} {m1 : Store} {xs ys : List D} (h : as e m = .ok [x, y] m1) (h1 : srcD x m1 = .ok ⟨xs, []⟩ m1) (h2 : srcD y m1 = .ok ⟨ys, []⟩ m1) : iZip as e m = .ok ⟨zipT xs ys, []⟩ m1 := by
  simp [iZip, h, h1, h2]
@[simp] theorem callN_ap {n : Nat} (den : List D → M D) {ds : List D} (h : ds.length = n) : callN n den ds m = den ds m := by simp [callN, h]
end
theorem forL_inv {src : List D} {g : D → DEnv → M DEnv} {b : DEnv → M Out} (I : Nat → DEnv → Store → Prop) : ∀ (ds : List D) (i : Nat) (e : DEnv) (m : Store),
    I i e m → (∀ j d e m, ds[j]? = some d → I (i + j) e m → ∃ e1 m1 e2 m2, g d e m = .ok e1 m1 ∧ (b e1 m1 = .ok (.nx e2) m2 ∨ b e1 m1 = .ok (.ct e2) m2) ∧ I (i + j + 1) e2 m2) →
    ∃ e' m', forL ⟨src, []⟩ g b ds e m = .ok (.nx e') m' ∧ I (i + ds.length) e' m'
  | [], i, e, m, h, _ => ⟨e, m, by simp [forL], h⟩
  | d :: ds, i, e, m, h, st => by
    obtain ⟨e1, m1, e2, m2, h1, h2, h3⟩ := st 0 d e m rfl h
    obtain ⟨e', m', h4, h5⟩ := forL_inv (src := src) I ds (i + 1) e2 m2 (by simpa using h3) (fun j d e m hj hi => by
      have := st (j + 1) d e m (by simpa using hj) (by rw [show i + (j + 1) = i + 1 + j by omega]; exact hi)
      obtain ⟨a1, a2, a3, a4, a5, a6, a7⟩ := this
      exact ⟨a1, a2, a3, a4, a5, a6, by rw [show i + 1 + j + 1 = i + (j + 1) + 1 by omega]; exact a7⟩)
    refine ⟨e', m', ?_, by rw [List.length_cons, show i + (ds.length + 1) = i + 1 + ds.length by omega]; exact h5⟩
    rcases h2 with h2 | h2 <;> simp [forL, h1, h2, h4]
theorem trim_app (m junk : Store) : trimOk m (m ++ junk) = true := by
  unfold trimOk
  simp [cellKept, List.all_eq_true]
  intro a b h
  rw [List.mem_iff_getElem?] at h
  obtain ⟨i, hi⟩ := h
  rw [List.getElem?_zip_eq_some] at hi
  left
  have := hi.1.symm.trans hi.2
  simpa using this
theorem fn_pure {n : Nat} {b : DEnv → M Out} {ds : List D} {m : Store} {d : D} (h : b (startD n ds) m = .ok (.rt d) m) : fnD n b ds m = .ok d m := by
  simp [fnD, scopeM, runB, h]
theorem fn_pureN {n : Nat} {b : DEnv → M Out} {ds : List D} {m : Store} {e : DEnv} (h : b (startD n ds) m = .ok (.nx e) m) : fnD n b ds m = .ok .non m := by
  simp [fnD, scopeM, runB, h]
theorem fn_any {n : Nat} {b : DEnv → M Out} {ds : List D} {m m' : Store} {d : D} (h : b (startD n ds) m = .ok (.rt d) m') (hl : m'.length = m.length) : fnD n b ds m = .ok d m' := by
  have ht : m'.take m.length = m' := by rw [← hl, List.take_length]
  simp [fnD, scopeM, runB, h, ht]
/-- a def that hands back what it made -/
theorem fn_new {n : Nat} {b : DEnv → M Out} {ds : List D} {m : Store} {c : Cell} {d : D} (h : b (startD n ds) m = .ok (.rt d) (m ++ [some c])) (hd : d.und m.length = false) : fnD n b ds m = .ok d (m ++ [some c]) := by
  simp [fnD, scopeM, runB, h, hd]
/-- what was made within is forgotten -/
theorem fn_junk {n : Nat} {b : DEnv → M Out} {ds : List D} {m junk : Store} {d : D} (h : b (startD n ds) m = .ok (.rt d) (m ++ junk)) (hd : d.und m.length = true) : fnD n b ds m = .ok d m := by
  simp [fnD, scopeM, runB, h, hd, trim_app]
theorem set_last (m : Store) (x y : Option Cell) : (m ++ [x]).set m.length y = m ++ [y] := by simp
theorem get_last (m : Store) (x : Option Cell) : (m ++ [x])[m.length]? = some x := by simp
theorem allSome_map : ∀ vs : List D, allSome (vs.map some) = some vs
  | [] => rfl
  | v :: vs => by simp [allSome, allSome_map vs]
theorem trim_none (m : Store) : trimOk m (m ++ [none]) = true := trim_app m [none]
theorem make_ok {c n : Nat} {den : List D → M D} {ds vs : List D} {m : Store} (hl : ds.length + 1 = n) (h : den (.loc m.length :: ds) (m ++ [some (.ins c [])]) = .ok .non (m ++ [some (.ins c (vs.map some))])) (hu : D.undL m.length vs = true) :
    makeD c n den ds m = .ok (.obj c vs) m := by
  simp [makeD, scopeM, newI, callN, hl, h, isNon, frzI, get_last, allSome_map, set_last, trim_none, D.und, hu]
@[simp] theorem isi_int (cs : List Nat) (t : Ty) (i : Int) (m : Store) : isiD cs t (.int i) m = .ok (.bl (isK t .int)) m := (rfl)
@[simp] theorem isi_bl (cs : List Nat) (t : Ty) (i : Bool) (m : Store) : isiD cs t (.bl i) m = .ok (.bl (isK t .bl)) m := (rfl)
@[simp] theorem isi_lst (cs : List Nat) (t : Ty) (i : List D) (m : Store) : isiD cs t (.lst i) m = .ok (.bl (isK t .lst)) m := (rfl)
@[simp] theorem isi_tup (cs : List Nat) (t : Ty) (i : List D) (m : Store) : isiD cs t (.tup i) m = .ok (.bl (isK t .tup)) m := (rfl)
@[simp] theorem isi_obj (cs : List Nat) (t : Ty) (c : Nat) (i : List D) (m : Store) (h : c ∈ cs) : isiD cs t (.obj c i) m = .ok (.bl (isK t (.obj c))) m := by simp [isiD, kindOf, h]
@[simp] theorem eIsi_ap (cs : List Nat) (t : Ty) (a : DEnv → M D) (e : DEnv) (m : Store) : eIsi cs t a e m = (a e m).thn fun x m1 => isiD cs t x m1 := by simp [eIsi]
@[simp] theorem add_int (i j : Int) (m : Store) : addD (.int i) (.int j) m = .ok (.int (i + j)) m := (rfl)
@[simp] theorem sub_int (i j : Int) (m : Store) : subD (.int i) (.int j) m = .ok (.int (i - j)) m := (rfl)
@[simp] theorem neg_int (i : Int) (m : Store) : negD (.int i) m = .ok (.int (-i)) m := (rfl)
theorem mod_int {i j : Int} (m : Store) (h : 0 < j) : modD (.int i) (.int j) m = .ok (.int (i % j)) m := by simp [modD, gI, h]
theorem fdv_int {i j : Int} (m : Store) (h : 0 < j) (h2 : j < 2 ^ 100) : fdvD (.int i) (.int j) m = .ok (.int (i / j)) m := by
  have hc : CDv i j := ⟨h, h2⟩
  show (if CDv i j then (pure (.int (i / j)) : M D) else M.bad) m = _
  rw [if_pos hc]
  rfl
theorem mul_int {i j : Int} (m : Store) (h : CM i j) : mulD (.int i) (.int j) m = .ok (.int (i * j)) m := by
  show (if CM i j then (pure (.int (i * j)) : M D) else M.bad) m = _
  rw [if_pos h]
  rfl
theorem pow_int {i j : Int} (m : Store) (h : CPw i j) : powD (.int i) (.int j) m = .ok (.int (i ^ j.toNat)) m := by
  show (if CPw i j then (pure (.int (i ^ j.toNat)) : M D) else M.bad) m = _
  rw [if_pos h]
  rfl
@[simp] theorem lt_int (i j : Int) (m : Store) : ltD (.int i) (.int j) m = .ok (.bl (decide (i < j))) m := (rfl)
@[simp] theorem le_int (i j : Int) (m : Store) : leD (.int i) (.int j) m = .ok (.bl (decide (i ≤ j))) m := (rfl)
@[simp] theorem gt_int (i j : Int) (m : Store) : gtD (.int i) (.int j) m = .ok (.bl (decide (j < i))) m := (rfl)
@[simp] theorem ge_int (i j : Int) (m : Store) : geD (.int i) (.int j) m = .ok (.bl (decide (j ≤ i))) m := (rfl)
@[simp] theorem int_int (i : Int) (m : Store) : intD [.int i] m = .ok (.int i) m := (rfl)
@[simp] theorem int_bl (b : Bool) (m : Store) : intD [.bl b] m = .ok (.int (if b then 1 else 0)) m := (rfl)
@[simp] theorem max_int (i j : Int) (m : Store) : maxD [.int i, .int j] m = .ok (.int (if j > i then j else i)) m := (rfl)
@[simp] theorem min_int (i j : Int) (m : Store) : minD [.int i, .int j] m = .ok (.int (if j < i then j else i)) m := (rfl)
@[simp] theorem len_lst (ds : List D) (m : Store) : lenD [.lst ds] m = .ok (.int ds.length) m := (rfl)
@[simp] theorem len_tup (ds : List D) (m : Store) : lenD [.tup ds] m = .ok (.int ds.length) m := (rfl)
@[simp] theorem tuple_tup (ds : List D) (m : Store) : tupleD [.tup ds] m = .ok (.tup ds) m := (rfl)
@[simp] theorem tuple_lst (ds : List D) (m : Store) : tupleD [.lst ds] m = mkT ds m := (rfl)
@[simp] theorem list_tup (ds : List D) (m : Store) : listD [.tup ds] m = mkL ds m := (rfl)
@[simp] theorem list_lst (ds : List D) (m : Store) : listD [.lst ds] m = mkL ds m := (rfl)
theorem ix_seq {x d : D} {ds : List D} {i : Int} {m : Store} (h : seqD x m = .ok ds m) (h1 : 0 ≤ i) (h2 : ds[i.toNat]? = some d) : ixD x (.int i) m = .ok d m := by
  have hl := (List.getElem?_eq_some_iff.mp h2).1
  have h3 : i < ds.length := by omega
  have h4 := (List.getElem?_eq_some_iff.mp h2).2
  simp [ixD, h, atI, ixN, h1, h3, h4]
def ils (ns : List Int) : List D := ns.map .int
@[simp] theorem ils_length (ns : List Int) : (ils ns).length = ns.length := by simp [ils]
@[simp] theorem ils_get (ns : List Int) (i : Nat) : (ils ns)[i]? = (ns[i]?).map .int := by simp [ils]
@[simp] theorem ils_app (a b : List Int) : ils a ++ ils b = ils (a ++ b) := by simp [ils]
@[simp] theorem ils_app1 (a : List Int) (i : Int) : ils a ++ [.int i] = ils (a ++ [i]) := by simp [ils]
theorem ils_cons (i : Int) (a : List Int) : ils (i :: a) = .int i :: ils a := rfl
@[simp] theorem ils_nil : ils [] = [] := rfl
@[simp] theorem ils_inj {a b : List Int} : ils a = ils b ↔ a = b := by
  refine ⟨fun h => ?_, fun h => by rw [h]⟩
  induction a generalizing b with
  | nil => cases b with
    | nil => rfl
    | cons y b => simp [ils] at h
  | cons x a ih => cases b with
    | nil => simp [ils] at h
    | cons y b =>
      simp only [ils_cons, List.cons.injEq, D.int.injEq] at h
      rw [h.1, ih h.2]
theorem undL_ints (n : Nat) : ∀ ns : List Int, D.undL n (ils ns) = true
  | [] => rfl
  | i :: ns => by rw [ils_cons]; simp [D.undL, D.und]; exact undL_ints n ns
theorem intsD_ints : ∀ ns : List Int, intsD (ils ns) = some ns
  | [] => rfl
  | i :: ns => by rw [ils_cons]; simp [intsD]; exact intsD_ints ns
theorem toPDs_ints : ∀ ns : List Int, toPDs (ils ns) = some (ns.map .int)
  | [] => rfl
  | i :: ns => by rw [ils_cons]; simp [toPDs, toPD]; rw [toPDs_ints ns]
theorem canLay_ints : ∀ ns : List Int, PyData.canLayAll0 (ns.map .int) = true
  | [] => rfl
  | i :: ns => by simp [PyData.canLayAll0, PyData.canLay0]; exact canLay_ints ns
theorem depth_ints : ∀ ns : List Int, PyData.depthAll (ns.map .int) = 0
  | [] => rfl
  | i :: ns => by simp [PyData.depthAll, PyData.depth]; exact depth_ints ns
@[simp] theorem eq_int (i j : Int) (m : Store) : eqD (.int i) (.int j) m = .ok (.bl (i == j)) m := by simp [eqD, onPD, topPD, toPD, SeqAt.shaped, PyData.canLay0, PyData.depth, PyData.eqv]
@[simp] theorem ne_int (i j : Int) (m : Store) : neD (.int i) (.int j) m = .ok (.bl (!(i == j))) m := by simp [neD, onPD, topPD, toPD, SeqAt.shaped, PyData.canLay0, PyData.depth, PyData.eqv]
@[simp] theorem eq_bl (i j : Bool) (m : Store) : eqD (.bl i) (.bl j) m = .ok (.bl (i == j)) m := by simp [eqD, onPD, topPD, toPD, SeqAt.shaped, PyData.canLay0, PyData.depth, PyData.eqv]
end DL
namespace DL
open PySem L2
theorem compL_on {α : Type} {src : List D} {g : D → DEnv → M DEnv} {elt : DEnv → M D} {e : DEnv} {m : Store} {h f : α → D} : ∀ (xs : List α), (∀ x ∈ xs, ∃ e1, g (h x) e m = .ok e1 m ∧ elt e1 m = .ok (f x) m) → compL ⟨src, []⟩ g tYesD elt e (xs.map h) m = .ok (xs.map f) m
  | [], _ => by simp [compL]
  | d :: ds, q => by
    obtain ⟨e1, h1, h2⟩ := q d (by simp)
    have := compL_on (src := src) (g := g) (elt := elt) (e := e) (m := m) (h := h) (f := f) ds fun x hx => q x (by simp [hx])
    simp [compL, noX, h1, h2, this]
theorem eComp_on {α : Type} {it : DEnv → M Src} {g : D → DEnv → M DEnv} {elt : DEnv → M D} {vs : List Nat} {e : DEnv} {m : Store} {xs : List α} {h f : α → D} (hi : it e m = .ok ⟨xs.map h, []⟩ m) (hl : xs.length ≤ 100000)
    (q : ∀ x ∈ xs, ∃ e1, g (h x) (wipeD e vs) m = .ok e1 m ∧ elt e1 m = .ok (f x) m) : eComp it g tYesD elt vs e m = .ok (.lst (xs.map f)) m := by
  simp [eComp, compM, hi, sizeOk, hl, compL_on xs q]
theorem zipT_ils (a b : List Int) : zipT (ils a) (ils b) = (a.zip b).map fun q => D.tup [.int q.1, .int q.2] := by
  simp [zipT, ils, List.zip_map]
theorem rngI_eq (n : Nat) : rngI 0 n = (List.range n).map fun (i : Nat) => D.int (i : Int) := by simp [rngI]
def Sq (b : Bool) (ns : List Int) : D := if b then .tup (ils ns) else .lst (ils ns)
@[simp] theorem src_Sq (b : Bool) (ns : List Int) (m : Store) : srcD (Sq b ns) m = .ok ⟨ils ns, []⟩ m := by cases b <;> rfl
@[simp] theorem seq_Sq (b : Bool) (ns : List Int) (m : Store) : seqD (Sq b ns) m = .ok (ils ns) m := by cases b <;> rfl
@[simp] theorem len_Sq (b : Bool) (ns : List Int) (m : Store) : lenD [Sq b ns] m = .ok (.int ns.length) m := by cases b <;> simp [Sq]
@[simp] theorem isi_Sq (cs : List Nat) (b : Bool) (ns : List Int) (m : Store) : isiD cs .seq (Sq b ns) m = .ok (.bl true) m := by cases b <;> rfl
theorem tuple_Sq (b : Bool) (ns : List Int) (m : Store) (h : ns.length ≤ 100000) : tupleD [Sq b ns] m = .ok (.tup (ils ns)) m := by cases b <;> simp [Sq, h]
theorem tru_bls : ∀ bs : List Bool, truFs (bs.map D.bl) = some bs
  | [] => rfl
  | b :: bs => by simp [truFs, truF]; rw [tru_bls bs]
theorem all_bls (bs : List Bool) (m : Store) : allD [.lst (bs.map D.bl)] m = .ok (.bl (bs.all id)) m := by simp [allD, tru_bls]
theorem tru_ils : ∀ ns : List Int, truFs (ils ns) = some (ns.map (· != 0))
  | [] => rfl
  | b :: bs => by rw [ils_cons]; simp [truFs, truF]; rw [tru_ils bs]
theorem any_tup (ns : List Int) (m : Store) : anyD [.tup (ils ns)] m = .ok (.bl ((ns.map (· != 0)).any id)) m := by simp [anyD, tru_ils]
theorem cm_r {i j : Int} (h1 : -1000000000000 ≤ j) (h2 : j ≤ 1000000000000) : CM i j := .inr ⟨by omega, by omega⟩
theorem iRg1_nat {as : DEnv → M (List D)} {e : DEnv} {m m1 : Store} {s : Nat} (hs : s ≤ 1000000000) (h : as e m = .ok [.int s] m1) : iRg1 as e m = .ok ⟨rngI 0 s, []⟩ m1 := by
  have := iRg1_ap e m as (n := s) (m1 := m1) h (by omega) (by omega)
  simpa using this
end DL
namespace DL
open PySem L2 PyProof.Rows
open PySem.W (ksFn ksEnv ks_superIn excInitIn excOver)
/-- the scope of such an __init__(slf, v) -/
def iniB (sc : Scope) (slf v : Str) : Bool :=
  decide (sc.kind = .function) && (!sc.isCoroutine && (!sc.isGenerator && (sc.names.all (fun y => !decide (y.2 = .cell)) && (decide (sc.names.lookup ("super" : Str) = some .globalImplicit) && (decide (sc.names.lookup ("__class__" : Str) = some .free) &&
    (decide (sc.names.lookup slf = some .local) && (decide (sc.names.lookup v = some .local) && (decide (slf ≠ v) && (!(slf == ("__debug__" : Str)) && !(v == ("__debug__" : Str)))))))))))
structure IniS (sc : Scope) (slf v : Str) : Prop where
  kind : sc.kind = .function
  co : sc.isCoroutine = false
  gen : sc.isGenerator = false
  noc : ∀ y ∈ sc.names, y.2 ≠ .cell
  sup : sc.names.lookup ("super" : Str) = some .globalImplicit
  cls : sc.names.lookup ("__class__" : Str) = some .free
  ks : sc.names.lookup slf = some .local
  kv : sc.names.lookup v = some .local
  ne : slf ≠ v
  ds : (slf == ("__debug__" : Str)) = false
  dv : (v == ("__debug__" : Str)) = false
theorem iniB_ok {sc : Scope} {slf v : Str} (h : iniB sc slf v = true) : IniS sc slf v := by
  unfold iniB at h
  simp only [Bool.and_eq_true, Bool.not_eq_true', decide_eq_true_eq, List.all_eq_true, decide_eq_false_iff_not] at h
  obtain ⟨h1, h2, h3, h4, h5, h6, h7, h8, h9, h10, h11⟩ := h
  exact ⟨h1, h2, h3, h4, h5, h6, h7, h8, h9, h10, h11⟩
/-- its body, as it is read in env -/
def IniEv (env : Env) (b : List Stmt) (slf v f : Str) : Prop := ∃ (txt : Str) (j : Nat) (p0 p1 p2 p3 p4 p5 p6 p7 p8 p9 : Pos) (pl : Sem Bool),
  b = [.Expr (.Call (.Attribute (.Call (.Name "super" p0) [] [] p1) "__init__" p2) [.Constant (.str txt) j p3] [] p4) p5, .Assign [.Attribute (.Name slf p6) f p7] (.Name v p8) p9] ∧
  eval (.Call (.Attribute (.Call (.Name "super" p0) [] [] p1) "__init__" p2) [.Constant (.str txt) j p3] [] p4) env = (do
    let ov ← attributeBase (.Call (.Name "super" p0) [] [] p1) "__init__" env (eval (.Call (.Name "super" p0) [] [] p1) env)
    standAt p2.atName
    let (f, first) ← holding [ov] (getMethod ov "__init__" pl)
    callWith p4 f first (backTo p4 (starEach [.Constant (.str txt) j p3] env)) []) ∧
  swapsWith (.Call (.Attribute (.Call (.Name "super" p0) [] [] p1) "__init__" p2) [.Constant (.str txt) j p3] [] p4) none p5.line env = pure false ∧
  swapsWith (.Name v p8) (some (.Attribute (.Name slf p6) f p7)) p9.line env = pure false ∧ interactive env = false ∧
  starEach [.Constant (.str txt) j p3] env = [(false, eval (.Constant (.str txt) j p3) env)]
section
variable {prog : Program} {w : World} {A : Around} {E : Value → Shared → Prop} {R : Result → Shared → Prop} {K : PySem.W.Frag} {mg : Str → Option Value}
/-- the first field of an error that has no dict yet -/
theorem err_set {s : Shared} {x C t1 : Addr} {f : Str} {u : Value} {Q : Unit → Shared → Prop} (X : K.In s.heap) (hx : s.heap.get? x = some (HandSPX.excO C t1)) (ov : excOver K C ESX.exTail = true) (hd : PySem.W.hasDictIn K C = true)
    (sa : PySem.W.findIn K (.ref C) "__setattr__" = some (some (.builtin "object.__setattr__"))) (nf : PySem.W.findIn K (.ref C) f = some none)
    (hq : ∀ h' tk dx, (∀ b o, b ≠ x → s.heap.get? b = some o → h'.get? b = some o) → s.heap.objs.size ≤ dx → dx ≠ x → h'.get? x = some { HandSPX.excO C t1 with dict := some dx } → h'.Ns1 dx (fun y => if y = f then some u else none) → Q () { s with heap := h', toks := tk }) :
    wpAny (model prog w) A (setAttr (.ref x) f u) Q E s := by
  have I : PySem.W.InstAt s.heap x (HandSPX.excO C t1) C none := ⟨hx, rfl, rfl, trivial⟩
  obtain ⟨cd, hc, hh⟩ := PySem.W.any_some hd
  refine PySem.W.set_plain X I sa ?_
  refine PySem.W.osa_openX F.store_Exception X I ov (r := none) (by unfold PySem.W.takerIn; rw [nf]; rfl) fun b => ?_
  have hcls : PySem.W.Looks (model prog w) s.heap (classData C) cd := PySem.W.looks_clsIn X hc
  have hxs : x ≠ s.heap.objs.size := Nat.ne_of_lt (Heap.lt_size hx)
  obtain ⟨hp, g, d, t, os⟩ := s
  show wpAny _ _ (Builtin.ObjectAttr.storeInOwnDict (.ref x) (.ref C) _ f u b) _ _ _
  have own : cd.hasDict = true := hh
  clear hh
  cases cd with
  | mk nm bs mro ns qn hdct sn sb ab col del =>
    subst own
    unfold Builtin.ObjectAttr.storeInOwnDict Builtin.ObjectAttr.ownDictForStores
    repeat (first
      | with_reducible refine HandSPX.store_in_new ?hn ?hs
      | with_reducible refine wpAny_loadPart_at hx ?_
      | with_reducible refine hcls.at ?_
      | wp_step)
    case hn =>
      refine ⟨_, #[], _, (Heap.get?_update_ne _ _ _ _ hxs.symm).trans (Heap.get?_push_at rfl rfl), rfl, fun e he => absurd he (by simp), fun _ => rfl⟩
    case hs =>
      intro h1 tk n1 same
      have laid : ∀ {b : Addr} {o : Obj}, b ≠ x → hp.get? b = some o → h1.get? b = some o := fun {b o} nb eb =>
        (same.2 b (Nat.ne_of_lt (Heap.lt_size eb))).trans ((Heap.get?_update_ne _ _ _ _ nb).trans (Heap.get?_push_of_some _ eb))
      refine hq h1 tk hp.objs.size (fun b o nb eb => laid nb eb) (Nat.le_refl _) hxs.symm ?_ n1
      exact (same.2 x hxs).trans (Heap.get?_update_self _ (Heap.get?_push_of_some { cls := .type "dict", data := .dict #[] } hx) rfl)
/-- what the text says of an error class at C, whose __init__ (the def st, at fI) keeps its argument as f -/
structure ErrC (prog : Program) (K : PySem.W.Frag) (st : Stmt) (qual slf v f : Str) (C fI : Addr) : Prop where
  q : excInitIn K C ESX.exTail "Exception.__new__" = true
  ov : excOver K C ESX.exTail = true
  iC : PySem.W.findIn K (.ref C) "__init__" = some (some (.ref fI))
  tI : PySem.W.typeIn K (.ref fI) = some (.type "function")
  df : ∃ oc od kV doc pm an cda ct cc osl, K.lookup fI = some ⟨oc, od, .func (ksFn "__init__" qual (defArgs st) (defBody st) (defScope st) .none kV doc pm an (.ref cda) ct cc), osl⟩ ∧ PySem.W.codeIn K (.ref cda) qual = true ∧
    (∃ ccl cdd vs ccs file tf, K.lookup cda = some ⟨ccl, cdd, .fields vs, ccs⟩ ∧ vs[2]? = some (.str file tf) ∧ ((prog.main.file : Str) == file) = true) ∧ ∃ cl cld csl, K.lookup cc = some ⟨cl, cld, .cell (some (.ref C)), csl⟩
  ps : (defArgs st).posonlyargs ++ (defArgs st).args ≠ [] ∧ ∀ a, ((defArgs st).posonlyargs ++ (defArgs st).args).head? = some a → a.arg = slf
  bd : ∀ (s : Shared) (kV doc pm : Value) (an : Option Addr) (cd ct : Value) (cc : Addr) (a b : Value), BindsTo s (ksFn "__init__" qual (defArgs st) (defBody st) (defScope st) .none kV doc pm an cd ct cc) ⟨[a, b], []⟩ [(slf, a), (v, b)]
  sc : IniS (defScope st) slf v
  ev : ∀ (L : Addr) (cd : Value) (cc : Addr), IniEv (ksEnv qual (defScope st) L fI cd cc) (defBody st) slf v f
  su : ks_superIn K C C "__init__" = some (some (.builtin "Exception.__init__"))
  zs : PySem.W.nsIn K mainGlobals "super" = some none
  tp : (prog.main.scope.names.lookup ("super" : Str)).isSome = false
  op : PySem.W.nsIn K cStatics "thirdparty.any" = some none
  sB : PySem.W.subIn K (.ref C) (.type "Exception") = some true
  sS : PySem.W.mroIn K C (.ref C) = some true
  sa : PySem.W.findIn K (.ref C) "__setattr__" = some (some (.builtin "object.__setattr__"))
  nf : PySem.W.findIn K (.ref C) f = some none
  kp : PySem.W.keepIn K (.ref C) = true
  ty : PySem.W.typeIn K (.ref C) = some (.type "type")
  xf : XfC K C
theorem err_init {s : Shared} {st : Stmt} {qual slf v f : Str} {C fI e t0 : Addr} {u : Value} (T : ErrC prog K st qual slf v f C fI) (Mo : L2.Mod K mg s.heap) (he : s.heap.get? e = some (HandSPX.excO C t0)) (hKe : K.lookup e = none) (hroom : A.depth < recursionLimit)
    (hq : ∀ h' tk dx t1, (∀ b o, b ≠ e → s.heap.get? b = some o → h'.get? b = some o) → s.heap.objs.size ≤ dx → dx ≠ e → h'.get? e = some { HandSPX.excO C t1 with dict := some dx } → h'.Ns1 dx (fun y => if y = f then some u else none) → R (.ok (.ret .none)) { s with heap := h', toks := tk }) :
    codeAny (model prog w) A (.call (.ref fI) ⟨[.ref e, u], []⟩) R s := by
  obtain ⟨oc, od, kV, doc, pm, an, cda, ct, cc, osl, lf, ci, ⟨ccl, cdd, vs, ccs, file, tf, lc, vf, hf⟩, cl, cld, csl, lcc⟩ := T.df
  obtain ⟨txt, j, p0, p1, p2, p3, p4, p5, p6, p7, p8, p9, pl, hb, hev, hsw, hsw2, hint, hstar⟩ := T.ev s.heap.objs.size (.ref cda) cc
  obtain ⟨nm, N, qn, bs, bm, hdct, sn, sub, ab, col, dd, k0, k1, k2, k3, k5, hC, hT⟩ := PySem.W.excInit_of Mo.kin T.q
  have S := T.sc
  refine ks_codeAny_call_defAt (body := defBody st) (binds := [(slf, .ref e), (v, u)]) hroom (Mo.kin _ _ lf) rfl Mo.nolimit (PySem.W.codeRec_of Mo.kin ci) rfl (T.bd s kV doc pm an (.ref cda) ct cc (.ref e) u) S.noc (fun y hy => ?_) (fun h0 ns0 kp0 => ?_) S.co S.gen S.kind
  · simp only [List.mem_cons, List.not_mem_nil, or_false] at hy
    rcases hy with rfl | rfl
    · exact S.ks
    · exact S.kv
  · have up : ∀ {h : Heap}, (∀ b o, h0.get? b = some o → h.get? b = some o) → ∀ b o, s.heap.get? b = some o → h.get? b = some o := fun k b o q => k b o (kp0 b o q)
    have kin0 : K.In h0 := Mo.kin.keeps kp0
    have hlt : e < s.heap.objs.size := Heap.lt_size he
    have eL : e ≠ s.heap.objs.size := Nat.ne_of_lt hlt
    obtain ⟨ar, har⟩ : ∃ ar, ((defArgs st).posonlyargs ++ (defArgs st).args).head? = some ar := by
      cases hl : (defArgs st).posonlyargs ++ (defArgs st).args with
      | nil => exact absurd hl T.ps.1
      | cons a r => exact ⟨a, rfl⟩
    have hself := T.ps.2 ar har
    have nsL : ∀ {h : Heap}, (∀ b o, h0.get? b = some o → h.get? b = some o) → h.Ns s.heap.objs.size (fun x => [(slf, Value.ref e), (v, u)].reverse.lookup x) := fun k => ns0.keeps k
    have mself : (fun x => [(slf, Value.ref e), (v, u)].reverse.lookup x) slf = some (.ref e) := by
      have ne : (slf == v) = false := by simpa using S.ne
      simp [List.lookup, ne]
    have mval : (fun x => [(slf, Value.ref e), (v, u)].reverse.lookup x) v = some u := by
      simp [List.lookup]
    show _root_.PySem.wpAt _ (A.deeper (ksEnv qual (defScope st) s.heap.objs.size fI (.ref cda) cc)) (.func (defBody st) (ksEnv qual (defScope st) s.heap.objs.size fI (.ref cda) cc)) (execs (defBody st) (ksEnv qual (defScope st) s.heap.objs.size fI (.ref cda) cc)) _ _ _
    rw [hb]
    obtain ⟨mb, nsb, hbb⟩ := Mo.blt
    refine ks_wpAt_execs_cons (ks_wpAt_Expr_any (ks_wpAt_MethodCall (pl := pl) ?_ hev) hint hsw)
    refine ks_wpAt_super_base (env := ksEnv qual (defScope st) s.heap.objs.size fI (.ref cda) cc) S.sup S.cls (by decide) rfl (kin0 _ _ lf) rfl har rfl (kin0 _ _ lc) rfl vf hf T.tp ?_
    refine PySem.W.ks_loadName_global S.kind S.sup (Calls.loadGlobal_builtin (Mo.glob.keeps kp0) (PySem.W.mg_none_of Mo.kin Mo.glob T.zs) (nsb.keeps kp0) ((hbb _ (by decide)).trans (by decide +kernel)) ⟨rfl, ?_⟩)
    refine wpAny_loadName_free S.kind S.cls rfl ⟨_, kin0 _ _ lcc, rfl⟩ ?_
    rw [hself]
    refine wpAny_loadName_local S.kind S.ks (nsL fun _ _ q => q) mself ?_
    refine ks_wpAny_isType_cls (kp0 _ _ hC) rfl ⟨rfl, ?_⟩
    refine ks_wpAny_call_super (kp0 _ _ hC) rfl (kp0 _ _ he) rfl (fun c z => by cases z) (PySem.W.looks_mroIn kin0 T.sS) (fun h1 so1 kp1 => ?_)
    have kin1 : K.In h1 := kin0.keeps kp1
    have eC : e ≠ C := fun z => by
      rw [z, hC] at he
      cases he
    have I1 : PySem.W.InstAt h1 e (HandSPX.excO C t0) C none := ⟨kp1 _ _ (kp0 _ _ he), rfl, rfl, trivial⟩
    cases hcl : PySem.W.clsIn K C with
    | none =>
      have z := T.su
      unfold ks_superIn at z
      rw [hcl] at z
      cases z
    | some cd =>
      have z := T.su
      unfold ks_superIn at z
      rw [hcl] at z
      refine ESX.getMethod_super so1 (PySem.W.looks_opaque kin1 T.op) (l₀ := cd.mro) ((PySem.W.looks_clsIn kin1 hcl).andThen .now) rfl kin1 z eC (by decide) (I1.type.andThen (PySem.W.looks_subIn kin1 T.sB)) ?_
      refine ESX.callWith_bound (x := e) ?_ hstar rfl
      rw [hstar]
      refine Calls.spliced_cons (Calls.Constant_str (k := j) (pos := p3) (Calls.spliced_nil ⟨Heap.get?_push_size _ rfl, ?_⟩))
      refine ESX.call_bw (e := e) (t0 := t0) (Heap.get?_push_of_some _ (kp1 _ _ (kp0 _ _ hC))) (Heap.get?_push_of_some _ (kp1 _ _ (kp0 _ _ he))) (Heap.get?_push_size _ rfl) (show 1 ≤ sizeLine by decide) (fun h2 t1 kp2 he2 => ?_)
      have kall : ∀ b o, b ≠ e → h0.get? b = some o → h2.get? b = some o := fun b o nb q => kp2 b o nb (Heap.get?_push_of_some _ (kp1 b o q))
      have kin2 : K.In h2 := fun b o q => kall b o (fun z => by
        rw [z, hKe] at q
        cases q) (kin0 b o q)
      have ns2 : h2.Ns s.heap.objs.size (fun x => [(slf, Value.ref e), (v, u)].reverse.lookup x) := by
        obtain ⟨oL, es, ep, hL, r⟩ := ns0
        exact ⟨oL, es, ep, kall _ _ (Ne.symm eL) hL, r⟩
      refine ks_wpAt_execs_cons (wpAt_of_wpAny (plainObj_wpAny_Assign_Attribute (wpAny_Name (wpAny_loadName_local S.kind S.kv ns2 mval (wpAny_Name (wpAny_loadName_local S.kind S.ks ns2 mself ?_) S.ds)) S.dv) hsw2))
      refine err_set kin2 he2 T.ov T.xf.hdC T.sa T.nf fun h3 tk dx kp3 dn de hx3 n3 => ?_
      refine wpAt_of_wpAny (wpAny_execs_nil ?_)
      have big : s.heap.objs.size ≤ h2.objs.size := by
        obtain ⟨oL, es, ep, hL, r⟩ := ns2
        exact Nat.le_of_lt (Heap.lt_size hL)
      exact hq h3 tk dx t1 (fun b o nb q => kp3 b o nb (kall b o nb (kp0 b o q))) (Nat.le_trans big dn) de hx3 n3
end
end DL
namespace DL
open PySem L2 PyProof.Rows
section
variable {k : Kx} {X : Cx} {E : XK}
theorem pmk_err {st : Stmt} {qual slf v f x : Str} {C fI : Addr} {a : Expr} {ta : TE} {p pos : Pos} {lvl : Nat} (T : ErrC X.prog X.K st qual slf v f C fI) (hr : Room (lvl + 1) X.A) (hg : Gl X x) (hm : X.mg x = some (.ref C)) (ha : PE X a ta)
    (hs : starEach [a] X.env = (false, eval a X.env) :: starEach [] X.env := by rfl) (hdb : (x == ("__debug__" : Str)) = false := by decide) :
    PMk X (.Call (.Name x p) [a] [] pos) (fun σ H Q => ta σ H fun y H1 => ∀ d, H1 d = none → Q (.ref C) (some d) (upd H1 d (.xd [(f, y)]))) := by
  intro pins s σ H Q I h
  refine wpAny_Call_Name_kw (ld_glob I hg hm ?_ hdb)
  refine PySem.W.callWith_K (h₀ := X.base) I.ok.mod.kin T.kp ?_ hs (by rfl)
  rw [hs]
  show wpAny _ _ (spliced ((false, eval a X.env) :: backTo pos (starEach [] X.env))) _ _ s
  refine Calls.spliced_cons (thn (ha.run pins s σ H _ I h) fun u s1 ⟨y, H1, I1, ry, q1⟩ => Calls.spliced_nil ⟨I1.kIn, ?_⟩)
  show wpAny _ _ (call (.ref C) [u]) _ _ _
  obtain ⟨nm, N, qn, bs, bm, hdct, sn, sub, ab, col, dd, k0, k1, k2, k3, k5, hC, hT⟩ := PySem.W.excInit_of I1.kIn T.q
  have Mo : L2.Mod X.K X.mg s1.heap := ⟨I1.kIn, I1.mod.glob.keeps I1.bk, let ⟨mb, b1, b2⟩ := I1.mod.blt; ⟨mb, b1.keeps I1.bk, b2⟩, I1.nolimit⟩
  obtain ⟨hp, g, dr, tk, os⟩ := s1
  have kk : ∀ b o, hp.get? b = some o → ((hp.push (PySem.W.kdv_tup [u])).push (HandSPX.excO C hp.objs.size)).get? b = some o := fun b o z => Heap.get?_push_of_some _ (Heap.get?_push_of_some _ z)
  have atE : ((hp.push (PySem.W.kdv_tup [u])).push (HandSPX.excO C hp.objs.size)).get? (hp.objs.size + 1) = some (HandSPX.excO C hp.objs.size) := by heap_get
  have Mo2 : L2.Mod X.K X.mg ((hp.push (PySem.W.kdv_tup [u])).push (HandSPX.excO C hp.objs.size)) := ⟨Mo.kin.keeps kk, Mo.glob.keeps kk, let ⟨mb, b1, b2⟩ := Mo.blt; ⟨mb, b1.keeps kk, b2⟩, Mo.nolimit.keeps kk⟩
  have noE : X.K.lookup (hp.objs.size + 1) = none := by
    cases z : X.K.lookup (hp.objs.size + 1) with
    | none => rfl
    | some o => exact absurd (Heap.lt_size (Mo.kin _ _ z)) (by show ¬ hp.objs.size + 1 < hp.objs.size; omega)
  refine wpAny_call (HandSPX.call_own F.excBase_Exception hT hC (PySem.W.looks_findIn I1.kIn T.iC) (fun slf => PySem.W.bind_fn I1.kIn slf T.tI) (show 1 ≤ sizeLine by decide) ?_)
  refine err_init T Mo2 atE noE (hr.make C [u] []).depth fun h2 tk2 dx t1 kp2 dn de he2 n2 => ?_
  refine ⟨rfl, ?_⟩
  obtain ⟨G, g1, g2⟩ := restrict h2 fun b => decide (b ≠ hp.objs.size + 1)
  have gk : ∀ {b : Addr}, b ≠ hp.objs.size + 1 → G.get? b = h2.get? b := fun {b} nb => g1 b (decide_eq_true nb)
  have low : ∀ {b : Addr} {o : Obj}, hp.get? b = some o → b ≠ hp.objs.size + 1 := fun {b o} z => Nat.ne_of_lt (Nat.lt_succ_of_lt (Heap.lt_size z))
  have dn2 : hp.objs.size ≤ dx := Nat.le_trans (by rw [Heap.size_push, Heap.size_push]; omega) dn
  have new : ObjOk X.prog X.w (upd H1 dx (.xd [(f, y)])) G dx (.xd [(f, y)]) := ⟨_, n2.at fun o z => (gk de).trans z, relO_put (fs := []) ry fun _ => True.intro⟩
  have J : Inv X pins σ (upd H1 dx (.xd [(f, y)])) ⟨G, g, dr, tk2, os⟩ := I1.laid (t' := tk2) (h' := G) (fun b o z => (gk (low z)).trans (kp2 b o (low z) (kk b o z))) dn2 new
  have hE : H1 (hp.objs.size + 1) = none := I1.hok.fresh (Nat.le_succ _)
  refine ⟨hp.objs.size + 1, _, _, ⟨G, g, dr, tk2, os⟩, upd H1 dx (.xd [(f, y)]), .ref C, some dx, rfl, J, fun b o z => ?_, g2 _ (by simp), he2, ⟨rfl, rfl⟩, rfl, rfl, ?_, rfl, I1.bare, raises_own T.xf.exC T.ty, q1 dx (I1.hok.fresh dn2)⟩
  · by_cases hb : b = hp.objs.size + 1
    · subst hb
      rw [g2 _ (by simp)] at z
      cases z
    · exact (gk hb).symm.trans z
  · rw [upd_ne (Ne.symm de)]
    exact hE
/-- raise C(a) -/
def sRaise (c : Nat) (a : DEnv → M D) : DEnv → M Out := fun e => do let x ← a e; M.exn c [x]
theorem js_raise {st : Stmt} {qual slf v f x : Str} {fI : Addr} {a : Expr} {ma : DEnv → M D} {p pos pos' : Pos} {lvl c : Nat} (T : ErrC X.prog X.K st qual slf v f (k.cl c) fI) (hf : k.xf c = [f]) (hc : X.calm = true) (tk : Takes X (fun cls d _ H => E cls d H)) (hr : Room (lvl + 1) X.A) (hg : Gl X x) (hm : X.mg x = some (.ref (k.cl c))) (ha : JE k X E a ma)
    (hs : starEach [a] X.env = (false, eval a X.env) :: starEach [] X.env := by rfl) (hdb : (x == ("__debug__" : Str)) = false := by decide) : JS k X E (.Raise (some (.Call (.Name x p) [a] [] pos)) none pos') (sRaise c ma) := by
  refine PS.imp (ps_raise hc tk (pmk_err T hr hg hm ha hs hdb)) fun Ds s H h => ?_
  obtain ⟨e, G, L, μ, sg, w, gd⟩ := h
  refine ⟨e, G, L, μ, sg, w, Good.mono (Good.bind gd) fun d1 m1 G1 H1 L1 st1 w1 q1 y r1 d hd => ?_⟩
  refine q1 _ _ _ d (w1.newS (o := .xd [(f, y)]) hd) (w1.new hd) ⟨[y], by rw [hf]; rfl, by rw [hf]; exact upd_same, ?_⟩
  exact RpA.mono (w1.newS (o := .xd [(f, y)]) hd).g (pre_refl L1) _ _ (.cons r1 .nil)
end
end DL
namespace DL
open PySem L2 PyProof.Rows
section
variable {X : Cx} {pins : List (Addr × Obj)}
/-- an error of the class cls, its dict d, has landed in X's frame: the state without it was sI, the ground is B -/
structure Landed (X : Cx) (pins : List (Addr × Obj)) (a : Addr) (cls : Value) (d : Option Addr) (B : Heap) (sI : Shared) (σ : L2.St) (H : Hp) (s : Shared) : Prop where
  inv : Inv X pins σ H sI
  nb : ∀ b o, sI.heap.get? b = some o → b ∉ frs X.stack → B.get? b = some o
  up : sI.heap.UpToSlots s.heap
  fl : HandSPX.FlyingZ B (X.env :: X.outer) a (Zc cls d) s.heap
  na : H a = none
  os : s.os = sI.os
  ag : AllBare s.gens
variable {a : Addr} {cls : Value} {d : Option Addr} {B : Heap} {sI s : Shared} {σ : L2.St} {H : Hp}
theorem Landed.here (c : Landed X pins a cls d B sI σ H s) : Inv X pins σ H s := by
  have j := c.inv.landed c.nb c.fl.1 c.up c.os c.ag
  exact j
theorem Landed.obj (c : Landed X pins a cls d B sI σ H s) (hf : X.env.frame = some X.env.locals) :
    ∃ oe vs, s.heap.get? a = some oe ∧ Zc cls d oe ∧ oe.data = .fields vs ∧ a ≠ X.env.locals ∧ a ∉ X.fs := by
  obtain ⟨oe, vs, h1, h2, h3⟩ := c.fl.there
  have off : a ∉ frs (X.env :: X.outer) := fun hm => by
    obtain ⟨_, o', e', no⟩ := c.fl.2.2.1.mem hm
    rw [h1] at e'
    cases e'
    exact no _ h3
  refine ⟨oe, vs, h1, h2, h3, fun z => ?_, fun hm => ?_⟩
  · exact off (List.mem_filterMap.mpr ⟨X.env, List.mem_cons_self, by rw [hf, z]⟩)
  · obtain ⟨en, he, q⟩ := List.mem_filterMap.mp hm
    exact off (List.mem_filterMap.mpr ⟨en, List.mem_cons_of_mem _ he, q⟩)
end
end DL
namespace DL
open PySem L2 PyProof.Rows
/-- what such a def promises -/
def FnG (P : Program) (w : World) (K : PySem.W.Frag) (mg : Str → Option Value) (base : Heap) (lvl : Nat) (f : Addr) (sp : Sp) : Prop :=
  ∀ (A : Around) (outer : List Env) (s : Shared) (H : Hp) (us : List Value) (vs : List V) (Q : VK) (E : XK), A.guards = some [] → Room lvl A → Env0 P w K mg base A outer s H → Vals vs us → sp vs H Q E →
    codeAny (model P w) A (.call (.ref f) ⟨us, []⟩) (CR (L2.CX P w) outer P w H s Q E) s
section
variable {P : Program} {w : World} {K : PySem.W.Frag} {mg : Str → Option Value} {base : Heap} {k : Kx}
theorem fng_ok {x qual : Str} {st : Stmt} {f : Addr} {fd : FuncData} {N ps : List Str} {lvl : Nat} {m : DEnv → M Out} {kV doc pm cdv ct oc : Value} {an od : Option Addr} {osl : Array (Option Value)} (S : FnScope N ps (defScope st)) (e : fd = PySem.W.fnOf x qual (defArgs st) (defBody st) (defScope st) .none kV doc pm an cdv ct)
    (lk : K.lookup f = some ⟨oc, od, .func fd, osl⟩) (hcd : PySem.W.codeIn K cdv qual = true) (hbi : Binds K fd ps [])
    (hb : ∀ (A : Around) (outer : List Env) (s : Shared) (H : Hp) (E : XK), A.guards = some [] → Room lvl (A.deeper (envOfC qual (defScope st) s.heap.objs.size f cdv)) → JB k (cxOf (L2.CX P w) P w K mg base N qual (defScope st) f cdv A outer s H E) E (defBody st) m) :
    FnG P w K mg base (lvl + 1) f (spD k K ps.length (fnD N.length m)) := by
  subst e
  intro A outer s H us vs Q E hg hr e0 r hsp
  obtain ⟨ds, G, L, μ, ra, hl, w0, gd⟩ := hsp
  have kin : K.In s.heap := e0.mod.kin.keeps fun b o e => (e0.bs b o e).1
  have hlv : vs.length = ps.length := by rw [ra.len, hl]
  have bind := hbi s us kin (by rw [List.append_nil, ← Paired.length r, hlv])
  rw [List.append_nil] at bind
  refine LamX.run_ofS lk hcd S hr e0 bind r hlv fun hr' => ⟨_, hb A outer s H E hg hr', ?_⟩
  have g1 := scope_good (X := cxOf (L2.CX P w) P w K mg base N qual (defScope st) f cdv A outer s H E) w0 gd
  refine ⟨startD N.length ds, G, L, μ, start_sg ra, w0, Good.mono (Good.bind g1) fun o m1 G1 H1 L1 st1 w1 q1 => ?_⟩
  cases o with
  | nx e => exact fun s1 _ => Good.ret q1 w1 _ .non
  | rt d => exact fun v rv => Good.ret q1 w1 v rv
  | bk e => exact False.elim q1
  | ct e => exact False.elim q1
variable {X : Cx} {E : XK}
end
end DL
namespace DL
open PySem L2 PyProof.Rows
end DL
namespace DL
open PySem L2 PyProof.Rows
end DL
namespace DL
open PySem L2 PyProof.Rows
end DL
namespace DL
open PySem L2 PyProof.Rows
abbrev tabO : Obj := { cls := .none, data := .fields #[] }
abbrev scrO (vs : List Value) : Obj := { cls := .type "list", data := .seq vs.toArray }
/-- sys.modules is there -/
def SysD (h : Heap) : Prop := ∃ mm, h.Ns sysModules mm
/-- what is tracked at the law's entry: the tables, and the script unless it stands in the text -/
def entryH (K : PySem.W.Frag) (ts : List Addr) (a : Addr) (vs : List Value) (ns : List Int) : Hp := fun b =>
  if b ∈ ts then some (.tbl #[]) else if b = a ∧ K.lookup a = none then some (.frz (scrO vs) (.lst (ns.map V.int))) else none
section
variable {P : Program} {w : World} {K : PySem.W.Frag} {mg mb : Str → Option Value} {ts : List Addr} {a : Addr} {vs : List Value} {ns : List Int} {h : Heap}
theorem entry_tab {b : Addr} (hb : b ∈ ts) : entryH K ts a vs ns b = some (.tbl #[]) := if_pos hb
theorem entry_off {b : Addr} (hb : b ∉ ts) (hn : b = a → K.lookup a ≠ none) : entryH K ts a vs ns b = none := by
  unfold entryH
  rw [if_neg hb, if_neg]
  exact fun z => hn z.1 z.2
/-- what is tracked, by its object -/
theorem entry_cases {b : Addr} {u : HO} (hT : ∀ b ∈ ts, h.get? b = some tabO) (ha : h.get? a = some (scrO vs)) (e : entryH K ts a vs ns b = some u) :
    (b ∈ ts ∧ u = .tbl #[] ∧ h.get? b = some tabO) ∨ (b = a ∧ b ∉ ts ∧ K.lookup a = none ∧ u = .frz (scrO vs) (.lst (ns.map V.int)) ∧ h.get? b = some (scrO vs)) := by
  unfold entryH at e
  by_cases hb : b ∈ ts
  · rw [if_pos hb] at e
    cases e
    exact .inl ⟨hb, rfl, hT b hb⟩
  · rw [if_neg hb] at e
    by_cases hc : b = a ∧ K.lookup a = none
    · rw [if_pos hc] at e
      cases e
      exact .inr ⟨hc.1, hb, hc.2, rfl, by rw [hc.1]; exact ha⟩
    · rw [if_neg hc] at e
      cases e
/-- any other object is not tracked -/
theorem entry_other {b : Addr} {o : Obj} (hT : ∀ b ∈ ts, h.get? b = some tabO) (ha : h.get? a = some (scrO vs)) (e : h.get? b = some o) (n1 : o.data ≠ .fields #[]) (n2 : ∀ xs n, o.data ≠ .seq xs n) : entryH K ts a vs ns b = none := by
  cases q : entryH K ts a vs ns b with
  | none => rfl
  | some u =>
    rcases entry_cases hT ha q with ⟨_, _, z⟩ | ⟨_, _, _, _, z⟩
    · rw [e] at z
      cases z
      exact absurd rfl n1
    · rw [e] at z
      cases z
      exact absurd rfl (n2 _ _)
theorem law_callG {s : Shared} {lvl : Nat} {fa : Addr} {cs : List (Addr × Addr)} {sp : Sp} (kin : K.In s.heap) (gl : s.heap.Ns mainGlobals mg) (bl : s.heap.Ns builtinsNs mb) (bb : ∀ x : Str, x ≠ "__name__" → mb x = bootBuiltins x) (lim : s.heap.NoLimit) (hsy : SysD s.heap) (hgen : s.gens = #[])
    (hT : ∀ p ∈ cs, s.heap.get? p.2 = some tabO) (nT : ∀ p ∈ cs, K.lookup p.2 = none) (cd : ∀ p ∈ cs, PySem.W.CodeHd s.heap p.1 p.2)
    (bmod : ∃ (bm : Addr) (ob : Obj), mg "__builtins__" = some (.ref bm) ∧ bm ≠ builtinsNs ∧ s.heap.get? bm = some ob ∧ ob.cls = .type "module" ∧ ob.dict = some builtinsNs ∧ ob.data = .plain)
    (ha : s.heap.get? a = some (scrO vs)) (hi : IntsAre vs ns) (hl : ns.length ≤ sizeLine) (hr : Room lvl callerA)
    (F : ∀ base : Heap, K.In base → base.Ns mainGlobals mg → SysD base → (∀ p ∈ cs, LamX.TabB base mg p.1 p.2) → FnG P w K mg base lvl fa sp)
    (hsp : ∀ H : Hp, (∀ p ∈ cs, H p.2 = some (.tbl #[])) → SqL K H a (ns.map V.int) → sp [.ref a] H (fun v _ => v = .bl true) fun _ _ _ => False) :
    codeAny (model P w) callerA (.call (.ref fa) ⟨[.ref a], []⟩) (fun r s' => r = .ok (.ret (.bool true)) ∧ OldK s.heap s'.heap ∧ s'.os = s.os ∧ AllBare s'.gens) s := by
  have rv := L2.vals_ints hi
  have hT' : ∀ b ∈ cs.map (·.2), s.heap.get? b = some tabO := fun b hb => by
    obtain ⟨p, hp, rfl⟩ := List.mem_map.mp hb
    exact hT p hp
  have inT : ∀ p ∈ cs, p.2 ∈ cs.map (·.2) := fun p hp => List.mem_map.mpr ⟨p, hp, rfl⟩
  have aT : a ∉ cs.map (·.2) := fun hb => by
    have z := hT' a hb
    rw [ha] at z
    cases z
  have other := fun {b : Addr} {o : Obj} (e : s.heap.get? b = some o) (n1 : o.data ≠ .fields #[]) (n2 : ∀ xs n, o.data ≠ .seq xs n) => entry_other (K := K) (ns := ns) hT' ha e n1 n2
  generalize hHd : entryH K (cs.map (·.2)) a vs ns = H at other
  have low : ∀ {b : Addr} {o : Obj}, s.heap.get? b = some o → o.data ≠ .fields #[] → (∀ xs n, o.data ≠ .seq xs n) → (hidT s.heap H).get? b = some o := fun {b o} e n1 n2 => hidT_get e (other e n1 n2)
  have nsb : ∀ {b : Addr} {m : Str → Option Value}, s.heap.Ns b m → (hidT s.heap H).Ns b m := fun {b m} z => by
    obtain ⟨o, es, ep, e, d, r⟩ := z
    exact ⟨o, es, ep, low e (fun q => by rw [d] at q; cases q) (fun xs n q => by rw [d] at q; cases q), d, r⟩
  have kb : K.In (hidT s.heap H) := fun b o e => hidT_get (kin b o e) (by
    rw [← hHd]
    refine entry_off (fun hb => ?_) (fun z hn => ?_)
    · obtain ⟨p, hp, rfl⟩ := List.mem_map.mp hb
      rw [nT p hp] at e
      cases e
    · rw [z, hn] at e
      cases e)
  have mo : L2.Mod K mg (hidT s.heap H) := ⟨kb, nsb gl, ⟨mb, nsb bl, bb⟩, let ⟨mc, z1, z2⟩ := lim; ⟨mc, nsb z1, z2⟩⟩
  have tabs : ∀ p ∈ cs, LamX.TabB (hidT s.heap H) mg p.1 p.2 := fun p hp => by
    refine ⟨?_, ?_, fun z => ?_⟩
    · obtain ⟨o, us, file, tf, fl, tg, inF, tx, tt, e, r1, r2, r3, rest⟩ := cd p hp
      refine ⟨o, us, file, tf, fl, tg, inF, tx, tt, low e (fun q => ?_) (fun xs n q => ?_), r1, r2, r3, rest⟩
      · rw [r2] at q
        cases q
        simp at r3
      · rw [r2] at q
        cases q
    · obtain ⟨bm, ob, b1, b2, b3, b4, b5, b6⟩ := bmod
      refine ⟨bm, ob, b1, b2, fun q => ?_, fun q => ?_, low b3 (fun q => by rw [b6] at q; cases q) (fun xs n q => by rw [b6] at q; cases q), b4, b5, b6⟩
      · obtain ⟨o, es, ep, e, d, _⟩ := gl
        rw [q, e] at b3
        cases b3
        rw [d] at b6
        cases b6
      · rw [q, hT p hp] at b3
        cases b3
        cases b6
    · obtain ⟨o, es, ep, e, d, _⟩ := gl
      rw [z, hT p hp] at e
      cases e
      cases d
  have hok : HOk P w H s.heap := fun b u e => by
    rw [← hHd] at e
    rcases entry_cases hT' ha e with ⟨_, rfl, z⟩ | ⟨_, _, _, rfl, z⟩
    · exact z
    · exact ⟨z, by rw [List.length_map]; exact hl, vs, _, rv, z⟩
  have seq : SqL K H a (ns.map V.int) := by
    cases hk : K.lookup a with
    | none =>
      refine .inl (.inr ⟨scrO vs, ?_⟩)
      rw [← hHd]
      unfold entryH
      rw [if_neg aT, if_pos ⟨rfl, hk⟩]
    | some o =>
      have z := kin a o hk
      rw [ha] at z
      cases z
      exact .inr ⟨_, vs.toArray, _, hk, rfl, rfl, rfl, by rw [List.size_toArray, hi.length]; exact hl, by simpa using rv⟩
  have tracked : ∀ p ∈ cs, H p.2 = some (.tbl #[]) := fun p hp => by
    rw [← hHd]
    exact entry_tab (inT p hp)
  have env : Env0 P w K mg (hidT s.heap H) callerA [] s H := ⟨rfl, mo, fun b o e => of_hidT e, Nat.le_of_eq (hidT_size _ _), trivial, fun b hb => absurd (show b ∈ ([] : List Addr) from hb) (by simp), hok, .of_eq hgen⟩
  refine codeAny_mono (F _ kb (nsb gl) (let ⟨mm, z⟩ := hsy; ⟨mm, nsb z⟩) tabs callerA [] s H [.ref a] [.ref a] _ _ rfl hr env (.cons rfl .nil) (hsp H tracked seq)) fun r s' z => ?_
  cases r with
  | error e => exact (cx_no z).elim
  | ok fl =>
    cases fl with
    | next => exact False.elim z
    | brk => exact False.elim z
    | cont => exact False.elim z
    | ret u =>
      obtain ⟨v, H', os, bare, un, hok', rv', q⟩ := z
      have q' : v = .bl true := q
      subst q'
      obtain rfl : u = Value.bool true := rv'
      have kept : ∀ b o, b ∉ cs.map (·.2) → s.heap.get? b = some o → s'.heap.get? b = some o := fun b o nb e => by
        cases hb : H b with
        | none => exact un.keep b o e hb (fun z => absurd (show b ∈ ([] : List Addr) from z) (by simp)) (by simp)
        | some u =>
          rw [← hHd] at hb
          rcases entry_cases hT' ha hb with ⟨z, _, _⟩ | ⟨_, _, _, rfl, z⟩
          · exact absurd z nb
          · rw [hHd] at hb
            have z2 := hok' b _ (un.frzs b _ _ hb)
            rw [e] at z
            cases z
            exact z2.1
      have grown : ∀ p ∈ cs, ∃ more : Array Value, s'.heap.get? p.2 = some { cls := .none, data := .fields more } := fun p hp => by
        obtain ⟨more, z⟩ := un.tbls p.2 #[] (tracked p hp)
        exact ⟨_, hok' p.2 _ z⟩
      refine ⟨rfl, ⟨fun b o e => ?_, fun b o e => ?_⟩, os, bare⟩
      · by_cases hb : b ∈ cs.map (·.2)
        · obtain ⟨p, hp, rfl⟩ := List.mem_map.mp hb
          obtain ⟨more, hm⟩ := grown p hp
          rw [hT p hp] at e
          cases e
          refine .inr (.inl ⟨((cd p hp).tab (hT p hp)).isCodeTable, rfl, #[], more, rfl, ?_⟩)
          rw [Array.empty_append]
          exact hm
        · exact .inl (kept b o hb e)
      · by_cases hb : b ∈ cs.map (·.2)
        · obtain ⟨p, hp, rfl⟩ := List.mem_map.mp hb
          obtain ⟨more, hm⟩ := grown p hp
          exact ⟨_, hm⟩
        · exact ⟨o, kept b o hb e⟩
end
end DL
namespace DL
open PySem L2 PyProof.Rows
section
variable {P : Program} {w : World} {K : PySem.W.Frag} {mg : Str → Option Value} {base : Heap} {k : Kx}
theorem fng_any {x qual : Str} {st : Stmt} {f : Addr} {N ps : List Str} {lvl : Nat} {m : DEnv → M Out} (F : FA K x qual st ps f) (S : FnScope N ps (defScope st))
    (hb : ∀ (cdv : Value) (A : Around) (outer : List Env) (s : Shared) (H : Hp) (E : XK), A.guards = some [] → Room lvl (A.deeper (envOfC qual (defScope st) s.heap.objs.size f cdv)) → JB k (cxOf (L2.CX P w) P w K mg base N qual (defScope st) f cdv A outer s H E) E (defBody st) m) :
    FnG P w K mg base (lvl + 1) f (spD k K ps.length (fnD N.length m)) := by
  obtain ⟨fd, ⟨⟨oc, od, kV, doc, pm, an, cdv, ct, osl, e, lk, hcd⟩, _⟩, b⟩ := F.ex
  exact fng_ok S e lk hcd b fun A outer s H E hg hr => hb cdv A outer s H E hg hr
theorem FnG.imp {lvl : Nat} {f : Addr} {sp sp' : Sp} (F : FnG P w K mg base lvl f sp) (h : ∀ vs H Q E, sp' vs H Q E → sp vs H Q E) : FnG P w K mg base lvl f sp' := fun A outer s H us vs Q E hg hr e0 r z => F A outer s H us vs Q E hg hr e0 r (h _ _ _ _ z)
end
theorem sysD_of {h : Heap} (x : h.NoSeer) : SysD h := let ⟨mm, z, _⟩ := x.mods; ⟨mm, z⟩
end DL
namespace DL
open PySem L2 PyProof.Rows
section
variable {P : Program} {w : World} {K : PySem.W.Frag} {mg : Str → Option Value} {base : Heap} {k : Kx}
theorem take_def {N : List Str} {qual : Str} {sc : Scope} {f : Addr} {cdv : Value} {A : Around} {outer : List Env} {s : Shared} {H : Hp} {E : XK} : Takes (cxOf (L2.CX P w) P w K mg base N qual sc f cdv A outer s H E) (fun cls d _ H => E cls d H) := takes_of rfl rfl rfl rfl
end
end DL
namespace DL
open PySem L2 PyProof.Rows
def cutD (xs : List D) (lo hi : Option Int) : List D := (xs.drop (HT.sIx xs.length 0 lo)).take (HT.sIx xs.length xs.length hi - HT.sIx xs.length 0 lo)
def sliceD (d : D) (lo hi : Option Int) : M D := match d with
  | .str z => if z.length ≤ 100000 then pure (.str (cutS z lo hi)) else M.bad
  | .tup ds => pure (.tup (cutD ds lo hi))
  | d => do let ds ← seqD d; pure (.lst (cutD ds lo hi))
def pNone : DEnv → M (Option Int) := fun _ => pure none
def pSome (a : DEnv → M D) : DEnv → M (Option Int) := fun e => do
  let x ← a e
  match x with
    | .int i => pure (some i)
    | _ => M.bad
def eSlice (a : DEnv → M D) (lo hi : DEnv → M (Option Int)) : DEnv → M D := fun e => do let x ← a e; let l ← lo e; let h ← hi e; sliceD x l h
section
variable {k : Kx} {X : Cx} {E : XK}
def dO (k : Kx) (K : PySem.W.Frag) (E : XK) (m : DEnv → M (Option Int)) : TO := fun s H Q => ∃ e G L μ, Sg k K G L s e ∧ Wd k K G H L μ ∧ Good k K E G H L (m e μ) fun o _ _ H' _ => Q o H'
abbrev JO (k : Kx) (X : Cx) (E : XK) (e : Option Expr) (m : DEnv → M (Option Int)) : Prop := PO X e (dO k X.K E m)
theorem PO.imp {e : Option Expr} {t t' : TO} (h : PO X e t) (i : ∀ s H Q, t' s H Q → t s H Q) : PO X e t' := ⟨fun pins s σ H Q I q => h.run pins s σ H Q I (i σ H Q q)⟩
theorem jo_none : JO k X E none pNone := PO.imp po_none fun s H Q h => by
  obtain ⟨e, G, L, μ, sg, w, gd⟩ := h
  exact Good.ret gd w
theorem jo_some {a : Expr} {ma : DEnv → M D} (h : JE k X E a ma) : JO k X E (some a) (pSome ma) := PO.imp (po_some h) fun s H Q h => by
  obtain ⟨e, G, L, μ, sg, w, gd⟩ := h
  refine ⟨e, G, L, μ, sg, w, Good.mono (Good.bind gd) fun d1 m1 G1 H1 L1 st1 w1 q1 x r1 => ?_⟩
  cases d1 with
  | int i => cases r1; exact ⟨i, rfl, Good.ret q1 w1⟩
  | _ => exact False.elim q1
theorem cut_rp {G : Hp} {L : Lam} {vs : List V} {ds : List D} (r : RpA k X.K G L vs ds) (lo hi : Option Int) : RpA k X.K G L (cutV vs lo hi) (cutD ds lo hi) := by
  unfold cutV cutD
  rw [r.len]
  exact (r.drop _).take _
theorem cut_whole {ds : List D} {lo hi : Option Int} (h : HT.sIx ds.length 0 lo = 0 ∧ HT.sIx ds.length ds.length hi = ds.length) : cutD ds lo hi = ds := by
  unfold cutD
  rw [h.1, h.2]
  simp
theorem j_slice {a : Expr} {ma : DEnv → M D} {lo hi : Option Expr} {ml mh : DEnv → M (Option Int)} {pos p2 : Pos} (ha : JE k X E a ma) (hl : JO k X E lo ml) (hh : JO k X E hi mh) : JE k X E (.Subscript a (.Slice lo hi none p2) pos) (eSlice ma ml mh) := by
  refine PE.imp (pe_slice (SlR.or sl_str (SlR.or sl_tupA sl_list)) ha hl hh) fun s H Q h => ?_
  obtain ⟨e, G, L, μ, sg, w, gd⟩ := h
  refine ⟨e, G, L, μ, sg, w, Good.mono (Good.bind gd) fun d1 m1 G1 H1 L1 st1 w1 q1 x r1 => ?_⟩
  have sg1 := sg.mono st1.g st1.l
  refine ⟨e, G1, L1, m1, sg1, w1, Good.mono (Good.bind q1) fun o1 m2 G2 H2 L2 st2 w2 q2 => ?_⟩
  refine ⟨e, G2, L2, m2, sg1.mono st2.g st2.l, w2, Good.mono (Good.bind q2) fun o2 m3 G3 H3 L3 st3 w3 q3 => ?_⟩
  have r3 := Rp.mono st3.g st3.l _ _ (Rp.mono st2.g st2.l _ _ r1)
  have seq : ∀ (ne : ∀ t, d1 ≠ .tup t) (q : Good k X.K E G3 H3 L3 ((do let ds ← seqD d1; pure (D.lst (cutD ds o1 o2))) m3) (QV k X.K Q)), rSlS x o1 o2 H3 Q ∨ rSlA X.K x o1 o2 H3 Q ∨ rSlL X.K x o1 o2 H3 Q := fun ne q => by
    obtain ⟨a, vs, ds, rfl, ra, hs | hs, g⟩ := seq_of r3 w3 q
    · refine .inr (.inr ⟨a, vs, rfl, hs.1, fun p hp => ?_⟩)
      exact g _ _ _ (w3.newS hp) (w3.new hp) _ (.lst (SqL.of upd_same) (RpA.mono (w3.newS (o := .lst (cutV vs o1 o2)) hp).g (pre_refl L3) _ _ (cut_rp ra o1 o2)))
    · exact absurd hs.2 (ne ds)
  cases d1 with
  | str z =>
    cases r3
    obtain ⟨hz, g⟩ := good_ite q3
    exact .inl ⟨z, rfl, size_of hz, Good.ret g w3 _ (.str _)⟩
  | tup ds =>
    cases r3 with
    | @tup a vs _ hs ha =>
      refine .inr (.inl ⟨a, vs, rfl, sqT_mono w3.ext hs, fun hw => ?_, fun _ p hp => ?_⟩)
      · have q := Good.ret q3 w3
        rw [ha.len] at hw
        rw [cut_whole hw] at q
        exact q _ (.tup hs ha)
      · exact q3 _ _ _ (w3.newS hp) (w3.new hp) _ (.tup (SqT.of upd_same) (RpA.mono (w3.newS (o := .tup (cutV vs o1 o2)) hp).g (pre_refl L3) _ _ (cut_rp ha o1 o2)))
  | lst ds => exact seq (fun _ z => nomatch z) q3
  | loc n => exact seq (fun _ z => nomatch z) q3
  | _ => exact False.elim q3
end
end DL
namespace DL
open PySem L2 PyProof.Rows
def keyD : D → Option Key
  | .int i => some (.inl i)
  | .str x => some (.inr x)
  | _ => none
end DL
namespace DL
open PySem L2 PyProof.Rows
end DL
namespace DL
open PySem L2 PyProof.Rows
section
variable {P : Program} {w : World} {A : Around} {E : Value → Shared → Prop}
abbrev setObj (w : World) : Obj := { cls := .type "set", dict := none, data := .set #[] 0 (.fresh 0 0 (!w.params.followText "set-order")) }
end
section
variable {k : Kx} {X : Cx} {E : XK}
theorem rpA_ints {G : Hp} {L : Lam} : ∀ ns : List Int, RpA k X.K G L (ns.map V.int) (ns.map D.int)
  | [] => .nil
  | n :: r => .cons (.int n) (rpA_ints r)
end
end DL
namespace DL
open PySem L2 PyProof.Rows
open AutoSeq1 (wpAny_loadPart')
def kqN : Bool → String
  | true => "list"
  | false => "tuple"
theorem KQ.ob {b : Bool} {h : Heap} {a : Addr} {xs : Array Value} (x : KQ b h a xs) : ∃ o, h.get? a = some o ∧ o.cls = .type (kqN b) ∧ ∃ n, o.data = .seq xs n := by
  cases b
  · obtain ⟨o, e, c, n, d⟩ := x
    exact ⟨o, e, c, n, d⟩
  · obtain ⟨o, e, c, n, d⟩ := x
    exact ⟨o, e, c, n, d⟩
end DL
namespace DL
open PySem L2
section
variable {α β : Type}
@[simp] theorem thn_exn (c : Nat) (fs : List D) (m : Store) (f : α → Store → Res β) : (Res.exn c fs m : Res α).thn f = .exn c fs m := (rfl)
@[simp] theorem exn_ap (c : Nat) (fs : List D) (m : Store) : (M.exn c fs : M α) m = .exn c fs m := (rfl)
end
variable (e : DEnv) (m : Store)
@[simp] theorem sRaise_ap (c : Nat) (a : DEnv → M D) : sRaise c a e m = (a e m).thn fun x m1 => .exn c [x] m1 := by simp [sRaise]
@[simp] theorem pNone_ap : pNone e m = .ok none m := (rfl)
theorem pSome_int {a : DEnv → M D} {i : Int} {m1 : Store} (h : a e m = .ok (.int i) m1) : pSome a e m = .ok (some i) m1 := by simp [pSome, h]
@[simp] theorem eSlice_ap (a : DEnv → M D) (lo hi : DEnv → M (Option Int)) : eSlice a lo hi e m = (a e m).thn fun x m1 => (lo e m1).thn fun l m2 => (hi e m2).thn fun h m3 => sliceD x l h m3 := by simp [eSlice]
@[simp] theorem slice_tup (ds : List D) (lo hi : Option Int) : sliceD (.tup ds) lo hi m = .ok (.tup (cutD ds lo hi)) m := (rfl)
@[simp] theorem slice_lst (ds : List D) (lo hi : Option Int) : sliceD (.lst ds) lo hi m = .ok (.lst (cutD ds lo hi)) m := (rfl)
theorem cut_from (ds : List D) (n : Nat) : cutD ds (some (n : Int)) none = ds.drop n := by
  unfold cutD
  rw [HT.sIx_nat]
  show (ds.drop (min n ds.length)).take (ds.length - min n ds.length) = _
  by_cases h : n ≤ ds.length
  · rw [Nat.min_eq_left h, List.take_of_length_le (by simp)]
  · have h' : ds.length ≤ n := by omega
    rw [Nat.min_eq_right h', List.drop_length, List.drop_eq_nil_of_le h']
    simp
@[simp] theorem isi_non (cs : List Nat) (t : Ty) : isiD cs t .non m = .ok (.bl (isK t .non)) m := (rfl)
@[simp] theorem isi_str (cs : List Nat) (t : Ty) (x : Str) : isiD cs t (.str x) m = .ok (.bl (isK t .str)) m := (rfl)
@[simp] theorem isi_dct (cs : List Nat) (t : Ty) (ks : List Key) (x : List D) : isiD cs t (.dct ks x) m = .ok (.bl (isK t .dct)) m := (rfl)
theorem ne_self {d : D} {x : PyData} (h : topPD d m = some x) (hs : SeqAt.shaped x = true) : neD d d m = .ok (.bl false) m := by
  simp [neD, onPD, h, hs, SeqAt.eqv_refl x (SeqAt.canLay_of_shaped hs)]
@[simp] theorem eMeth_ap (tab : MTab) (o : DEnv → M D) (as : DEnv → M (List D)) : eMeth tab o as e m = (o e m).thn fun x m1 => (clsM x m1).thn fun c m2 => (methOf tab c m2).thn fun q m3 => (as e m3).thn fun ds m4 => callN q.1 q.2 (x :: ds) m4 := by simp [eMeth]
@[simp] theorem clsM_obj (c : Nat) (ds : List D) : clsM (.obj c ds) m = .ok c m := (rfl)
@[simp] theorem methOf_hd (c : Nat) (q : Nat × (List D → M D)) (tab : MTab) : methOf ((c, q) :: tab) c m = .ok q m := by simp [methOf, List.lookup]
theorem compL_flt {α : Type} {src : List D} {g : D → DEnv → M DEnv} {t : DEnv → M Bool} {elt : DEnv → M D} {e : DEnv} {m : Store} {h f : α → D} {p : α → Bool} : ∀ (xs : List α), (∀ x ∈ xs, ∃ e1, g (h x) e m = .ok e1 m ∧ t e1 m = .ok (p x) m ∧ (p x = true → elt e1 m = .ok (f x) m)) →
    compL ⟨src, []⟩ g t elt e (xs.map h) m = .ok ((xs.filter p).map f) m
  | [], _ => by simp [compL]
  | d :: ds, q => by
    obtain ⟨e1, h1, h2, h3⟩ := q d (by simp)
    have ih := compL_flt (src := src) (g := g) (t := t) (elt := elt) (e := e) (m := m) (h := h) (f := f) (p := p) ds fun x hx => q x (by simp [hx])
    cases hp : p d with
    | true => simp [compL, noX, h1, h2, h3 hp, ih, hp]
    | false => simp [compL, noX, h1, h2, ih, hp]
theorem eComp_flt {α : Type} {it : DEnv → M Src} {g : D → DEnv → M DEnv} {t : DEnv → M Bool} {elt : DEnv → M D} {vs : List Nat} {e : DEnv} {m : Store} {xs : List α} {h f : α → D} {p : α → Bool} (hi : it e m = .ok ⟨xs.map h, []⟩ m) (hl : xs.length ≤ 100000)
    (q : ∀ x ∈ xs, ∃ e1, g (h x) (wipeD e vs) m = .ok e1 m ∧ t e1 m = .ok (p x) m ∧ (p x = true → elt e1 m = .ok (f x) m)) : eComp it g t elt vs e m = .ok (.lst ((xs.filter p).map f)) m := by
  simp [eComp, compM, hi, sizeOk, hl, compL_flt xs q]
end DL
namespace DL
open PySem L2 PyProof.Rows
section
variable {k : Kx} {X : Cx} {E : XK}
def gSlot (K : PySem.W.Frag) (ta : TE) (f : Str) : TG := fun v σ H Q => ta σ H fun x H1 => ∃ a C dx p vs i, x = .ref a ∧ SlX.Slt H1 a C dx vs ∧ SlX.SCls K C ∧ SlX.Slot1 K C f p i ∧ Q σ (SlX.slH H1 a C dx (SlX.putS i v vs))
theorem pg_slot {o : Expr} {ta : TE} {f : Str} {pos : Pos} (ho : PE X o ta) (ha : ∀ v, assign (.Attribute o f pos) X.env v = (do
      let ov ← holding [v] (eval o X.env)
      standAt pos.atName
      holding [v, ov] (setAttr ov f v)
      release [v, ov] []) := by intro _; rfl) : PG X (.Attribute o f pos) (gSlot X.K ta f) := by
  refine ⟨fun pins s σ H v u Q I r h => ?_⟩
  rw [ha]
  refine wpAny_bind (wpAny_holding (thn (ho.run pins s σ H _ I h) fun ov s1 ⟨x, H1, I1, r1, a, C, dx, p, vs, i, ex, hsl, c, t, q⟩ => ?_))
  subst ex
  obtain rfl : ov = Value.ref a := r1
  refine wpAny_bind (wpAny_standAt (wpAny_bind (wpAny_holding (SlX.setslot_ok I1 hsl c t r fun s3 I3 => ?_))))
  exact wpAny_release ⟨σ, _, I3, q⟩
def gAt (tab : List (Nat × Nat)) (mo : DEnv → M D) : D → DEnv → M DEnv := fun d e => do let y ← mo e; setAtT tab y d; pure e
theorem jg_attr {o : Expr} {mo : DEnv → M D} {f : Str} {pos : Pos} {tab : List (Nat × Nat)} (F : SlAll k X f tab) (ho : JE k X E o mo) (ha : ∀ v, assign (.Attribute o f pos) X.env v = (do
      let ov ← holding [v] (eval o X.env)
      standAt pos.atName
      holding [v, ov] (setAttr ov f v)
      release [v, ov] []) := by intro _; rfl) : JG k X E (.Attribute o f pos) [] (gAt tab mo) := by
  refine PG.imp (pg_slot ho ha) fun v s H Q h => ?_
  obtain ⟨d, e, G, L, μ, sg, r, w, gd⟩ := h
  refine ⟨e, G, L, μ, sg, w, Good.mono (Good.bind gd) fun d2 m2 G2 H2 L2 st2 w2 q2 x2 r2 => ?_⟩
  have sg2 := sg.mono st2.g st2.l
  obtain ⟨a, c, dx, vs, i, m', rfl, ht, hsl, st3, w3, q3⟩ := setAt_good r2 (Rp.mono st2.g st2.l _ _ r) w2 q2
  obtain ⟨sc, p, sp⟩ := slAll_of F ht
  exact ⟨a, k.cl c, dx, p, vs, i, rfl, hsl, sc, sp, Good.up q3 st3 _ _ _ (Stp.refl _ _ _) w3 _ (sg2.mono st3.g st3.l) ⟨rfl, fun _ _ => rfl⟩⟩
end
end DL
namespace DL
open PySem L2 PyProof.Rows
end DL
namespace DL
open PySem L2 PyProof.Rows
theorem u1 {u c : Nat} (h : u + 64 < c) : u + 1 < c := by omega
def dGetD (ks : List Key) (ds : List D) (x : Key) : Option D := ((ks.zip ds).find? fun p => decide (p.1 = x)).map (·.2)
section
variable {k : Kx} {X : Cx} {E : XK}
def dctD (o i : D) : M (Option D) := fun m => match o with
  | .loc n => match m[n]?, keyD i with
    | some (some (.dct ks ds)), some x => .ok (dGetD ks ds x) m
    | _, _ => .bad
  | .fdc ks ds => match keyD i with
    | some x => .ok (dGetD ks ds x) m
    | _ => .bad
  | _ => .bad
/-- y in d -/
def inK (y x : D) : M D := do let r ← dctD x y; pure (.bl r.isSome)
end
end DL
namespace DL
open PySem L2 PyProof.Rows
theorem lookup_relabel {env : Env} : ∀ {names : List (Str × NameKind)} {x : Str}, names.lookup x = some .cell ∨ names.lookup x = some .free →
    (names.map fun (n, k) => if (k == NameKind.free && env.scope.kind == .function && env.kindOf n == some .cell) then (n, NameKind.cell) else (n, k)).lookup x = some .cell ∨
    (names.map fun (n, k) => if (k == NameKind.free && env.scope.kind == .function && env.kindOf n == some .cell) then (n, NameKind.cell) else (n, k)).lookup x = some .free
  | [], _, h => by simp at h
  | (n, k) :: r, x, h => by
    have ih := @lookup_relabel env r x
    rw [List.map_cons]
    dsimp only
    by_cases hc : (k == NameKind.free && env.scope.kind == .function && env.kindOf n == some .cell) = true
    · rw [if_pos hc]
      cases hx : x == n with
      | true => left; simp only [List.lookup_cons, hx]
      | false =>
        simp only [List.lookup_cons, hx] at h ⊢
        exact ih h
    · rw [if_neg hc]
      cases hx : x == n with
      | true =>
        simp only [List.lookup_cons, hx] at h ⊢
        exact h
      | false =>
        simp only [List.lookup_cons, hx] at h ⊢
        exact ih h
theorem blkOk_nest {N : List Str} {sc scope : Scope} {env : Env} {own : List (Str × Nat)} (h : blkC N sc scope own = true) : BlkOk N (relabel sc env) scope own := by
  obtain ⟨h1, h2, h3, h4, h5⟩ := blkOk_by h
  exact ⟨h1, h2, h3, fun y hy e => lookup_relabel (h4 y hy e), h5⟩
end DL
namespace DL
open PySem L2 PyProof.Rows
theorem ok_app {a b : Str} (ha : PyData.strOk a = true) (hb : PyData.strOk b = true) : PyData.strOk (a ++ b) = true := by
  unfold PyData.strOk at *
  rw [Str.cps_append]
  simp only [Array.all_append, ha, hb, Bool.and_self]
theorem ok_ofString (s : String) : PyData.strOk (Str.ofString s) = true := by
  unfold PyData.strOk
  rw [Str.ofString_eq_toList]
  simp only [Array.all_eq_true, List.getElem_toArray, List.getElem_map, decide_eq_true_eq]
  intro i hi
  have hv := (s.toList[i]'(by simpa using hi)).valid
  generalize s.toList[i]'(by simpa using hi) = c at hv
  rcases hv with h | h
  · have : c.toNat < 0xd800 := h
    show c.toNat < 0x110000
    omega
  · exact h.2
theorem len_ofString (s : String) : (Str.ofString s).length = s.toList.length := by
  rw [Str.ofString_eq_toList]
  simp [Str.length]
theorem nat_text {n k : Nat} (hk : 0 < k) (h : n < 10 ^ k) : (toString n).toList.length ≤ k := by
  show (Nat.repr n).toList.length ≤ k
  rw [Nat.toList_repr]
  exact (Nat.length_toDigits_le_iff (by decide) hk).mpr h
/-- how long an int's text is -/
theorem int_text {i : Int} {k : Nat} (hk : 0 < k) (h : i.natAbs < 10 ^ k) : (PyData.int i).shown.length ≤ k + 1 ∧ PyData.strOk (PyData.int i).shown = true := by
  have e : (PyData.int i).shown = Str.ofString (toString i) := by rw [PyData.shown]
  rw [e]
  refine ⟨?_, ok_ofString _⟩
  rw [len_ofString]
  cases i with
  | ofNat n =>
    have h1 : n < 10 ^ k := by simpa using h
    have h2 : (toString (Int.ofNat n)).toList = (toString n).toList := rfl
    rw [h2]
    have := nat_text hk h1
    omega
  | negSucc n =>
    have h1 : n + 1 < 10 ^ k := by simpa using h
    have h2 : (toString (Int.negSucc n)) = "-" ++ toString (n + 1) := rfl
    rw [h2, String.toList_append, List.length_append]
    have := nat_text hk h1
    have e1 : ("-" : String).toList.length = 1 := rfl
    omega
theorem log2_lt {n k : Nat} (h : n < 2 ^ k) (hk : 0 < k) : n.log2 < k := by
  by_cases h0 : n = 0
  · subst h0
    simpa using hk
  · exact (Nat.log2_lt h0).mpr h
mutual
/-- plain data -/
def pln : D → Bool
  | .non => true
  | .bl _ => true
  | .int i => decide (i.natAbs < 10 ^ 30)
  | .str s => PyData.strOk s && (PyData.strOk (reprText s) && decide ((reprText s).length ≤ 40))
  | .lst ds => plnL ds
  | .tup ds => plnL ds
  | _ => false
def plnL : List D → Bool
  | [] => true
  | d :: ds => pln d && plnL ds
end
mutual
/-- a bound for the text's length -/
def wdD : D → Nat
  | .lst ds => 4 + wdL ds
  | .tup ds => 4 + wdL ds
  | _ => 40
def wdL : List D → Nat
  | [] => 0
  | d :: ds => wdD d + 2 + wdL ds
end
mutual
def dpD : D → Nat
  | .lst ds => dpL ds + 1
  | .tup ds => dpL ds + 1
  | _ => 0
def dpL : List D → Nat
  | [] => 0
  | d :: ds => max (dpD d) (dpL ds)
end
theorem join_len : ∀ ts : List Str, (∀ t ∈ ts, PyData.strOk t = true) → (Str.join ", " ts).length ≤ (ts.map fun t => t.length + 2).sum ∧ PyData.strOk (Str.join ", " ts) = true
  | [], _ => ⟨by decide +kernel, by decide +kernel⟩
  | [x], h => by
    refine ⟨?_, h x (by simp)⟩
    show x.length ≤ _
    simp
  | x :: y :: r, h => by
    obtain ⟨h3, h4⟩ := join_len (y :: r) fun t ht => h t (by simp [List.mem_cons.mp ht])
    have e : Str.join ", " (x :: y :: r) = x ++ ", " ++ Str.join ", " (y :: r) := rfl
    rw [e]
    refine ⟨?_, ok_app (ok_app (h x (by simp)) (by decide +kernel)) h4⟩
    rw [Str.length_append, Str.length_append]
    have : (", " : Str).length = 2 := by decide
    simp only [List.map_cons, List.sum_cons] at h3 ⊢
    omega
theorem textFrom_bound : ∀ (ts : List Str) (k : Nat) (acc : Str), (∀ t ∈ ts, PyData.strOk t = true) → PyData.strOk acc = true → (textFrom k acc ts).length ≤ acc.length + (ts.map fun t => t.length + 2).sum ∧ PyData.strOk (textFrom k acc ts) = true
  | [], k, acc, _, ha => ⟨by show acc.length ≤ _; simp, ha⟩
  | t :: r, k, acc, h, ha => by
    have e : textFrom k acc (t :: r) = textFrom (k + 1) (acc ++ (if k > 0 then ", " else "" : String) ++ t) r := rfl
    have ha' : PyData.strOk (acc ++ (if k > 0 then ", " else "" : String) ++ t) = true := ok_app (ok_app ha (ok_ofString _)) (h t (by simp))
    obtain ⟨h1, h2⟩ := textFrom_bound r (k + 1) _ (fun x hx => h x (by simp [hx])) ha'
    rw [e]
    refine ⟨?_, h2⟩
    have hl : (acc ++ (if k > 0 then ", " else "" : String) ++ t).length ≤ acc.length + 2 + t.length := by
      rw [Str.length_append, Str.length_append]
      have : (Str.ofString (if k > 0 then ", " else "" : String)).length ≤ 2 := by split <;> decide
      omega
    simp only [List.map_cons, List.sum_cons]
    omega
theorem list_len {ts : List Str} (h : ∀ t ∈ ts, PyData.strOk t = true) : (listText ts).length ≤ 2 + (ts.map fun t => t.length + 2).sum ∧ PyData.strOk (listText ts) = true := by
  obtain ⟨h1, h2⟩ := textFrom_bound ts 0 "[" h (by decide +kernel)
  unfold listText
  refine ⟨?_, ok_app h2 (by decide +kernel)⟩
  rw [Str.length_append]
  have a : ("[" : Str).length = 1 := by decide
  have b : ("]" : Str).length = 1 := by decide
  omega
theorem tuple_len {ts : List Str} (h : ∀ t ∈ ts, PyData.strOk t = true) : (tupleText ts).length ≤ 3 + (ts.map fun t => t.length + 2).sum ∧ PyData.strOk (tupleText ts) = true := by
  obtain ⟨h1, h2⟩ := join_len ts h
  unfold tupleText
  refine ⟨?_, ?_⟩
  · rw [Str.length_append, Str.length_append]
    have a : ("(" : Str).length = 1 := by decide
    split
    · have b : (",)" : Str).length = 2 := by decide
      show _ + _ + (",)" : Str).length ≤ _
      omega
    · have b : (")" : Str).length = 1 := by decide
      show _ + _ + (")" : Str).length ≤ _
      omega
  · refine ok_app (ok_app (by decide +kernel) h2) ?_
    split
    · exact (by decide +kernel : PyData.strOk (",)" : Str) = true)
    · exact (by decide +kernel : PyData.strOk (")" : Str) = true)
structure PlnP (d : D) (x : PyData) : Prop where
  pd : toPD d = some x
  sh : x.showable = true
  ly : x.canLay0 = true
  dp : x.depth = dpD d
  ln : x.shown.length ≤ wdD d
  ok : PyData.strOk x.shown = true
structure PlnA (ds : List D) (xs : List PyData) : Prop where
  pd : toPDs ds = some xs
  sh : PyData.showableAll xs = true
  ly : PyData.canLayAll0 xs = true
  dp : PyData.depthAll xs = dpL ds
  ln : ((PyData.shownAll xs).map fun t => t.length + 2).sum ≤ wdL ds
  ok : ∀ t ∈ PyData.shownAll xs, PyData.strOk t = true
mutual
theorem pln_pd : ∀ d : D, pln d = true → ∃ x, PlnP d x
  | .non, _ => ⟨.none, rfl, rfl, rfl, rfl, by show (PyData.none).shown.length ≤ 40; decide +kernel, by decide +kernel⟩
  | .bl b, _ => ⟨.bool b, rfl, rfl, rfl, rfl, by show (PyData.bool b).shown.length ≤ 40; cases b <;> decide +kernel, by cases b <;> decide +kernel⟩
  | .int i, h => by
    have h' : i.natAbs < 10 ^ 30 := by simpa [pln] using h
    obtain ⟨h1, h2⟩ := int_text (by decide) h'
    refine ⟨.int i, rfl, ?_, rfl, rfl, ?_, h2⟩
    · rw [PyData.showable, decide_eq_true_eq]
      exact log2_lt (Nat.lt_of_lt_of_le h' (Nat.le_trans (by decide : 10 ^ 30 ≤ 2 ^ 100) (Nat.pow_le_pow_right (by decide) (by decide)))) (by decide)
    · show _ ≤ 40
      omega
  | .str s, h => by
    simp only [pln, Bool.and_eq_true, decide_eq_true_eq] at h
    have e : (PyData.str s).shown = reprText s := by rw [PyData.shown]
    exact ⟨.str s, rfl, rfl, by rw [PyData.canLay0]; exact h.1, rfl, by rw [e]; exact h.2.2, by rw [e]; exact h.2.1⟩
  | .lst ds, h => by
    obtain ⟨xs, p⟩ := pln_pds ds (by simpa [pln] using h)
    obtain ⟨l1, l2⟩ := list_len p.ok
    have e : (PyData.list xs).shown = listText (PyData.shownAll xs) := by rw [PyData.shown]
    refine ⟨.list xs, by rw [toPD, p.pd]; rfl, by rw [PyData.showable]; exact p.sh, by rw [PyData.canLay0]; exact p.ly, by rw [PyData.depth, p.dp, dpD], ?_, by rw [e]; exact l2⟩
    rw [e, wdD]
    have := p.ln
    omega
  | .tup ds, h => by
    obtain ⟨xs, p⟩ := pln_pds ds (by simpa [pln] using h)
    obtain ⟨l1, l2⟩ := tuple_len p.ok
    have e : (PyData.tuple xs).shown = tupleText (PyData.shownAll xs) := by rw [PyData.shown]
    refine ⟨.tuple xs, by rw [toPD, p.pd]; rfl, by rw [PyData.showable]; exact p.sh, by rw [PyData.canLay0]; exact p.ly, by rw [PyData.depth, p.dp, dpD], ?_, by rw [e]; exact l2⟩
    rw [e, wdD]
    have := p.ln
    omega
  | .loc _, h => by simp [pln] at h
  | .obj _ _, h => by simp [pln] at h
  | .cls _, h => by simp [pln] at h
  | .dct _ _, h => by simp [pln] at h
  | .fdc _ _, h => by simp [pln] at h
  | .err _ _, h => by simp [pln] at h
theorem pln_pds : ∀ ds : List D, plnL ds = true → ∃ xs, PlnA ds xs
  | [], _ => ⟨[], rfl, rfl, rfl, rfl, Nat.le_refl _, fun t h => by cases h⟩
  | d :: ds, h => by
    simp only [plnL, Bool.and_eq_true] at h
    obtain ⟨x, p⟩ := pln_pd d h.1
    obtain ⟨xs, q⟩ := pln_pds ds h.2
    refine ⟨x :: xs, by rw [toPDs, p.pd, q.pd], by rw [PyData.showableAll, p.sh, q.sh]; rfl, by rw [PyData.canLayAll0, p.ly, q.ly]; rfl, by rw [PyData.depthAll, p.dp, q.dp, dpL], ?_, fun t ht => ?_⟩
    · rw [PyData.shownAll, List.map_cons, List.sum_cons, wdL]
      have := p.ln
      have := q.ln
      omega
    · rw [PyData.shownAll] at ht
      rcases List.mem_cons.mp ht with rfl | ht
      · exact p.ok
      · exact q.ok t ht
end
theorem plnP_top {d : D} {x : PyData} (p : PlnP d x) (h : pln d = true) (m : Store) : topPD d m = some x := by
  cases d with
  | loc n => simp [pln] at h
  | _ => exact p.pd
theorem plnP_shp {d : D} {x : PyData} (p : PlnP d x) (h : dpD d ≤ 60) : SeqAt.shaped x = true := by
  unfold SeqAt.shaped
  rw [p.ly, p.dp]
  simp only [Bool.true_and, decide_eq_true_eq]
  omega
/-- plain data that are not too large -/
def Pln (d : D) : Prop := pln d = true ∧ wdD d ≤ 100000 ∧ dpD d ≤ 60
theorem Pln.ne {d : D} (h : Pln d) (m : Store) : neD d d m = .ok (.bl false) m := by
  obtain ⟨x, p⟩ := pln_pd d h.1
  exact ne_self m (plnP_top p h.1 m) (plnP_shp p h.2.2)
end DL
namespace DL
open PySem L2 PyProof.Rows
def SrcAt (m : Store) (n : Nat) : Prop := ∃ a s : Int, m[n]? = some (some (.lst [.int a, .int s]))
/-- only the source at n has changed -/
def Chg (n : Nat) (m m' : Store) : Prop := ∃ a s : Int, m' = m.set n (some (.lst [.int a, .int s]))
section
variable {n : Nat} {m m1 m2 : Store}
theorem Chg.refl (h : SrcAt m n) : Chg n m m := by
  obtain ⟨a, s, h⟩ := h
  refine ⟨a, s, ?_⟩
  apply List.ext_getElem?
  intro i
  by_cases e : n = i
  · subst e
    rw [List.getElem?_set_self (List.getElem?_eq_some_iff.mp h).1, h]
  · rw [List.getElem?_set_ne e]
theorem Chg.trans (h : Chg n m m1) (h' : Chg n m1 m2) : Chg n m m2 := by
  obtain ⟨a, s, rfl⟩ := h
  obtain ⟨a', s', rfl⟩ := h'
  exact ⟨a', s', by rw [List.set_set]⟩
theorem Chg.len (h : Chg n m m1) : m1.length = m.length := by
  obtain ⟨a, s, rfl⟩ := h
  simp
theorem Chg.src (h : Chg n m m1) (q : SrcAt m n) : SrcAt m1 n := by
  obtain ⟨a, s, rfl⟩ := h
  obtain ⟨a', s', q⟩ := q
  exact ⟨a, s, by rw [List.getElem?_set_self (List.getElem?_eq_some_iff.mp q).1]⟩
theorem Chg.get (h : Chg n m m1) {i : Nat} (hi : i ≠ n) : m1[i]? = m[i]? := by
  obtain ⟨a, s, rfl⟩ := h
  rw [List.getElem?_set_ne (Ne.symm hi)]
theorem fn_chg0 {k : Nat} {b : DEnv → M Out} {ds : List D} {d : D} (h : b (startD k ds) m = .ok (.rt d) m1) (c : Chg n m m1) : fnD k b ds m = .ok d m1 := fn_any h c.len
end
inductive All2 {α β : Type} (P : α → β → Prop) : List α → List β → Prop
  | nil : All2 P [] []
  | cons {a : α} {b : β} {as : List α} {bs : List β} : P a b → All2 P as bs → All2 P (a :: as) (b :: bs)
theorem All2.len {α β : Type} {P : α → β → Prop} {as : List α} {bs : List β} (h : All2 P as bs) : bs.length = as.length := by
  induction h with
  | nil => rfl
  | cons _ _ ih => simp [ih]
theorem All2.mem {α β : Type} {P : α → β → Prop} {as : List α} {bs : List β} (h : All2 P as bs) {b : β} (hb : b ∈ bs) : ∃ a ∈ as, P a b := by
  induction h with
  | nil => cases hb
  | cons p _ ih =>
    rcases List.mem_cons.mp hb with rfl | hb
    · exact ⟨_, by simp, p⟩
    · obtain ⟨a, ha, q⟩ := ih hb
      exact ⟨a, by simp [ha], q⟩
theorem All2.ints {α : Type} {P : α → Int → Prop} {as : List α} {bs : List D} (h : All2 (fun a d => ∃ i, d = D.int i ∧ P a i) as bs) : ∃ is, bs = ils is ∧ All2 P as is := by
  induction h with
  | nil => exact ⟨[], rfl, .nil⟩
  | cons p _ ih =>
    obtain ⟨i, rfl, p⟩ := p
    obtain ⟨is, rfl, q⟩ := ih
    exact ⟨i :: is, rfl, .cons p q⟩
theorem All2.sk {α β γ : Type} {P : α → γ → Prop} {f : γ → β} {as : List α} {bs : List β} (h : All2 (fun a d => ∃ i, d = f i ∧ P a i) as bs) : ∃ is, bs = is.map f ∧ All2 P as is := by
  induction h with
  | nil => exact ⟨[], rfl, .nil⟩
  | cons p _ ih =>
    obtain ⟨i, rfl, p⟩ := p
    obtain ⟨is, rfl, q⟩ := ih
    exact ⟨i :: is, rfl, .cons p q⟩
theorem compL_chg {n : Nat} {src : List D} {g : D → DEnv → M DEnv} {elt : DEnv → M D} {e : DEnv} {P : D → D → Prop} : ∀ (ds : List D), (∀ d ∈ ds, ∀ m, SrcAt m n → ∃ e1 r m', g d e m = .ok e1 m ∧ elt e1 m = .ok r m' ∧ Chg n m m' ∧ P d r) →
    ∀ m, SrcAt m n → ∃ rs m', compL ⟨src, []⟩ g tYesD elt e ds m = .ok rs m' ∧ Chg n m m' ∧ All2 P ds rs
  | [], _, m, q => ⟨[], m, by simp [compL], Chg.refl q, .nil⟩
  | d :: ds, h, m, q => by
    obtain ⟨e1, r, m1, h1, h2, c1, p⟩ := h d (by simp) m q
    obtain ⟨rs, m2, h3, c2, p2⟩ := compL_chg (src := src) ds (fun x hx => h x (by simp [hx])) m1 (c1.src q)
    exact ⟨r :: rs, m2, by simp [compL, noX, h1, h2, h3], c1.trans c2, .cons p p2⟩
/-- a comprehension whose items draw -/
theorem eComp_chg {n : Nat} {it : DEnv → M Src} {g : D → DEnv → M DEnv} {elt : DEnv → M D} {vs : List Nat} {e : DEnv} {m m0 : Store} {ds : List D} {P : D → D → Prop} (hi : it e m = .ok ⟨ds, []⟩ m0) (c0 : Chg n m m0) (q : SrcAt m n) (hl : ds.length ≤ 100000)
    (h : ∀ d ∈ ds, ∀ m, SrcAt m n → ∃ e1 r m', g d (wipeD e vs) m = .ok e1 m ∧ elt e1 m = .ok r m' ∧ Chg n m m' ∧ P d r) : ∃ rs m', eComp it g tYesD elt vs e m = .ok (.lst rs) m' ∧ Chg n m m' ∧ All2 P ds rs := by
  obtain ⟨rs, m2, h3, c2, p2⟩ := compL_chg (src := ds) ds h m0 (c0.src q)
  exact ⟨rs, m2, by simp [eComp, compM, hi, sizeOk, hl, h3], c0.trans c2, p2⟩
/-- a loop that draws, over an invariant of the turn and the environment -/
theorem forL_chg {src : List D} {g : D → DEnv → M DEnv} {b : DEnv → M Out} (I : Nat → DEnv → Store → Prop) (ds : List D) (e : DEnv) (m : Store)
    (h0 : I 0 e m) (st : ∀ j d e m, ds[j]? = some d → I j e m → ∃ e1 m1 e2 m2, g d e m = .ok e1 m1 ∧ (b e1 m1 = .ok (.nx e2) m2 ∨ b e1 m1 = .ok (.ct e2) m2) ∧ I (j + 1) e2 m2) :
    ∃ e' m', forL ⟨src, []⟩ g b ds e m = .ok (.nx e') m' ∧ I ds.length e' m' := by
  have := forL_inv (src := src) (g := g) (b := b) I ds 0 e m h0 (fun j d e m hj hi => by
    have := st j d e m hj (by simpa using hi)
    simpa using this)
  simpa using this
theorem rng_get {k j : Nat} {d : D} (h : (rngI 0 k)[j]? = some d) : j < k ∧ d = .int j := by
  have hl : j < k := by
    have := (List.getElem?_eq_some_iff.mp h).1
    simpa [rngI] using this
  refine ⟨hl, ?_⟩
  rw [rngI_eq] at h
  simp [hl] at h
  exact h.symm
@[simp] theorem rng_len (k : Nat) (a : Int) : (rngI a k).length = k := by simp [rngI]
theorem eApp_of {o v : DEnv → M D} {e : DEnv} {m m1 m2 m3 : Store} {x y r : D} (h1 : o e m = .ok x m1) (h2 : isLocL x m1 = .ok () m1) (h3 : v e m1 = .ok y m2) (h4 : growD x [y] m2 = .ok r m3) : eApp o v e m = .ok r m3 := by
  unfold eApp
  simp only [bind_ap, h1, thn_ok, h2, h3, h4]
theorem sq_of {s t : DEnv → M Out} {e e1 : DEnv} {m m1 : Store} {r : Res Out} (h : s e m = .ok (.nx e1) m1) (h' : t e1 m1 = r) : sSeq s t e m = r := by
  rw [sSeq_ap, h, thn_ok, andThen_nx]
  exact h'
theorem fr_of {it : DEnv → M Src} {g : D → DEnv → M DEnv} {b : DEnv → M Out} {e : DEnv} {m m1 : Store} {ds : List D} {r : Res Out} (h : it e m = .ok ⟨ds, []⟩ m1) (h' : forL ⟨ds, []⟩ g b ds e m1 = r) : sFor it g b e m = r := by
  rw [sFor_ap, h, thn_ok]
  exact h'
@[simp] theorem add_tup (i j : List D) (m : Store) : addD (.tup i) (.tup j) m = mkT (i ++ j) m := (rfl)
@[simp] theorem add_lst (i j : List D) (m : Store) : addD (.lst i) (.lst j) m = mkL (i ++ j) m := (rfl)
end DL
namespace DL
open PySem L2 PySem.HandSPX
end DL
namespace DL
open PySem L2 PyProof.Rows
open PySem.W (ksFn ksEnv ks_superIn excInitIn excOver kxs_mw)
end DL
namespace DL
open PySem L2 PyProof.Rows
open PySem.W (ksFn ksEnv)
end DL
namespace DL
open PySem L2 PyProof.Rows
open PySem.W (ksFn ksEnv)
end DL
namespace DL
open PySem L2 PyProof.Rows
open PySem.W (ksFn ksEnv)
end DL
namespace DL
open PySem L2 PyProof.Rows
open PySem.W (ksFn ksEnv)
section
variable {k : Kx} {X : Cx} {E : XK} {st : Stmt} {qual slf a b f f2 x : Str} {B newId initId : String} {tl : List Value} {C fI : Addr} {lvl : Nat} {p pos : Pos}
theorem PK.imp {kws : List Keyword} {t t' : TA} (h : PK X kws t) (g : ∀ σ H Q, t' σ H Q → t σ H Q) : PK X kws t' := ⟨fun pos pins s σ H Q I z => h.run pos pins s σ H Q I (g _ _ _ z)⟩
end
end DL
namespace DL
open PySem L2 PyProof.Rows
end DL
namespace DL
open PySem L2 PyProof.Rows
section
variable {k : Kx} {X : Cx} {E : XK}
def Os1 (k : Kx) (X : Cx) (nm : Str) (c n : Nat) (den : List D → M D) : Prop := ∃ g lvl, PySem.W.findIn X.K (.ref (k.cl c)) nm = some (some (.ref g)) ∧ PySem.W.isFn X.K (.ref g) = true ∧ FnDn k X lvl g n den ∧ Room (lvl + 1) X.A
def OsAll (k : Kx) (X : Cx) (nm : Str) : MTab → Prop
  | [] => True
  | p :: r => Os1 k X nm p.1 p.2.1 p.2.2 ∧ OsAll k X nm r
theorem osAll_of {nm : Str} {c : Nat} {q : Nat × (List D → M D)} : ∀ {tab : MTab}, OsAll k X nm tab → tab.lookup c = some q → Os1 k X nm c q.1 q.2
  | [], _, h => by cases h
  | p :: r, F, h => by
    rw [List.lookup_cons] at h
    by_cases hc : c == p.1
    · rw [hc] at h
      cases h
      rw [beq_iff_eq.mp hc]
      exact F.1
    · rw [Bool.eq_false_iff.mpr hc] at h
      exact osAll_of F.2 h
def lenBk (r : D) : M D := match r with
  | .int n => if 0 ≤ n ∧ n < 2 ^ 63 then pure (.int n) else M.bad
  | _ => M.bad
def ownLen (tab : MTab) : List D → M D
  | [x] => fun m => match clsD x m with
    | some c => match tab.lookup c with
      | some p => (callN p.1 p.2 [x] >>= lenBk) m
      | none => .bad
    | none => lenD [x] m
  | _ => M.bad
def rOL (k : Kx) (K : PySem.W.Frag) (E : XK) (tab : MTab) : List V → Hp → VK → Prop := fun xs H Q => ∃ a c dx vs n den, xs = [.ref a] ∧ SlX.Slt H a (k.cl c) dx vs ∧ tab.lookup c = some (n, den) ∧ spD k K n den [.ref a] H (fun v H1 => ∃ i : Int, v = .int i ∧ (0 ≤ i ∧ i < 2 ^ 63) ∧ Q (.int i) H1) E
theorem cr_ownLen {tab : MTab} (F : OsAll k X "__len__" tab) (hx : Passes (L2.CX X.prog X.w) X E) : CallR X (.builtin "len") (rOL k X.K E tab) := by
  intro pins s σ H xs us Q I r h
  obtain ⟨a, c, dx, vs, n, den, rfl, hs, ht, q⟩ := h
  obtain ⟨g, lvl, f1, f2, Fn, hr⟩ := osAll_of F ht
  rw [Vals.ref1 r]
  obtain ⟨sl, od, _, J, _⟩ := SlX.slt_inst I hs
  obtain ⟨m, hF⟩ := I.fr
  refine PySem.W.len_K hF I.ok.mod.kin J f1 f2 (wpAny_mono (wpAny_call (SlX.run_at (us := [.ref a]) (ws := [.ref a]) Fn hr.in1 I.env0.in1 hx I (.cons rfl .nil) q)) (fun w s' z => ?_) fun _ _ x => x)
  obtain ⟨z', H', I', rz, i, rfl, hi, qz⟩ := z
  obtain ⟨t, rfl⟩ := rz
  exact ⟨hi, .int i, H', I'.tok _, ⟨_, rfl⟩, qz⟩
theorem lenBk_good {r : D} {v : V} {G H : Hp} {L : Lam} {μ : Store} {Q : VK} (rr : Rp k X.K G L v r) (w : Wd k X.K G H L μ) (g : Good k X.K E G H L (lenBk r μ) (QV k X.K Q)) : ∃ i : Int, v = .int i ∧ (0 ≤ i ∧ i < 2 ^ 63) ∧ Q (.int i) H := by
  cases r with
  | int n =>
    cases rr
    obtain ⟨hi, g⟩ := good_ite g
    exact ⟨n, rfl, hi, Good.ret g w _ (.int _)⟩
  | _ => exact False.elim g
theorem f_ownLen {tab : MTab} (F : OsAll k X "__len__" tab) (hx : Passes (L2.CX X.prog X.w) X E) : FunD k X E (.builtin "len") (ownLen tab) := by
  obtain ⟨r0, h1, h2⟩ := f_len (k := k) (X := X) (E := E)
  refine ⟨_, CallR.or h1 (cr_ownLen F hx), fun xs ds G H L μ Q r w g => ?_⟩
  match ds, r, g with
  | [d], r, g =>
    have g' : Good k X.K E G H L (match clsD d μ with | some c => (match tab.lookup c with | some p => (callN p.1 p.2 [d] >>= lenBk) μ | none => .bad) | none => lenD [d] μ) (QV k X.K Q) := g
    cases hc : clsD d μ with
    | none =>
      rw [hc] at g'
      exact .inl (h2 xs [d] G H L μ Q r w g')
    | some c =>
      rw [hc] at g'
      simp only at g'
      cases ht : tab.lookup c with
      | none => rw [ht] at g'; exact False.elim g'
      | some p =>
        rw [ht] at g'
        obtain ⟨v, rfl, rx⟩ := one_of (H := H) r
        obtain ⟨a, dx', vs, rfl, hs⟩ := slt_of rx w hc
        obtain ⟨hl, g1⟩ := good_ite (x := p.2 [d] >>= lenBk) (c := [d].length = p.1) (show Good k X.K E G H L ((if [d].length = p.1 then p.2 [d] >>= lenBk else M.bad) μ) (QV k X.K Q) by
          have e : (callN p.1 p.2 [d] >>= lenBk) μ = (if [d].length = p.1 then p.2 [d] >>= lenBk else M.bad) μ := by
            show M.bind (callN p.1 p.2 [d]) lenBk μ = _
            unfold M.bind callN
            by_cases hq : [d].length = p.1
            · rw [if_pos hq, if_pos hq]
              rfl
            · rw [if_neg hq, if_neg hq]
              rfl
          rw [← e]
          exact g')
        exact .inr ⟨a, c, dx', vs, p.1, p.2, rfl, hs, ht, [d], G, L, μ, .cons rx .nil, hl, w, Good.mono (Good.bind g1) fun d1 m1 G1 H1 L1 st1 w1 q1 y r1 => lenBk_good r1 w1 q1⟩
  | [], _, g => exact False.elim g
  | _ :: _ :: _, _, g => exact False.elim g
def inBk (neg : Bool) (r : D) : M D := match r with
  | .bl b => pure (.bl (if neg then !b else b))
  | _ => M.bad
def ownIn (tab : MTab) (neg : Bool) (x y : D) : M D := fun m => match clsD y m with
  | some c => match tab.lookup c with
    | some p => (callN p.1 p.2 [y, x] >>= inBk neg) m
    | none => .bad
  | none => inD neg x y m
def rOC (k : Kx) (K : PySem.W.Frag) (E : XK) (tab : MTab) (neg : Bool) : R2 := fun x y H Q => ∃ a c dx vs n den, y = .ref a ∧ SlX.Slt H a (k.cl c) dx vs ∧ tab.lookup c = some (n, den) ∧ spD k K n den [y, x] H (fun v H1 => ∃ b : Bool, v = .bl b ∧ Q (.bl (if neg then !b else b)) H1) E
theorem op_ownIn {tab : MTab} (F : OsAll k X "__contains__" tab) (hx : Passes (L2.CX X.prog X.w) X E) : OpR X (compareOp .In) (rOC k X.K E tab false) := by
  intro pins s σ H x y v u Q I rx ry h
  obtain ⟨a, c, dx, vs, n, den, rfl, hs, ht, q⟩ := h
  obtain ⟨g, lvl, f1, f2, Fn, hr⟩ := osAll_of F ht
  cases (show u = Value.ref a from ry)
  obtain ⟨sl, od, _, J, _⟩ := SlX.slt_inst I hs
  obtain ⟨m, hF⟩ := I.fr
  refine PySem.W.in_K hF I.ok.mod.kin J f1 f2 (wpAny_mono (wpAny_call (run_fnR (us := [.ref a, v]) (vs := [.ref a, x]) Fn (hr.mono (Nat.le_succ _)) hx I (.cons rfl (.cons rx .nil)) q)) (fun w s' z => ?_) fun _ _ x => x)
  obtain ⟨z', H', I', rz, b, rfl, qz⟩ := z
  cases (show w = Value.bool b from rz)
  exact wpAny_truthy_bool ⟨.bl b, H', I', rfl, qz⟩
theorem ownIn_of {tab : MTab} {neg : Bool} {r0 : R2} (h2 : ∀ (x y : V) (dx dy : D) (G H : Hp) (L : Lam) (μ : Store) (Q : VK), Rp k X.K G L x dx → Rp k X.K G L y dy → Wd k X.K G H L μ → Good k X.K E G H L (inD neg dx dy μ) (QV k X.K Q) → r0 x y H Q)
    {x y : V} {dx dy : D} {G H : Hp} {L : Lam} {μ : Store} {Q : VK} (rx : Rp k X.K G L x dx) (ry : Rp k X.K G L y dy) (w : Wd k X.K G H L μ) (g : Good k X.K E G H L (ownIn tab neg dx dy μ) (QV k X.K Q)) : r0 x y H Q ∨ rOC k X.K E tab neg x y H Q := by
  unfold ownIn at g
  cases hc : clsD dy μ with
  | none =>
    rw [hc] at g
    exact .inl (h2 x y dx dy G H L μ Q rx ry w g)
  | some c =>
    rw [hc] at g
    simp only at g
    cases ht : tab.lookup c with
    | none => rw [ht] at g; exact False.elim g
    | some p =>
      rw [ht] at g
      simp only at g
      obtain ⟨a, dx', vs, rfl, hs⟩ := slt_of ry w hc
      have e : (callN p.1 p.2 [dy, dx] >>= inBk neg) μ = (if [dy, dx].length = p.1 then p.2 [dy, dx] >>= inBk neg else M.bad) μ := by
        show M.bind (callN p.1 p.2 [dy, dx]) (inBk neg) μ = _
        unfold M.bind callN
        by_cases hq : [dy, dx].length = p.1
        · rw [if_pos hq, if_pos hq]
          rfl
        · rw [if_neg hq, if_neg hq]
          rfl
      rw [e] at g
      obtain ⟨hl, g1⟩ := good_ite g
      refine .inr ⟨a, c, dx', vs, p.1, p.2, rfl, hs, ht, [dy, dx], G, L, μ, .cons ry (.cons rx .nil), hl, w, Good.mono (Good.bind g1) fun d1 m1 G1 H1 L1 st1 w1 q1 z r1 => ?_⟩
      cases d1 with
      | bl b =>
        cases r1
        exact ⟨b, rfl, Good.ret q1 w1 _ (.bl _)⟩
      | _ => exact False.elim q1
theorem b_ownIn {tab : MTab} (F : OsAll k X "__contains__" tab) (hx : Passes (L2.CX X.prog X.w) X E) (hu : X.A.units + 65 < cLine) : BinD k X E (compareOp .In) (ownIn tab false) := by
  obtain ⟨r0, h1, h2⟩ := b_in (k := k) (X := X) (E := E) hu
  exact ⟨_, OpR.or h1 (op_ownIn F hx), fun x y dx dy G H L μ Q rx ry w g => ownIn_of h2 rx ry w g⟩
end
end DL
namespace DL
open PySem L2 PyProof.Rows
end DL
namespace DL
open PySem L2 PyProof.Rows
end DL
namespace DL
open PySem L2 PyProof.Rows
abbrev zO (f0 f1 : Value) (TI TO : Addr) : Obj := { cls := .type "zip", data := .fields #[f0, f1, .bool false, .ref TI, .ref TO] }
def ZG (h : Heap) (z TI TO : Addr) : Prop := ∃ f0 f1, (f0 = .none ∨ ∃ a : Int, f0 = rawInt a) ∧ h.get? z = some (zO f0 f1 TI TO)
theorem ZG.ob {h : Heap} {z TI TO : Addr} (x : ZG h z TI TO) : ∃ f0 f1, h.get? z = some (zO f0 f1 TI TO) := let ⟨f0, f1, _, e⟩ := x; ⟨f0, f1, e⟩
theorem ZG.at {h h' : Heap} {z TI TO : Addr} (x : ZG h z TI TO) (e : ∀ o, h.get? z = some o → h'.get? z = some o) : ZG h' z TI TO := let ⟨f0, f1, c, q⟩ := x; ⟨f0, f1, c, e _ q⟩
end DL
namespace DL
open PySem L2 PyProof.Rows
open AutoSeq1 (wpAny_loadPart')
/-- the zip's own things -/
structure ZSt (h : Heap) (z TI TO i1 i2 l1 l2 : Addr) (b1 b2 : Bool) (i : Nat) : Prop where
  z : ZG h z TI TO
  ti : IsPair h TI (.ref i1) (.ref i2)
  to : ∃ a b, IsPair h TO a b
  k1 : KI b1 h i1 l1 i
  k2 : KI b2 h i2 l2 i
theorem ZSt.at {h h' : Heap} {z TI TO i1 i2 l1 l2 : Addr} {b1 b2 : Bool} {i : Nat} (x : ZSt h z TI TO i1 i2 l1 l2 b1 b2 i) (k : ∀ c ∈ [z, TI, TO, i1, i2], ∀ o, h.get? c = some o → h'.get? c = some o) : ZSt h' z TI TO i1 i2 l1 l2 b1 b2 i :=
  ⟨x.z.at fun o e => k z (by simp) o e, k TI (by simp) _ x.ti, let ⟨a, b, q⟩ := x.to; ⟨a, b, k TO (by simp) _ q⟩, x.k1.at fun o e => k i1 (by simp) o e, x.k2.at fun o e => k i2 (by simp) o e⟩
end DL
namespace DL
open PySem L2 PyProof.Rows
open AutoSeq1 (wpAny_loadPart')
end DL
namespace DL
open PySem L2
theorem fn_trimN {n : Nat} {b : DEnv → M Out} {ds : List D} {m m0 junk : Store} {e : DEnv} (h : b (startD n ds) m = .ok (.nx e) (m0 ++ junk)) (hl : m0.length = m.length) (hk : trimOk m m0 = true) : fnD n b ds m = .ok .non m0 := by
  have ht : trimOk m (m0 ++ junk) = true := by
    unfold trimOk at hk ⊢
    have e1 : (m0 ++ junk).take m.length = m0 := by rw [← hl]; simp
    have e2 : m0.take m.length = m0 := by rw [← hl]; simp
    rw [e1]
    rw [e2] at hk
    simp only [Bool.and_eq_true, decide_eq_true_eq] at hk ⊢
    exact ⟨by rw [List.length_append]; omega, hk.2⟩
  have e1 : (m0 ++ junk).take m.length = m0 := by rw [← hl]; simp
  simp [fnD, scopeM, runB, h, ht, e1, D.und]
theorem undO_map (n : Nat) : ∀ vs : List D, undO n (vs.map some) = D.undL n vs
  | [] => rfl
  | v :: vs => by simp [undO, D.undL, undO_map n vs]
theorem undL_mono {n k : Nat} (h : n ≤ k) : ∀ ds : List D, D.undL n ds = true → D.undL k ds = true := by
  have key : ∀ (j : Nat) (d : D), sizeOf d ≤ j → d.und n = true → d.und k = true := by
    intro j
    induction j with
    | zero =>
      intro d hd _
      cases d <;> simp at hd
    | succ j ih =>
      intro d hd hu
      have lst : ∀ ds : List D, sizeOf ds ≤ j → D.undL n ds = true → D.undL k ds = true := by
        intro ds
        induction ds with
        | nil => intro _ _; rfl
        | cons x r ihr =>
          intro hs hq
          simp only [D.undL, Bool.and_eq_true] at hq ⊢
          simp at hs
          exact ⟨ih x (by omega) hq.1, ihr (by omega) hq.2⟩
      cases d with
      | loc i =>
        simp only [D.und, decide_eq_true_eq] at hu ⊢
        omega
      | lst ds => simp at hd; exact lst ds (by omega) hu
      | tup ds => simp at hd; exact lst ds (by omega) hu
      | obj c ds => simp at hd; exact lst ds (by omega) hu
      | dct ks ds => simp at hd; exact lst ds (by omega) hu
      | fdc ks ds => simp at hd; exact lst ds (by omega) hu
      | err c ds => simp at hd; exact lst ds (by omega) hu
      | _ => rfl
  intro ds
  induction ds with
  | nil => intro _; rfl
  | cons x r ih =>
    intro hq
    simp only [D.undL, Bool.and_eq_true] at hq ⊢
    exact ⟨key _ x (Nat.le_refl _) hq.1, ih hq.2⟩
/-- the instance that is being made has got its slots -/
theorem trim_ins {m : Store} {c : Nat} {ss : List (Option D)} {vs : List D} (hu : D.undL m.length vs = true) : trimOk (m ++ [some (.ins c ss)]) (m ++ [some (.ins c (vs.map some))]) = true := by
  unfold trimOk
  simp only [List.length_append, List.length_singleton, Nat.le_refl, decide_true, Bool.true_and, List.all_eq_true]
  intro p hp
  rw [show (m ++ [some (Cell.ins c (vs.map some))]).take (m.length + 1) = m ++ [some (Cell.ins c (vs.map some))] from List.take_of_length_le (by simp)] at hp
  rw [List.zip_append rfl] at hp
  rcases List.mem_append.mp hp with hp | hp
  · obtain ⟨i, hi⟩ := List.mem_iff_getElem?.mp hp
    rw [List.getElem?_zip_eq_some] at hi
    have e : p.1 = p.2 := Option.some.inj (hi.1.symm.trans hi.2)
    simp [cellKept, e]
  · simp only [List.zip_cons_cons, List.zip_nil_left, List.mem_singleton] at hp
    subst hp
    unfold cellKept
    have : undO (m.length + 1) (vs.map some) = true := by
      rw [undO_map]
      exact undL_mono (Nat.le_succ _) vs hu
    simp [Cell.und, this]
theorem isLocOk {m : Store} {n : Nat} {ds : List D} (h : m[n]? = some (some (.lst ds))) : isLocL (.loc n) m = .ok () m := by
  unfold isLocL
  simp only [h]
theorem appLoc {m : Store} {n : Nat} {ds : List D} {x : D} (h : m[n]? = some (some (.lst ds))) (hl : ds.length + 1 ≤ 100000) : growD (.loc n) [x] m = .ok .non (m.set n (some (.lst (ds ++ [x])))) := by
  unfold growD
  simp only [h, List.length_cons, List.length_nil]
  rw [if_pos (by omega)]
/-- o.f = v on the instance that is being made -/
theorem attr_of {c i n : Nat} {tab : List (Nat × Nat)} {o v : DEnv → M D} {e : DEnv} {m m1 : Store} {x : D} {ss : List (Option D)} (hv : v e m = .ok x m1) (ho : o e m1 = .ok (.loc n) m1) (hm : m1[n]? = some (some (.ins c ss))) (ht : tab.lookup c = some i) :
    sAttr tab o v e m = .ok (.nx e) (m1.set n (some (.ins c (putD i x ss)))) := by
  unfold sAttr
  simp only [bind_ap, hv, thn_ok, ho]
  have : setAtT tab (.loc n) x m1 = .ok () (m1.set n (some (.ins c (putD i x ss)))) := by
    unfold setAtT setAt
    simp only [clsD, hm, ht]
  rw [this]
  rfl
end DL
namespace DL
open PySem L2
def tps (l : List (List Int)) : List D := l.map fun d => D.tup (ils d)
@[simp] theorem tps_length (l : List (List Int)) : (tps l).length = l.length := by simp [tps]
@[simp] theorem tps_get (l : List (List Int)) (i : Nat) : (tps l)[i]? = (l[i]?).map fun d => D.tup (ils d) := by simp [tps]
@[simp] theorem tps_app (a b : List (List Int)) : tps a ++ tps b = tps (a ++ b) := by simp [tps]
/-- pieces: tuples of tuples of ints -/
def pcs (l : List (List (List Int))) : List D := l.map fun d => D.tup (tps d)
@[simp] theorem pcs_length (l : List (List (List Int))) : (pcs l).length = l.length := by simp [pcs]
@[simp] theorem pcs_get (l : List (List (List Int))) (i : Nat) : (pcs l)[i]? = (l[i]?).map fun d => D.tup (tps d) := by simp [pcs]
theorem und_tps (n : Nat) : ∀ l : List (List Int), D.undL n (tps l) = true
  | [] => rfl
  | q :: r => by
    show (D.und n (.tup (ils q)) && D.undL n (tps r)) = true
    simp [D.und, undL_ints, und_tps n r]
/-- a list or a tuple -/
def cD (c : Bool) (ds : List D) : D := if c then .tup ds else .lst ds
@[simp] theorem src_cD (c : Bool) (ds : List D) (m : Store) : srcD (cD c ds) m = .ok ⟨ds, []⟩ m := by cases c <;> rfl
@[simp] theorem seq_cD (c : Bool) (ds : List D) (m : Store) : seqD (cD c ds) m = .ok ds m := by cases c <;> rfl
@[simp] theorem len_cD (c : Bool) (ds : List D) (m : Store) : lenD [cD c ds] m = .ok (.int ds.length) m := by cases c <;> rfl
@[simp] theorem isi_cD (cs : List Nat) (c : Bool) (ds : List D) (m : Store) : isiD cs .seq (cD c ds) m = .ok (.bl true) m := by cases c <;> rfl
end DL
namespace DL
open PySem L2 PyProof.Rows
/-- items in the order of their keys, stably -/
def srtBy {α : Type} (xs : List α) (kz : List PyData) : List α := ((xs.zip kz).mergeSort (PySem.W.dataLe false (·.2))).map (·.1)
section
variable {X : Cx} {pins : List (Addr × Obj)} {σ : L2.St} {H : Hp} {s : Shared}
/-- an address that is younger than all that the running body has -/
structure Ours (X : Cx) (pins : List (Addr × Obj)) (b : Addr) : Prop where
  nl : b ≠ X.env.locals
  nf : b ∉ X.fs
  yg : b ∈ X.ex ∨ X.s_0.heap.objs.size ≤ b
  nc : ∀ x c, X.env.cells.lookup x = some c → c ≠ b
  np : ∀ p ∈ X.pn ++ pins, p.1 ≠ b
theorem ours_of (I : Inv X pins σ H s) {b : Addr} (hb : s.heap.objs.size ≤ b) : Ours X pins b where
  nl := Nat.ne_of_gt (Nat.lt_of_lt_of_le I.lt hb)
  nf := I.nofs hb
  yg := .inr (Nat.le_trans I.sz hb)
  nc := fun x c e z => by
    obtain ⟨v, o, ho, _⟩ := I.cell x c e
    exact absurd (Nat.lt_of_lt_of_le (Heap.lt_size ho) hb) (by rw [z]; exact Nat.lt_irrefl _)
  np := fun p hp z => by
    have ho := (I.pin p hp).1
    exact absurd (Nat.lt_of_lt_of_le (Heap.lt_size ho) hb) (by rw [z]; exact Nat.lt_irrefl _)
theorem each_vals {vs : List V} {us : List Value} (r : Vals vs us) : PySem.W.EachIs (fun u v => RelV v u) us vs := by
  induction r with
  | nil => exact .nil
  | cons h _ ih => exact .cons h ih
theorem each_zip {vs : List V} {us : List Value} {kz : List PyData} (r : PySem.W.EachIs (fun u v => RelV v u) us vs) (hl : kz.length = vs.length) : PySem.W.EachIs (fun u (p : V × PyData) => RelV p.1 u) us (vs.zip kz) := by
  induction r generalizing kz with
  | nil => exact .nil
  | cons h _ ih =>
    match kz, hl with
    | y :: kz, hl => exact .cons h (ih (by simpa using hl))
theorem each_fst {us : List Value} {ps : List (V × PyData)} (r : PySem.W.EachIs (fun u (p : V × PyData) => RelV p.1 u) us ps) : Vals (ps.map (·.1)) us := by
  induction r with
  | nil => exact .nil
  | cons h _ ih => exact .cons h ih
theorem zip_snd {α β : Type} : ∀ {as : List α} {bs : List β}, bs.length = as.length → (as.zip bs).map (·.2) = bs
  | [], [], _ => rfl
  | _ :: _, _ :: _, h => by simp [zip_snd (by simpa using h)]
/-- what came out stands for the items in the order of their keys -/
theorem out_vals {xs : List V} {us out : List Value} {kz : List PyData} (r : Vals xs us) (hl : kz.length = xs.length) (h : PySem.W.KeyedOut false kz us out) : Vals (srtBy xs kz) out := by
  have h' : PySem.W.KeyedOut false ((xs.zip kz).map (·.2)) us out := by rw [zip_snd hl]; exact h
  exact each_fst (PySem.W.keyedOut_each (·.2) h' (each_zip (each_vals r) hl))
theorem mem2 {α : Type} {a b x : α} {l : List α} (h : x ∈ l) : x ∈ a :: b :: l := List.mem_cons_of_mem _ (List.mem_cons_of_mem _ h)
/-- the keys are made one by one, then the items are put in order -/
theorem keys_run {a kS f : Addr} {e1 : Nat} {xs : List V} {us : List Value} {W : Nat → List V → Hp → Prop} {Q : VK} {R : PySem.Fin → Shared → Prop} {E' : Value → Shared → Prop} {A : Around}
    (oa : Ours X pins a) (ok : Ours X pins kS) (hka : kS ≠ a) (hz : us.length ≤ sizeLine) (r : Vals xs us)
    (I : Inv X ((kS, seqObj "list" #[] 0) :: (a, seqObj "list" #[] e1) :: pins) σ H s) (w0 : W 0 [] H)
    (turn : ∀ i x u ks H1 pins1 s1, (∀ p ∈ pins, p ∈ pins1) → xs[i]? = some x → RelV x u → W i ks H1 → Inv X pins1 σ H1 s1 → wpAny (model X.prog X.w) A (call (.ref f) [u]) (EP X pins1 σ fun kv H2 => W (i + 1) (ks ++ [kv]) H2) (fun _ _ => False) s1)
    (fin : ∀ ks H1 s1 pins1 vs, W xs.length ks H1 → Inv X pins1 σ H1 s1 → Vals ks vs → ∃ kz, PySem.W.EachIs (fun v d => ∃ as, Reads s1.heap v d as) vs kz ∧ PySem.W.AllAlike kz ∧ PySem.W.Sortable kz ∧ (∀ d, d ∈ kz → A.units + d.depth < cLine) ∧ kz.length = xs.length ∧ ∀ p, H1 p = none → Q (.ref p) (upd H1 p (.lst (srtBy xs kz))))
    (h : ∀ s2, EP X pins σ Q (.ref a) s2 → R (.done (.ret .none)) s2) :
    wpAny (model X.prog X.w) A (ksk_rest a (.ref f) false us.toArray e1 (.ref kS)) R E' s := by
  have hl := r.length
  unfold ksk_rest
  refine wpAny_bind (wpAny_rule ?_)
  rw [List.forIn_toArray]
  refine wpAny_bind (ksk_fold (fun i s' => ∃ H1 ks kA e, W i ks H1 ∧ Vals ks kA.toList ∧ kA.size = i ∧ Inv X ((kS, seqObj "list" kA e) :: (a, seqObj "list" #[] e1) :: pins) σ H1 s') us 0 s ⟨H, [], #[], 0, w0, .nil, rfl, I⟩ ?step ?done)
  case step =>
    rintro j u s' hu ⟨H1, ks, kA, e, hw, rk, hk, I1⟩
    simp only [Nat.zero_add] at hw hk ⊢
    have hj : j < us.length := (List.getElem?_eq_some_iff.mp hu).1
    obtain ⟨x, hx⟩ : ∃ x, xs[j]? = some x := ⟨_, List.getElem?_eq_getElem (by omega)⟩
    obtain ⟨u', hu', rx⟩ := r.get hx
    rw [hu] at hu'
    cases hu'
    refine wpAny_bind (wpAny_attempt (wpAny_mono (turn j x u ks H1 _ s' (fun p hp => mem2 hp) hx rx hw I1) (fun kv s'' he => ?_) fun _ _ z => z.elim))
    obtain ⟨y, H2, I2, ry, hw2⟩ := he
    obtain ⟨nk, hk0, _, _, _⟩ := I2.pin (kS, seqObj "list" kA e) (List.mem_append_right _ List.mem_cons_self)
    obtain ⟨na, ha0, _, _, _⟩ := I2.pin (a, seqObj "list" #[] e1) (List.mem_append_right _ (List.mem_cons_of_mem _ List.mem_cons_self))
    have sb := Heap.SameBut.update s''.heap kS (Obj.mapSeq (·.push kv))
    obtain ⟨c2, hc2⟩ : ∃ c2, (s''.heap.update kS (Obj.mapSeq (·.push kv))).get? kS = some (seqObj "list" (kA.push kv) c2) := ⟨_, get?_update_seq nk (·.push kv)⟩
    have I3 : Inv X pins σ H2 s'' := I2.pins_of fun p hp => I2.pin p (List.mem_append_right _ (mem2 hp))
    have I4 : Inv X pins σ H2 { s'' with heap := s''.heap.update kS (Obj.mapSeq (·.push kv)) } := I3.turned (t' := s''.toks) (fun b o hb q => (sb.2 b hb).trans q) hk0 ok.nl ok.yg ok.nc ok.np
    have hsz : kA.size ≤ sizeLine := by omega
    have hsz2 : (kA.push kv).size ≤ sizeLine + 1 := by rw [Array.size_push]; omega
    refine wpAny_bind (listUpdate_at nk rfl (wpAny_pure ⟨rfl, H2, ks ++ [y], kA.push kv, c2, hw2, ?_, by rw [Array.size_push]; omega, I4.pins_of fun p hp => ?_⟩) hsz hsz2)
    · rw [Array.toList_push]
      exact rk.append (.cons ry .nil)
    · rcases List.mem_cons.mp hp with rfl | hp
      · exact ⟨hc2, hk0, ok.nl, ok.nf, fun v z => by cases z⟩
      · rcases List.mem_cons.mp hp with rfl | hp
        · exact ⟨(sb.2 a hka.symm).trans na, ha0, oa.nl, oa.nf, fun v z => by cases z⟩
        · exact I4.pin p (List.mem_append_right _ hp)
  case done =>
    rintro s' ⟨H1, ks, kA, e, hw, rk, hk, I1⟩
    simp only [Nat.zero_add] at hw hk
    rw [← hl] at hw
    obtain ⟨kz, ek, hal, hsk, hu, hkl, hq⟩ := fin ks H1 s' _ kA.toList hw I1 rk
    obtain ⟨nk, hk0, _, _, _⟩ := I1.pin (kS, seqObj "list" kA e) (List.mem_append_right _ List.mem_cons_self)
    obtain ⟨na, ha0, _, _, _⟩ := I1.pin (a, seqObj "list" #[] e1) (List.mem_append_right _ (List.mem_cons_of_mem _ List.mem_cons_self))
    have I3 : Inv X pins σ H1 s' := I1.pins_of fun p hp => I1.pin p (List.mem_append_right _ (mem2 hp))
    refine wpAny_bind (listItems_at nk rfl ?_)
    obtain ⟨B, g1, g2⟩ := restrict s'.heap (fun b => decide (b ≠ kS))
    have gB : ∀ b, b ≠ kS → B.get? b = s'.heap.get? b := fun b hb => g1 b (by simpa using hb)
    have nB : B.get? kS = none := g2 kS (by simp)
    refine PySem.W.keyH_end (κ := PySem.W.dataKind s'.heap kz) (h₁ := B) (vs := us) (fun b o _ q => ?_) nB nk na hka (PySem.W.SortsAt.data ek hal hsk hu) hk hz fun h' tk c k' n' => h _ ?_
    · by_cases hb : b = kS
      · rw [hb, nB] at q
        cases q
      · rw [gB b hb] at q
        exact q
    · have kp : ∀ b o, b ∉ [kS, a] → s'.heap.get? b = some o → h'.get? b = some o := fun b o hb q => by
        simp only [List.mem_cons, List.not_mem_nil, or_false, not_or] at hb
        exact k' b o hb.2 (by rw [gB b hb.1]; exact q)
      have hv : Vals (srtBy xs kz) (PySem.W.sortVals (PySem.W.dataKind s'.heap kz) false kA.toList us) := out_vals r hkl ⟨s'.heap, kA.toList, hal, rfl, ek⟩
      have nt : ∀ b u, H1 b = some u → b ∉ [kS, a] := fun b u q hb => by
        simp only [List.mem_cons, List.not_mem_nil, or_false] at hb
        rcases hb with rfl | rfl
        · rw [hk0] at q; cases q
        · rw [ha0] at q; cases q
      have J : Inv X pins σ (upd H1 a (.lst (srtBy xs kz))) { s' with heap := h', toks := tk } := by
        refine I3.step (g' := s'.gens) (d' := s'.drawn) (t' := tk) (ch := [kS, a]) (fun b hb => ?_) (fun b o _ _ hc q _ => kp b o hc q) (fun b o _ _ hc q _ => ⟨o.slots, kp b o hc q⟩) (fun b o hc _ n => ?_) (fun b o hc q => ⟨o, kp b o hc q⟩)
          (fun b ys q => ?_) (fun b o u q => ?_) (fun b ps q => ⟨#[], ?_⟩) (fun m hm => ?_) (fun b u q => ?_) I3.bare
        · simp only [List.mem_cons, List.not_mem_nil, or_false] at hb
          rcases hb with rfl | rfl
          · exact ⟨ok.yg, ok.nl, ok.nc, ok.np⟩
          · exact ⟨oa.yg, oa.nl, oa.nc, oa.np⟩
        · rw [upd_ne (fun z => hc (by rw [z]; simp))]
          exact n
        · rw [upd_ne (ne_of_none q ha0)]
          exact q
        · rw [upd_ne (ne_of_none q ha0)]
          exact q
        · rw [upd_ne (ne_of_none q ha0), q]
          simp
        · obtain ⟨ob, es, ep, ho, rr⟩ := hm
          exact ⟨ob, es, ep, kp _ ob (by simp only [List.mem_cons, List.not_mem_nil, or_false, not_or]; exact ⟨Ne.symm ok.nl, Ne.symm oa.nl⟩) ho, rr⟩
        · by_cases hb : b = a
          · subst hb
            rw [upd_same] at q
            cases q
            refine ⟨?_, _, c, hv, n'⟩
            rw [hv.length]
            rw [PySem.W.sortVals_length false (by rw [Array.length_toList]; exact hk)]
            exact hz
          · rw [upd_ne hb] at q
            refine (I3.hok b u q).stay (fun c2 v hc y => kp c2 v ?_ y) (fun c2 y => ?_) fun c2 ys y => ?_
            · rcases hc with y | y
              · rw [y]; exact nt b u q
              · exact nt c2 _ y
            · rw [upd_ne (ne_of_none y ha0)]
              exact y
            · rw [upd_ne (ne_of_none y ha0)]
              exact y
      exact ⟨.ref a, _, J, rfl, hq a ha0⟩
/-- sorted(xs, key=f) -/
theorem sorted_keyI {l f : Addr} {xs : List V} {W : Nat → List V → Hp → Prop} {Q : VK} (I : Inv X pins σ H s) (hs : SqL X.K H l xs) (w0 : W 0 [] H)
    (turn : ∀ i x u ks H1 pins1 s1, (∀ p ∈ pins, p ∈ pins1) → xs[i]? = some x → RelV x u → W i ks H1 → Inv X pins1 σ H1 s1 → wpAny (model X.prog X.w) X.A.in1.in1 (call (.ref f) [u]) (EP X pins1 σ fun kv H2 => W (i + 1) (ks ++ [kv]) H2) (fun _ _ => False) s1)
    (fin : ∀ ks H1 s1 pins1 vs, W xs.length ks H1 → Inv X pins1 σ H1 s1 → Vals ks vs → ∃ kz, PySem.W.EachIs (fun v d => ∃ as, Reads s1.heap v d as) vs kz ∧ PySem.W.AllAlike kz ∧ PySem.W.Sortable kz ∧ (∀ d, d ∈ kz → X.A.in1.in1.units + d.depth < cLine) ∧ kz.length = xs.length ∧ ∀ p, H1 p = none → Q (.ref p) (upd H1 p (.lst (srtBy xs kz)))) :
    wpAny (model X.prog X.w) X.A (call (.builtin "sorted") [.ref l] [(Str.ofString "key", .ref f)]) (EP X pins σ Q) X.xe s := by
  obtain ⟨its, r, pl, hz⟩ := I.list hs
  have hz' : its.length ≤ sizeLine := by rw [← r.length]; exact hz
  refine PySem.W.sorted_of_sort (vs := its) pl.isList hz' (ksk_s1 _ _) (fun _ => ksk_l1 _ _) fun E' => ?_
  rw [ksk_t1]
  unfold ksk_tree
  have hc := PySem.W.copyHeap_at s.heap its
  generalize hg : PySem.W.copyHeap s.heap its = g at hc
  have gk : ∀ b o, s.heap.get? b = some o → g.get? b = some o := fun b o q => by rw [← hg]; exact PySem.W.copyHeap_old q
  obtain ⟨e1, h1⟩ : ∃ e1, (g.update (s.heap.objs.size + 1) (Obj.mapSeq fun _ => (#[] : Array Value))).get? (s.heap.objs.size + 1) = some (seqObj "list" #[] e1) := ⟨_, get?_update_seq hc fun _ => #[]⟩
  have sb := Heap.SameBut.update g (s.heap.objs.size + 1) (Obj.mapSeq fun _ => (#[] : Array Value))
  generalize hg2 : g.update (s.heap.objs.size + 1) (Obj.mapSeq fun _ => (#[] : Array Value)) = g2 at h1 sb
  refine wpAny_bind (listItems_at hc rfl (wpAny_bind (listUpdate_at hc rfl ?_ (by rw [List.size_toArray]; exact hz') (Nat.zero_le _))))
  rw [hg2]
  refine wpAny_bind (seqEpoch_at h1 rfl (wpAny_bind (wpAny_newTuple (wpAny_bind (wpAny_newList (wpAny_holding ?_) (Nat.zero_le _))) (by show its.length ≤ _; exact hz'))))
  have l2 : s.heap.objs.size + 1 < g2.objs.size := Heap.lt_size h1
  have kp : ∀ b o, s.heap.get? b = some o → ((g2.push (seqObj "tuple" its.toArray 0)).push (seqObj "list" #[] 0)).get? b = some o := fun b o q =>
    Heap.get?_push_of_some _ (Heap.get?_push_of_some _ ((sb.2 b (Nat.ne_of_lt (Nat.lt_succ_of_lt (Heap.lt_size q)))).trans (gk b o q)))
  have I1 : Inv X pins σ H { s with heap := (g2.push (seqObj "tuple" its.toArray 0)).push (seqObj "list" #[] 0) } := I.kept (t' := s.toks) kp
  have oa : Ours X pins (s.heap.objs.size + 1) := ours_of I (Nat.le_succ _)
  have lk : s.heap.objs.size ≤ (g2.push (seqObj "tuple" its.toArray 0)).objs.size := by rw [Heap.size_push]; omega
  have ok : Ours X pins (g2.push (seqObj "tuple" its.toArray 0)).objs.size := ours_of I lk
  have hka : (g2.push (seqObj "tuple" its.toArray 0)).objs.size ≠ s.heap.objs.size + 1 := by rw [Heap.size_push]; omega
  refine keys_run (X := X) (pins := pins) (e1 := e1) (Q := Q) oa ok hka hz' r (I1.pins_of fun p hp => ?_) w0 turn fin fun s2 h2 => ⟨rfl, h2⟩
  rcases List.mem_cons.mp hp with rfl | hp
  · exact ⟨Heap.get?_push_size _ rfl, I.hok.fresh lk, ok.nl, ok.nf, fun v z => by cases z⟩
  · rcases List.mem_cons.mp hp with rfl | hp
    · exact ⟨Heap.get?_push_of_some _ (Heap.get?_push_of_some _ h1), I.hok.fresh (Nat.le_succ _), oa.nl, oa.nf, fun v z => by cases z⟩
    · exact I1.pin p (List.mem_append_right _ hp)
end
end DL
namespace DL
open PySem L2 PyProof.Rows
/-- the items' keys; the store is kept -/
def keysM (kf : D → M D) : List D → Store → Option (List PyData)
  | [], _ => some []
  | d :: ds, m => match kf d m with
    | .ok kd m' => if m' = m then (match toPD kd, keysM kf ds m with | some x, some xs => some (x :: xs) | _, _ => none) else none
    | _ => none
def isTc : PyData → Bool
  | .tuple (_ :: _) => true
  | _ => false
def isOt : PyData → Bool
  | .tuple _ => false
  | .none => false
  | _ => true
/-- keys that can be put in order -/
def kzOk (kz : List PyData) : Bool := (kz.all fun a => kz.all (PySem.W.alike a)) && (kz.all isTc || kz.all isOt) && kz.all fun d => decide (d.depth ≤ 40)
theorem kz_alike {kz : List PyData} (h : kzOk kz = true) : PySem.W.AllAlike kz := fun d hd d' hd' => by
  simp only [kzOk, Bool.and_eq_true, List.all_eq_true] at h
  exact h.1.1 d hd d' hd'
theorem kz_sort {kz : List PyData} (h : kzOk kz = true) : PySem.W.Sortable kz := by
  simp only [kzOk, Bool.and_eq_true, Bool.or_eq_true, List.all_eq_true] at h
  rcases h.1.2 with q | q
  · refine .inl fun d hd => ?_
    have := q d hd
    match d, this with
    | .tuple (x :: r), _ => exact ⟨x, r, rfl⟩
  · refine .inr fun d hd => ?_
    have := q d hd
    match d, this with
    | .int _, _ => exact ⟨by simp, by simp⟩
    | .bool _, _ => exact ⟨by simp, by simp⟩
    | .str _, _ => exact ⟨by simp, by simp⟩
    | .list _, _ => exact ⟨by simp, by simp⟩
    | .dict _, _ => exact ⟨by simp, by simp⟩
theorem kz_deep {kz : List PyData} (h : kzOk kz = true) {d : PyData} (hd : d ∈ kz) : d.depth ≤ 40 := by
  simp only [kzOk, Bool.and_eq_true, List.all_eq_true, decide_eq_true_eq] at h
  exact h.2 d hd
def sortR (kf : D → M D) (ds : List D) : M D := fun m => match keysM kf ds m with
  | some kz => if kzOk kz = true then .ok (.lst (srtBy ds kz)) m else .bad
  | none => .bad
def sortKD (kf : D → M D) (x : D) : M D := match x with
  | .tup _ => M.bad
  | _ => seqD x >>= sortR kf
theorem keysM_len {kf : D → M D} {m : Store} : ∀ {ds : List D} {kz : List PyData}, keysM kf ds m = some kz → kz.length = ds.length
  | [], _, h => by cases h; rfl
  | d :: ds, kz, h => by
    unfold keysM at h
    split at h
    · split at h
      · split at h
        · rename_i h2
          cases h
          simp [keysM_len h2]
        · cases h
      · cases h
    · cases h
theorem keysM_at {kf : D → M D} {m : Store} : ∀ {ds : List D} {kz : List PyData} {i : Nat} {d : D}, keysM kf ds m = some kz → ds[i]? = some d → ∃ kd x, kf d m = .ok kd m ∧ toPD kd = some x ∧ kz[i]? = some x
  | [], _, _, _, _, h => by simp at h
  | d :: ds, kz, i, d', h, hi => by
    unfold keysM at h
    split at h
    · rename_i kd m' e
      split at h
      · rename_i em
        subst em
        split at h
        · rename_i x xs e1 e2
          cases h
          cases i with
          | zero =>
            simp at hi
            subst hi
            exact ⟨kd, x, e, e1, rfl⟩
          | succ i =>
            obtain ⟨kd', x', q1, q2, q3⟩ := keysM_at e2 (i := i) (by simpa using hi)
            exact ⟨kd', x', q1, q2, by simpa using q3⟩
        · cases h
      · cases h
    · cases h
section
variable {k : Kx} {X : Cx} {E : XK} {pins : List (Addr × Obj)} {σ : L2.St} {H : Hp} {s : Shared}
theorem rpA_each {G : Hp} {L : Lam} {vs : List V} {ds : List D} (r : RpA k X.K G L vs ds) : PySem.W.EachIs (fun v d => Rp k X.K G L v d) vs ds := by
  induction vs generalizing ds with
  | nil => cases r; exact .nil
  | cons v vs ih =>
    cases r with
    | cons h t => exact .cons h (ih t)
theorem each_rpA {G : Hp} {L : Lam} {vs : List V} {ds : List D} (r : PySem.W.EachIs (fun v d => Rp k X.K G L v d) vs ds) : RpA k X.K G L vs ds := by
  induction r with
  | nil => exact .nil
  | cons h _ ih => exact .cons h ih
theorem each_zip2 {α β : Type} {R : α → β → Prop} {as : List α} {bs : List β} (r : PySem.W.EachIs R as bs) : ∀ {kz : List PyData}, PySem.W.EachIs (fun (p : α × PyData) (q : β × PyData) => R p.1 q.1 ∧ p.2 = q.2) (as.zip kz) (bs.zip kz) := by
  induction r with
  | nil => exact .nil
  | cons h _ ih =>
    intro kz
    cases kz with
    | nil => exact .nil
    | cons y kz => exact .cons ⟨h, rfl⟩ ih
theorem each_fst2 {α β : Type} {R : α → β → Prop} {as : List (α × PyData)} {bs : List (β × PyData)} (r : PySem.W.EachIs (fun (p : α × PyData) (q : β × PyData) => R p.1 q.1 ∧ p.2 = q.2) as bs) : PySem.W.EachIs R (as.map (·.1)) (bs.map (·.1)) := by
  induction r with
  | nil => exact .nil
  | cons h _ ih => exact .cons h.1 ih
theorem dataLe_snd {α β : Type} (p q : α × PyData) (p' q' : β × PyData) (h : p.2 = p'.2) (h' : q.2 = q'.2) : PySem.W.dataLe false (·.2) p q = PySem.W.dataLe false (·.2) p' q' := by
  unfold PySem.W.dataLe PySem.W.sortLe
  simp only [h, h']
theorem srt_rpA {G : Hp} {L : Lam} {vs : List V} {ds : List D} (r : RpA k X.K G L vs ds) (kz : List PyData) : RpA k X.K G L (srtBy vs kz) (srtBy ds kz) := by
  have z := each_zip2 (rpA_each r) (kz := kz)
  refine each_rpA (each_fst2 (PySem.W.sort_each z fun p hp q hq => ?_))
  exact dataLe_snd _ _ _ _ (z.zip p hp).2 (z.zip q hq).2
/-- a call that raises nothing -/
theorem run_quiet {A : Around} {lvl n : Nat} {f : Addr} {den : List D → M D} {Q : VK} {us : List Value} {ws : List V} (F : FnDn k X lvl f n den) (hr : Room lvl A) (e0 : Env0 X.prog X.w X.K X.mg X.base A X.stack s H) (I : Inv X pins σ H s) (r : Vals ws us) (h : spD k X.K n den ws H Q fun _ _ _ => False) :
    wpAny (model X.prog X.w) A (call (.ref f) us) (EP X pins σ Q) (fun _ _ => False) s := by
  refine wpAny_call (codeAny_mono (F A X.stack s H us ws Q _ hr e0 r h) fun r s' hq => ?_)
  cases r with
  | error e =>
    obtain ⟨_, _, _, _, _, _, _, _, _, _, _, _, z⟩ := hq
    exact z.elim
  | ok fl =>
    cases fl with
    | ret u => exact I.after hq
    | next => exact False.elim hq
    | brk => exact False.elim hq
    | cont => exact False.elim hq
/-- the turns of the keys, by a denotation of the key's call -/
def rSortK (k : Kx) (K : PySem.W.Frag) (kf : D → M D) : V → Hp → VK → Prop := fun x H Q => ∃ a xs ds kz G L μ, x = .ref a ∧ SqL K H a xs ∧ RpA k K G L xs ds ∧ Wd k K G H L μ ∧ keysM kf ds μ = some kz ∧ kzOk kz = true ∧
  ∀ G' H' L', Stp G H L G' H' L' → Wd k K G' H' L' μ → ∀ p, H' p = none → Q (.ref p) (upd H' p (.lst (srtBy xs kz)))
theorem sortK_run {f : Addr} {kf : D → M D} {x : V} {u : Value} {Q : VK} (J : Hp → Prop) (j0 : J H) (hu : X.A.units + 60 < cLine)
    (call1 : ∀ (v : V) (d kd : D) (w : Value) (G1 H1 : Hp) (L1 : Lam) (μ : Store) (pins1 : List (Addr × Obj)) (s1 : Shared) (Q1 : VK), (∀ p ∈ pins, p ∈ pins1) → J H1 → Inv X pins1 σ H1 s1 → RelV v w → Rp k X.K G1 L1 v d → Wd k X.K G1 H1 L1 μ → kf d μ = .ok kd μ →
      (∀ G2 H2 L2, Stp G1 H1 L1 G2 H2 L2 → Wd k X.K G2 H2 L2 μ → J H2 → ∀ y, Rp k X.K G2 L2 y kd → Q1 y H2) → wpAny (model X.prog X.w) X.A.in1.in1 (call (.ref f) [w]) (EP X pins1 σ Q1) (fun _ _ => False) s1)
    (I : Inv X pins σ H s) (rx : RelV x u) (h : rSortK k X.K kf x H Q) :
    wpAny (model X.prog X.w) X.A (call (.builtin "sorted") [u] [(Str.ofString "key", .ref f)]) (EP X pins σ Q) X.xe s := by
  obtain ⟨a, xs, ds, kz, G, L, μ, rfl, hs, ra, w, hk, hok, hq⟩ := h
  cases (show u = Value.ref a from rx)
  have kl := keysM_len hk
  have xl := ra.len
  refine sorted_keyI (Q := Q) (W := fun i ks H1 => J H1 ∧ ∃ G1 L1, Stp G H L G1 H1 L1 ∧ Wd k X.K G1 H1 L1 μ ∧ DpAll X.K H1 ks (kz.take i) ∧ ∃ kds, RpA k X.K G1 L1 ks kds ∧ toPDs kds = some (kz.take i)) I hs ⟨j0, G, L, Stp.refl G H L, w, .nil, [], .nil, rfl⟩ (fun i x u ks H1 pins1 s1 hpn hx rx hw I1 => ?_) fun ks H1 s1 pins1 vs hw I1 rk => ?_
  · obtain ⟨j1, G1, L1, st, w1, dp, kds, rk, hkd⟩ := hw
    obtain ⟨d, hd, rd⟩ := ra.get2 hx
    obtain ⟨kd, y, e1, e2, e3⟩ := keysM_at hk hd
    refine call1 x d kd u G1 H1 L1 μ pins1 s1 _ hpn j1 I1 rx (Rp.mono st.g st.l _ _ rd) w1 e1 fun G2 H2 L2 st2 w2 j2 z rz => ?_
    have et : kz.take (i + 1) = kz.take i ++ [y] := by rw [List.take_add_one, e3]; rfl
    have rk2 := RpA.append (RpA.mono st2.g st2.l _ _ rk) (.cons rz .nil)
    have tp : toPDs (kds ++ [kd]) = some (kz.take (i + 1)) := by
      rw [et]
      clear rk2 rk dp et
      generalize kz.take i = ts at hkd
      induction kds generalizing ts with
      | nil => simp only [toPDs] at hkd; cases hkd; simp [toPDs, e2]
      | cons q qs ih =>
        obtain ⟨y1, ys, rfl, h1, h2⟩ := toPDs_cons hkd
        simp [toPDs, h1, ih ys h2]
    exact ⟨j2, G2, L2, st.trans st2, w2, dpA_of (X := X) w2.ext _ _ _ rk2 tp, kds ++ [kd], rk2, tp⟩
  · obtain ⟨_, G1, L1, st, w1, dp, _⟩ := hw
    have ek : kz.take xs.length = kz := List.take_of_length_le (by omega)
    rw [ek] at dp
    refine ⟨kz, ?_, kz_alike hok, kz_sort hok, fun d hd => ?_, by omega, hq G1 H1 L1 st w1⟩
    · obtain ⟨as, hr⟩ := Dp.readsAll I1 kz ks vs dp rk
      clear ek kl hk hok hq
      exact PySem.W.readsAll_each id (by rw [List.map_id]; exact hr)
    · have := kz_deep hok hd
      show X.A.units + 1 + 1 + d.depth < cLine
      omega
end
end DL
namespace DL
open PySem L2 PyProof.Rows
section
variable {k : Kx} {X : Cx} {E : XK}
/-- what the denotation says, from its goodness -/
theorem sortK_good {kf : D → M D} {d : D} {x : V} {G H : Hp} {L : Lam} {μ : Store} {Q : VK} (r : Rp k X.K G L x d) (w : Wd k X.K G H L μ) (g : Good k X.K E G H L (sortKD kf d μ) (QV k X.K Q)) : rSortK k X.K kf x H Q := by
  have key : (∀ t, d ≠ .tup t) → Good k X.K E G H L ((seqD d >>= sortR kf) μ) (QV k X.K Q) → rSortK k X.K kf x H Q := fun nt g => by
    obtain ⟨a, vs, ds, rfl, ra, hs, g2⟩ := seq_of r w g
    unfold sortR at g2
    cases hk : keysM kf ds μ with
    | none => rw [hk] at g2; exact False.elim g2
    | some kz =>
      rw [hk] at g2
      simp only at g2
      by_cases hok : kzOk kz = true
      · rw [if_pos hok] at g2
        rcases hs with ⟨hs, _⟩ | ⟨_, z⟩
        · refine ⟨a, vs, ds, kz, G, L, μ, rfl, hs, ra, w, hk, hok, fun G' H' L' st w' p hp => ?_⟩
          have g3 := Good.up g2 st
          exact g3 _ _ _ (w'.newS hp) (w'.new hp) _ (.lst (SqL.of upd_same) (srt_rpA (RpA.mono (Same.trans st.g (w'.newS (o := .lst (srtBy vs kz)) hp).g) st.l _ _ ra) kz))
        · exact absurd z (nt _)
      · rw [if_neg hok] at g2
        exact False.elim g2
  cases d with
  | tup t => exact False.elim g
  | _ => exact key (fun _ z => nomatch z) g
/-- sorted(xs, key=f): f a def -/
theorem j_sortK {a : Expr} {fn : Str} {ma : DEnv → M D} {lvl : Nat} {f : Addr} {den : List D → M D} {p fp kpos pos : Pos} (F : FnDn k X lvl f 1 den) (hr : Room (lvl + 2) X.A) (hg : Gl X "sorted") (hm : X.mg "sorted" = none) (hf : Gl X fn) (hmf : X.mg fn = some (.ref f)) (ha : JE k X E a ma)
    (hdf : (fn == ("__debug__" : Str)) = false := by decide)
    (he : backTo pos (starEach [a] X.env) = (false, eval a X.env) :: backTo pos (starEach [] X.env) := by rfl) (hpl : (backTo pos (starEach [a] X.env)).any (·.1) = false := by rfl) (h1 : starEach [a] X.env = [(false, eval a X.env)] := by rfl)
    (hall : (backToKw pos (keywordEach [⟨some "key", .Name fn fp, kpos⟩] X.env)).all (·.1.isSome) = true := by rfl) (hnone : (backToKw pos (keywordEach [⟨some "key", .Name fn fp, kpos⟩] X.env)).any (·.1.isNone) = false := by rfl) (hks : (backToKw pos (keywordEach [⟨some "key", .Name fn fp, kpos⟩] X.env)).filterMap (·.1) = [Str.ofString "key"] := by rfl) :
    JE k X E (.Call (.Name "sorted" p) [a] [⟨some "key", .Name fn fp, kpos⟩] pos) (eUn (sortKD fun d => callN 1 den [d]) ma) := by
  have hu : X.A.units + 60 < cLine := by have := hr.un; omega
  have cr : CallRK X (.builtin "sorted") [Str.ofString "key"] (fun xs zs H Q => ∃ x, xs = [x] ∧ zs = [.ref f] ∧ rSortK k X.K (fun d => callN 1 den [d]) x H Q) := by
    intro pins s σ H xs zs us ws Q I r r' h
    obtain ⟨x, rfl, rfl, h⟩ := h
    obtain ⟨u, rfl, ru⟩ := r.one
    rw [Vals.ref1 r']
    refine sortK_run (fun _ => True) trivial hu (fun v d kd w G1 H1 L1 μ pins1 s1 Q1 _ _ I1 rv rd w1 e1 q1 => ?_) I ru h
    refine run_quiet F hr.in1.in1 I1.env0.in1.in1 I1 (.cons rv .nil) ⟨[d], G1, L1, μ, .cons rd .nil, rfl, w1, ?_⟩
    have e2 : den [d] μ = .ok kd μ := by
      have : callN 1 den [d] μ = den [d] μ := by simp [callN]
      rw [← this]
      exact e1
    rw [e2]
    exact fun G2 H2 L2 st w2 y ry => q1 G2 H2 L2 st w2 trivial y ry
  refine PE.imp (pe_callBK cr hg hm (by decide +kernel) (pa_cons ha pa_nil h1) (pk_cons (pe_glob (v := .ref f) hf hmf rfl hdf) pk_nil) (by decide) (by decide) he hpl hall hnone hks) fun s H Q h => ?_
  obtain ⟨e, G, L, μ, sg, w, gd⟩ := h
  exact ⟨e, G, L, μ, sg, w, Good.mono (Good.bind gd) fun d1 m1 G1 H1 L1 st1 w1 q1 x r1 => ⟨x, rfl, rfl, sortK_good r1 w1 q1⟩⟩
end
end DL
namespace DL
open PySem L2 PyProof.Rows
end DL
namespace DL
open PySem L2 PyProof.Rows
/-- x += e -/
def sAug (i : Nat) (a : DEnv → M D) : DEnv → M Out := fun e => do let x ← getv i e; let y ← a e; let z ← gI0 (fun i j => .int (i + j)) x y; pure (.nx (e.set i (some z)))
section
variable {k : Kx} {X : Cx} {E : XK}
theorem js_aug (i : Nat) {x : Str} {e : Expr} {me : DEnv → M D} {pos pos' : Pos} (hN : X.N.Nodup) (hi : X.N[i]? = some x) (hx : Loc X.env.scope x) (he : JE k X E e me) (hf : X.fn x = true ∨ X.env.scope.names.lookup x = some .local := by first | exact .inl rfl | exact .inr rfl) :
    JS k X E (.AugAssign (.Name x pos') .Add e pos) (sAug i me) := by
  refine PS.imp (ps_aug hN hi hx he ip_add hf) fun Ds s H h => ?_
  obtain ⟨e', G, L, μ, sg, w, gd⟩ := h
  have g1 : Good k X.K E G H L ((getv i e' >>= fun x => (me e' >>= fun y => (gI0 (fun i j => .int (i + j)) x y >>= fun z => (pure (.nx (e'.set i (some z))) : M Out)))) μ) _ := gd
  cases hv : e'[i]? with
  | none =>
    have : getv i e' μ = .bad := by unfold getv; rw [hv]; rfl
    rw [bind_ap, this] at g1
    exact False.elim g1
  | some o =>
    cases o with
    | none =>
      have : getv i e' μ = .bad := by unfold getv; rw [hv]; rfl
      rw [bind_ap, this] at g1
      exact False.elim g1
    | some d =>
      obtain ⟨v, hs, rv⟩ := sg.2 i d hv
      rw [bind_ap, getv_some μ hv, thn_ok] at g1
      refine ⟨v, hs, e', G, L, μ, sg, w, Good.mono (Good.bind g1) fun d1 m1 G1 H1 L1 st1 w1 q1 y ry => ?_⟩
      cases d with
      | int a =>
        cases d1 with
        | int b =>
          cases rv
          cases ry
          refine ⟨a, b, rfl, rfl, ?_⟩
          exact Good.ret q1 w1 _ ((sg.mono st1.g st1.l).set i (.int (a + b)))
        | _ => exact False.elim q1
      | _ => exact False.elim q1
end
def isDf : Value → Option V
  | .none => some .non
  | .bool b => some (.bl b)
  | .int i _ => some (.int i)
  | .ref a => some (.ref a)
  | _ => none
theorem vals_df : ∀ {us : List Value} {vs : List V}, us.map isDf = vs.map some → Vals vs us
  | [], [], _ => .nil
  | [], _ :: _, h => by cases h
  | _ :: _, [], h => by cases h
  | u :: us, v :: vs, h => by
    simp only [List.map_cons, List.cons.injEq] at h
    refine .cons ?_ (vals_df h.2)
    cases u with
    | none => cases h.1; exact rfl
    | bool b => cases h.1; exact rfl
    | int i t => cases h.1; exact ⟨t, rfl⟩
    | ref a => cases h.1; exact rfl
    | _ => exact absurd h.1 (by simp [isDf])
/-- a def of the text with defaults: dvs, which stand for ds -/
structure FAD (k : Kx) (K : PySem.W.Frag) (x qual : Str) (st : Stmt) (ps : List Str) (ds : List D) (f : Addr) : Prop where
  ex : ∃ fd dvs, L2.FunD K x qual (defArgs st) (defBody st) (defScope st) dvs [] f fd ∧ dvs ≠ [] ∧ ∀ G L, RpA k K G L dvs ds
/-- how n values bind; the defaults behind the first j fill up -/
def BndD (x qual : Str) (st : Stmt) (ps : List Str) (d n j : Nat) : Prop := ∀ (T : Addr) (kV doc pm : Value) (an : Option Addr) (cdv ct : Value) (us its : List Value), us.length = n → its.length = d →
  ∃ k, bindArgs (PySem.W.fnOf x qual (defArgs st) (defBody st) (defScope st) (.ref T) kV doc pm an cdv ct) ⟨us, []⟩ = seqItems? (.ref T) >>= k ∧ k (some its.toArray) = pure (ps.zip (us ++ its.drop j))
section
variable {k : Kx} {P : Program} {w : World} {K : PySem.W.Frag} {mg : Str → Option Value} {base : Heap}
theorem FAD.kp {x qual : Str} {st : Stmt} {ps : List Str} {ds : List D} {f : Addr} (F : FAD k K x qual st ps ds f) : PySem.W.keepIn K (.ref f) = true := let ⟨_, _, h, _⟩ := F.ex; h.kp
theorem fad_mk {x qual : Str} {st : Stmt} {ps : List Str} {f T : Addr} {oc oc2 : Value} {od an od2 : Option Addr} {osl osl2 : Array (Option Value)} {kV doc pm cdv ct : Value} {its : Array Value} {n : Nat} {vs : List V} {ds : List D}
    (l : K.lookup f = some ⟨oc, od, .func (PySem.W.fnOf x qual (defArgs st) (defBody st) (defScope st) (.ref T) kV doc pm an cdv ct), osl⟩) (c : PySem.W.codeIn K cdv qual = true) (kp : PySem.W.keepIn K (.ref f) = true)
    (lT : K.lookup T = some ⟨oc2, od2, .seq its n, osl2⟩) (hv : its.toList.map isDf = vs.map some) (hn : vs ≠ []) (hr : ∀ G L, RpA k K G L vs ds) : FAD k K x qual st ps ds f :=
  ⟨_, vs, ⟨⟨oc, od, _, kV, doc, pm, an, cdv, ct, osl, rfl, l, c, .inr ⟨hn, T, _, its.toList, n, rfl, lT, by simp, vals_df hv⟩, .inl rfl⟩, kp⟩, hn, hr⟩
theorem fnr_okD {x qual : Str} {st : Stmt} {f : Addr} {N ps : List Str} {lvl n j : Nat} {ds : List D} {m : DEnv → M Out} (F : FAD k K x qual st ps ds f) (S : FnScope N ps (defScope st)) (hj : n + (ds.length - j) = ps.length) (hb : BndD x qual st ps ds.length n j)
    (hbody : ∀ (cdv : Value) (A : Around) (outer : List Env) (s : Shared) (H : Hp) (E : XK), Room lvl (A.deeper (envOfC qual (defScope st) s.heap.objs.size f cdv)) → JB k (cxOf (L2.CX P w) P w K mg base N qual (defScope st) f cdv A outer s H E) E (defBody st) m) :
    FnR P w K mg base (L2.CX P w) (lvl + 1) f (spD k K n fun as => fnD N.length m (as ++ ds.drop j)) := by
  obtain ⟨fd, dvs, h, hn, hr⟩ := F.ex
  have dl : dvs.length = ds.length := (hr (fun _ => none) []).len
  have ok : FnOk P w K mg base (L2.CX P w) (lvl + 1) f fd ps (spD k K ps.length (fnD N.length m)) := by
    refine L2.FunD.ok h S (fun vs H Q E z => ?_) fun cdv A outer s H vs Q E hrm z => ?_
    · obtain ⟨as, G, L, μ, r, hl, _⟩ := z
      rw [r.len, hl]
    · obtain ⟨as, G, L, μ, r, hl, w0, g⟩ := z
      refine ⟨_, hbody cdv A outer s H E hrm, ?_⟩
      have g1 := scope_good (X := cxOf (L2.CX P w) P w K mg base N qual (defScope st) f cdv A outer s H E) w0 g
      refine ⟨startD N.length as, G, L, μ, start_sg r, w0, Good.mono (Good.bind g1) fun o m1 G1 H1 L1 st1 w1 q1 => ?_⟩
      cases o with
      | nx e => exact fun s1 _ => Good.ret q1 w1 _ .non
      | rt d => exact fun v rv => Good.ret q1 w1 v rv
      | bk e => exact False.elim q1
      | ct e => exact False.elim q1
  obtain ⟨dsv, rv, bd⟩ := L2.FunD.binds1 h n j hn (by rw [dl]; exact hj) (by rw [dl]; exact hb)
  refine FnR.imp (ok.raw bd rv) fun vs H Q E z => ?_
  obtain ⟨as, G, L, μ, r, hl, w0, g⟩ := z
  refine ⟨as ++ ds.drop j, G, L, μ, r.append (RpA.drop j (hr G L)), ?_, w0, g⟩
  rw [List.length_append, List.length_drop, hl]
  exact hj
theorem fnr_okD0 {x qual : Str} {st : Stmt} {f : Addr} {N ps : List Str} {lvl : Nat} {ds : List D} {m : DEnv → M Out} (F : FAD k K x qual st ps ds f) (S : FnScope N ps (defScope st)) (hb : BndD x qual st ps ds.length ps.length ds.length)
    (hbody : ∀ (cdv : Value) (A : Around) (outer : List Env) (s : Shared) (H : Hp) (E : XK), Room lvl (A.deeper (envOfC qual (defScope st) s.heap.objs.size f cdv)) → JB k (cxOf (L2.CX P w) P w K mg base N qual (defScope st) f cdv A outer s H E) E (defBody st) m) :
    FnR P w K mg base (L2.CX P w) (lvl + 1) f (spD k K ps.length (fnD N.length m)) := by
  have h := fnr_okD (n := ps.length) (j := ds.length) F S (by omega) hb hbody
  have e : (fun as => fnD N.length m (as ++ ds.drop ds.length)) = fnD N.length m := by
    funext as
    rw [List.drop_length, List.append_nil]
  rw [e] at h
  exact h
end
end DL
namespace DL
open PySem L2 PyProof.Rows
open AutoSeq1 (wpAny_loadPart')
theorem int_rmul_lst (a : Int) (t : Tok) (l : Addr) (items : Array Value) (n : Nat) (dd : Option Addr) (sl : Array (Option Value)) :
    Meets (Builtin.«int.__rmul__» ⟨[.int a t, .ref l], []⟩) (fun _ R s => s.heap.get? l = some { cls := .type "list", dict := dd, data := .seq items n, slots := sl } ∧ R (.ok (.ret Value.notImplemented)) s) :=
  .of_wp fun prog w A R s h => by
    obtain ⟨hp, g, d, tk, os⟩ := s
    obtain ⟨hl, h⟩ := h
    wp_walk using wpAny_loadPart' hl
    exact ⟨_, rfl, h⟩
theorem list_mulD (l : Addr) (items : Array Value) (n : Nat) (dd : Option Addr) (sl : Array (Option Value)) (x : Int) (u : Tok) (c0 : ¬(!Builtin.List.listFitsIndex x) = true) (c1 : ¬items.size * x.toNat > (2 ^ 63 - 1) / 8) (c2 : ¬Builtin.List.listTooLong (items.size * x.toNat) = true) :
    Meets (Builtin.«list.__mul__» ⟨[.ref l, .int x u], []⟩) (fun _ R s => s.heap.get? l = some { cls := .type "list", dict := dd, data := .seq items n, slots := sl } ∧
      R (.ok (.ret (Value.ref s.heap.objs.size))) { s with heap := s.heap.push { cls := Value.type "list", data := Data.seq (List.foldl (fun x1 x2 => x1 ++ x2) #[] (List.replicate (if items.isEmpty = true then 0 else x.toNat) items)) }, toks := s.toks }) :=
  .of_wp fun prog w A R s h => by
    obtain ⟨hp, g, d, tk, os⟩ := s
    obtain ⟨hl, h⟩ := h
    have hsz := AutoListH.joined_fits c2
    wp_walk using wpAny_loadPart' hl
    refine wpAny_ite_false (decide_eq_false (Nat.not_lt.mpr hsz)) ?_
    wp_walk using wpAny_loadPart' hl
    exact ⟨_, rfl, h⟩
def mulX (x y : D) : M D := match x, y with
  | .lst ds, .int j => if 0 ≤ j ∧ j ≤ 1000 ∧ ds.length ≤ 100 then pure (.lst (List.replicate j.toNat ds).flatten) else M.bad
  | x, y => mulD x y
section
variable {k : Kx} {X : Cx} {E : XK}
def rRepS (K : PySem.W.Frag) : R2 := fun x y H Q => ∃ l j xs, x = .ref l ∧ y = .int j ∧ SqL K H l xs ∧ 0 ≤ j ∧ j ≤ 1000 ∧ xs.length ≤ 100 ∧ ∀ p, H p = none → Q (.ref p) (upd H p (.lst (List.replicate j.toNat xs).flatten))
theorem op_repS : OpR X (binaryOp .Mult) (rRepS X.K) := by
  intro pins s σ H x y v u Q I rx ry h
  obtain ⟨l, j, xs, rfl, rfl, hH, h1, h2, h3, q⟩ := h
  cases rx
  obtain ⟨t, rfl⟩ := ry
  obtain ⟨its, r, pl, z⟩ := I.list hH
  have hl := r.length
  obtain ⟨⟨cls, dd, data, sl⟩, ho, hc, n, hd⟩ := pl.isList
  simp only at hc hd
  subst hc hd
  have hle : its.length * j.toNat ≤ 100 * 1000 := Nat.mul_le_mul (by omega) (by omega)
  have hs : (100 * 1000 : Nat) ≤ sizeLine := by decide
  have hlen : its.toArray.size * j.toNat ≤ sizeLine := by rw [List.size_toArray]; omega
  have hcap : ¬ its.toArray.size * j.toNat > (2 ^ 63 - 1) / 8 := by
    have : (sizeLine : Nat) ≤ (2 ^ 63 - 1) / 8 := by decide
    omega
  have hfit : ¬ (!Builtin.List.listFitsIndex j) = true := by
    rw [fitsIndex_both (by omega) (by omega)]
    exact Bool.false_ne_true
  have hlong : ¬ Builtin.List.listTooLong (its.toArray.size * j.toNat) = true := by
    rw [notLongL hlen]
    exact Bool.false_ne_true
  have f0 : ∀ m : Nat, List.foldl (fun x1 x2 => x1 ++ x2) #[] (List.replicate m its.toArray) = (List.replicate m its).flatten.toArray := fun m => by
    have := foldl_rep its m []
    rw [List.nil_append] at this
    exact this
  have hnew : List.foldl (fun x1 x2 => x1 ++ x2) #[] (List.replicate (if its.toArray.isEmpty = true then 0 else j.toNat) its.toArray) = (List.replicate j.toNat its).flatten.toArray := by
    rw [f0]
    cases its with
    | nil => simp
    | cons a r' => rw [if_neg (by simp)]
  refine wpAny_binaryOp_repeat_ref (T := "list") (U := "int") (by decide) ⟨_, ho, rfl⟩ (fun s' => typeIs_int s' j t) noFill_list_mul PySem.F.fills_int_mul PySem.F.slot_int_rmul repeat_list PySem.F.slot_int_index.lookup
    (call_meets PySem.F.slot_int_rmul (typeIs_int s j t) PySem.F.entry_int_rmul (PySem.F.args_int_rmul_2 _ _) (int_rmul_lst j t l its.toArray n dd sl)
      ⟨ho, rfl, ⟨_, ho, rfl⟩, call_meets PySem.F.slot_list_mul ⟨_, ho, rfl⟩ PySem.F.entry_list_mul (PySem.F.args_list_mul_2 _ _) (list_mulD l its.toArray n dd sl j t hfit hcap hlong) ⟨ho, ?_⟩⟩)
  rw [hnew]
  exact ⟨.ref _, _, I.lnew (t' := s.toks) (r.rep j.toNat) (by rw [PyProof.Rows.lm_len_rep_flat, Nat.mul_comm, hl]; omega), rfl, q _ I.fresh⟩
theorem b_mulX : BinD k X E (binaryOp .Mult) mulX := by
  obtain ⟨r0, h1, h2⟩ := b_mul (k := k) (X := X) (E := E)
  refine ⟨_, OpR.or h1 op_repS, fun x y dx dy G H L μ Q rx ry w g => ?_⟩
  cases dx with
  | lst ds =>
    cases dy with
    | int j =>
      cases rx with
      | @lst a xs _ hs ha =>
        cases ry
        obtain ⟨⟨c1, c2, c3⟩, g⟩ := good_ite g
        refine .inr ⟨a, j, xs, rfl, rfl, w.ext.seq hs, c1, c2, by rw [ha.len]; exact c3, fun p hp => ?_⟩
        exact g _ _ _ (w.newS hp) (w.new hp) _ (.lst (SqL.of upd_same) (RpA.mono (w.newS (o := .lst (List.replicate j.toNat xs).flatten) hp).g (pre_refl L) _ _ (rpA_rep ha j.toNat)))
    | _ => exact .inl (h2 _ _ _ _ G H L μ Q rx ry w g)
  | _ => exact .inl (h2 _ _ _ _ G H L μ Q rx ry w g)
end
end DL
namespace LA
/-- rows of n numbers below p -/
structure Vec (p : Int) (n : Nat) (r : List Int) : Prop where
  len : r.length = n
  inn : ∀ x ∈ r, 0 ≤ x ∧ x < p
def at_ (r : List Int) (i : Nat) : Int := r.getD i 0
def dot : List Int → List Int → Int
  | a :: r, b :: x => a * b + dot r x
  | _, _ => 0
def addR (p : Int) (r o : List Int) (f : Int) : List Int := (r.zip o).map fun q => (q.1 + f * q.2) % p
def sclR (p : Int) (r : List Int) (f : Int) : List Int := r.map fun a => a * f % p
def leadR (r : List Int) : Nat := r.findIdx fun a => a != 0
def Nl (p : Int) (r x : List Int) : Prop := dot r x % p = 0
theorem at_lt {r : List Int} {i : Nat} (h : i < r.length) : at_ r i = r[i] := by simp [at_, List.getD, h]
theorem at_ge {r : List Int} {i : Nat} (h : r.length ≤ i) : at_ r i = 0 := by simp [at_, List.getD, h]
theorem at_in {p : Int} {n : Nat} {r : List Int} (h : Vec p n r) (hp : 0 < p) (i : Nat) : 0 ≤ at_ r i ∧ at_ r i < p := by
  by_cases hi : i < r.length
  · rw [at_lt hi]
    exact h.inn _ (List.getElem_mem hi)
  · rw [at_ge (by omega)]
    omega
theorem ext_at {n : Nat} {r s : List Int} (h1 : r.length = n) (h2 : s.length = n) (h : ∀ i, i < n → at_ r i = at_ s i) : r = s := by
  apply List.ext_getElem (by omega)
  intro i a b
  have := h i (by omega)
  rw [at_lt a, at_lt b] at this
  exact this
@[simp] theorem addR_len {p f : Int} {r o : List Int} : (addR p r o f).length = min r.length o.length := by simp [addR]
@[simp] theorem sclR_len {p f : Int} {r : List Int} : (sclR p r f).length = r.length := by simp [sclR]
theorem addR_at {p f : Int} {n : Nat} {r o : List Int} (h1 : r.length = n) (h2 : o.length = n) {i : Nat} (hi : i < n) : at_ (addR p r o f) i = (at_ r i + f * at_ o i) % p := by
  have a : i < (addR p r o f).length := by rw [addR_len]; omega
  rw [at_lt a, at_lt (by omega), at_lt (by omega)]
  simp [addR]
theorem sclR_at {p f : Int} {r : List Int} {i : Nat} (hi : i < r.length) : at_ (sclR p r f) i = at_ r i * f % p := by
  rw [at_lt (by simpa using hi), at_lt hi]
  simp [sclR]
theorem addR_vec {p f : Int} {n : Nat} {r o : List Int} (hp : 0 < p) (h1 : Vec p n r) (h2 : Vec p n o) : Vec p n (addR p r o f) where
  len := by rw [addR_len, h1.len, h2.len]; omega
  inn := fun x hx => by
    simp only [addR, List.mem_map] at hx
    obtain ⟨q, _, rfl⟩ := hx
    exact ⟨Int.emod_nonneg _ (by omega), Int.emod_lt_of_pos _ hp⟩
theorem sclR_vec {p f : Int} {n : Nat} {r : List Int} (hp : 0 < p) (h1 : Vec p n r) : Vec p n (sclR p r f) where
  len := by rw [sclR_len, h1.len]
  inn := fun x hx => by
    simp only [sclR, List.mem_map] at hx
    obtain ⟨q, _, rfl⟩ := hx
    exact ⟨Int.emod_nonneg _ (by omega), Int.emod_lt_of_pos _ hp⟩
theorem lead_le (r : List Int) : leadR r ≤ r.length := List.findIdx_le_length
theorem lead_at {r : List Int} (h : leadR r < r.length) : at_ r (leadR r) ≠ 0 := by
  rw [at_lt h]
  have t := List.findIdx_getElem (xs := r) (p := fun a => a != 0) (w := h)
  simp only [bne_iff_ne, ne_eq] at t
  exact t
theorem lead_before {r : List Int} {i : Nat} (h : i < leadR r) : at_ r i = 0 := by
  have hl := lead_le r
  rw [at_lt (by omega)]
  have t := List.not_of_lt_findIdx h
  simp at t
  exact t
theorem lead_is {r : List Int} {i : Nat} (hi : i < r.length) (h1 : at_ r i ≠ 0) (h2 : ∀ j, j < i → at_ r j = 0) : leadR r = i := by
  rcases Nat.lt_trichotomy (leadR r) i with h | h | h
  · exact absurd (h2 _ h) (lead_at (by omega))
  · exact h
  · exact absurd (lead_before h) h1
theorem lead_none {r : List Int} (h : ¬ leadR r < r.length) : ∀ i, at_ r i = 0 := fun i => by
  by_cases hi : i < r.length
  · exact lead_before (by omega)
  · exact at_ge (by omega)
theorem dot_add (p f : Int) : ∀ {n : Nat} {r o x : List Int}, r.length = n → o.length = n → ∃ c, dot (addR p r o f) x = dot r x + f * dot o x + p * c
  | 0, [], [], x, _, _ => ⟨0, by simp [addR, dot]⟩
  | n + 1, a :: r, b :: o, [], _, _ => ⟨0, by simp [addR, dot]⟩
  | n + 1, a :: r, b :: o, y :: x, h1, h2 => by
    obtain ⟨c, hc⟩ := dot_add p f (n := n) (r := r) (o := o) (x := x) (by simpa using h1) (by simpa using h2)
    have e : addR p (a :: r) (b :: o) f = (a + f * b) % p :: addR p r o f := rfl
    refine ⟨c - (a + f * b) / p * y, ?_⟩
    rw [e]
    simp only [dot, hc, Int.emod_def]
    grind
theorem dot_scl (p f : Int) : ∀ {r x : List Int}, ∃ c, dot (sclR p r f) x = f * dot r x + p * c
  | [], x => ⟨0, by simp [sclR, dot]⟩
  | a :: r, [] => ⟨0, by simp [sclR, dot]⟩
  | a :: r, y :: x => by
    obtain ⟨c, hc⟩ := dot_scl p f (r := r) (x := x)
    have e : sclR p (a :: r) f = a * f % p :: sclR p r f := rfl
    refine ⟨c - a * f / p * y, ?_⟩
    rw [e]
    simp only [dot, hc, Int.emod_def]
    grind
theorem nl_iff {p : Int} {r x : List Int} : Nl p r x ↔ ∃ c, dot r x = p * c := by
  unfold Nl
  constructor
  · intro h
    exact ⟨dot r x / p, by have := Int.emod_add_mul_ediv (dot r x) p; omega⟩
  · rintro ⟨c, h⟩
    rw [h]
    exact Int.mul_emod_right p c
theorem nl_add {p f : Int} {n : Nat} {r o x : List Int} (h1 : r.length = n) (h2 : o.length = n) (ho : Nl p o x) : Nl p (addR p r o f) x ↔ Nl p r x := by
  obtain ⟨c, hc⟩ := dot_add p f (x := x) h1 h2
  obtain ⟨d, hd⟩ := nl_iff.mp ho
  rw [nl_iff, nl_iff, hc, hd]
  constructor
  · rintro ⟨e, he⟩
    exact ⟨e - f * d - c, by grind⟩
  · rintro ⟨e, he⟩
    exact ⟨e + f * d + c, by grind⟩
theorem nl_scl {p f g : Int} {r x : List Int} (hfg : f * g % p = 1) : Nl p (sclR p r f) x ↔ Nl p r x := by
  obtain ⟨c, hc⟩ := dot_scl p f (r := r) (x := x)
  have e : f * g = 1 + p * (f * g / p) := by
    have := Int.emod_add_mul_ediv (f * g) p
    omega
  rw [nl_iff, nl_iff, hc]
  constructor
  · rintro ⟨d, hd⟩
    refine ⟨g * d - g * c - (f * g / p) * dot r x, ?_⟩
    have : g * (f * dot r x + p * c) = g * (p * d) := by rw [hd]
    have e2 : g * (f * dot r x) = (f * g) * dot r x := by grind
    rw [Int.mul_add, e2, e] at this
    grind
  · rintro ⟨d, hd⟩
    exact ⟨f * d + c, by rw [hd]; grind⟩
theorem dot_zero {r x : List Int} (h : ∀ i, at_ r i = 0) : dot r x = 0 := by
  induction r generalizing x with
  | nil => cases x <;> rfl
  | cons a r ih =>
    cases x with
    | nil => rfl
    | cons b x =>
      have h0 := h 0
      have : ∀ i, at_ r i = 0 := fun i => by have := h (i + 1); simpa [at_] using this
      simp [at_] at h0
      simp [dot, h0, ih this]
def Ap (r s : List Int) : Prop := at_ s (leadR r) = 0 ∧ at_ r (leadR s) = 0
theorem Ap.symm {r s : List Int} (h : Ap r s) : Ap s r := ⟨h.2, h.1⟩
structure Red (p : Int) (n : Nat) (R : List (List Int)) : Prop where
  vec : ∀ r ∈ R, Vec p n r
  ld : ∀ r ∈ R, leadR r < n ∧ at_ r (leadR r) = 1
  ap : R.Pairwise Ap
theorem Red.nil (p : Int) (n : Nat) : Red p n [] := ⟨fun r h => (by cases h), fun r h => (by cases h), .nil⟩
theorem Red.perm {p : Int} {n : Nat} {R S : List (List Int)} (h : Red p n R) (q : S.Perm R) : Red p n S :=
  ⟨fun r hr => h.vec r (q.mem_iff.mp hr), fun r hr => h.ld r (q.mem_iff.mp hr), (List.Perm.pairwise_iff (fun {x y} z => Ap.symm z) q).mpr h.ap⟩
def Nls (p : Int) (R : List (List Int)) (x : List Int) : Prop := ∀ r ∈ R, Nl p r x
/-- what is left of a row -/
def restR (p : Int) : List Int → List (List Int) → List Int
  | v, [] => v
  | v, o :: R => restR p (addR p v o (-(at_ v (leadR o)))) R
theorem rest_vec {p : Int} {n : Nat} (hp : 0 < p) : ∀ {R : List (List Int)} {v : List Int}, Vec p n v → (∀ r ∈ R, Vec p n r) → Vec p n (restR p v R)
  | [], v, h, _ => h
  | o :: R, v, h, hR => by
    show Vec p n (restR p (addR p v o (-(at_ v (leadR o)))) R)
    exact rest_vec hp (addR_vec hp h (hR o (by simp))) fun r hr => hR r (by simp [hr])
theorem rest_nl {p : Int} {n : Nat} (hp : 0 < p) {x : List Int} : ∀ {R : List (List Int)} {v : List Int}, Vec p n v → (∀ r ∈ R, Vec p n r) → Nls p R x → (Nl p (restR p v R) x ↔ Nl p v x)
  | [], v, _, _, _ => Iff.rfl
  | o :: R, v, h, hR, hx => by
    have ho := hR o (by simp)
    exact (rest_nl hp (R := R) (addR_vec hp h ho) (fun r hr => hR r (by simp [hr])) fun r hr => hx r (by simp [hr])).trans (nl_add h.len ho.len (hx o (by simp)))
/-- zeros at a place stay -/
theorem rest_keep {p : Int} {n j : Nat} (hp : 0 < p) (hj : j < n) : ∀ {R : List (List Int)} {v : List Int}, Vec p n v → (∀ r ∈ R, Vec p n r) → at_ v j = 0 → (∀ r ∈ R, at_ r j = 0) → at_ (restR p v R) j = 0
  | [], v, _, _, h, _ => h
  | o :: R, v, hv, hR, h, ho => by
    show at_ (restR p (addR p v o (-(at_ v (leadR o)))) R) j = 0
    refine rest_keep hp hj (addR_vec hp hv (hR o (by simp))) (fun r hr => hR r (by simp [hr])) ?_ fun r hr => ho r (by simp [hr])
    rw [addR_at hv.len (hR o (by simp)).len hj, h, ho o (by simp)]
    simp
theorem rest_leads {p : Int} {n : Nat} (hp : 0 < p) : ∀ {R : List (List Int)} {v : List Int}, Vec p n v → Red p n R → ∀ r ∈ R, at_ (restR p v R) (leadR r) = 0
  | [], v, _, _, r, hr => by cases hr
  | o :: R, v, hv, h, r, hr => by
    have hpw := List.pairwise_cons.mp h.ap
    have hR : Red p n R := ⟨fun r hr => h.vec r (by simp [hr]), fun r hr => h.ld r (by simp [hr]), hpw.2⟩
    have vo := h.vec o (by simp)
    have lo := h.ld o (by simp)
    have v' := addR_vec (f := -(at_ v (leadR o))) hp hv vo
    show at_ (restR p (addR p v o (-(at_ v (leadR o)))) R) (leadR r) = 0
    rcases List.mem_cons.mp hr with rfl | hr
    · refine rest_keep hp lo.1 v' hR.vec ?_ fun s hs => (hpw.1 s hs).1
      rw [addR_at hv.len vo.len lo.1, lo.2]
      have : at_ v (leadR r) + -at_ v (leadR r) * 1 = 0 := by omega
      rw [this]
      simp
    · exact rest_leads hp v' hR r hr
/-- one more row -/
def stepR (p : Int) (R : List (List Int)) (s : List Int) (j : Nat) : List (List Int) := R.map (fun o => addR p o s (-(at_ o j))) ++ [s]
theorem one_emod {p : Int} (hp : 1 < p) : (1 : Int) % p = 1 := Int.emod_eq_of_lt (by omega) hp
theorem step_lead {p : Int} {n : Nat} {R : List (List Int)} {t s : List Int} {f : Int} (hp : 1 < p) (h : Red p n R) (ht : Vec p n t) (hz : ∀ r ∈ R, at_ t (leadR r) = 0) (hl : leadR t < n) (hf : at_ t (leadR t) * f % p = 1) (hs : s = sclR p t f) :
    Vec p n s ∧ leadR s = leadR t ∧ at_ s (leadR t) = 1 ∧ (∀ r ∈ R, at_ s (leadR r) = 0) ∧ ∀ o ∈ R, leadR (addR p o s (-(at_ o (leadR t)))) = leadR o := by
  have p0 : 0 < p := by omega
  subst hs
  have vs := sclR_vec (f := f) p0 ht
  have s1 : at_ (sclR p t f) (leadR t) = 1 := by rw [sclR_at (by rw [ht.len]; exact hl), hf]
  have sb : ∀ j, j < leadR t → at_ (sclR p t f) j = 0 := fun j hj => by
    rw [sclR_at (by rw [ht.len]; omega), lead_before hj]
    simp
  have ls : leadR (sclR p t f) = leadR t := lead_is (by rw [vs.len]; exact hl) (by rw [s1]; decide) sb
  have sz : ∀ r ∈ R, at_ (sclR p t f) (leadR r) = 0 := fun r hr => by
    rw [sclR_at (by rw [ht.len]; exact (h.ld r hr).1), hz r hr]
    simp
  refine ⟨vs, ls, s1, sz, fun o ho => ?_⟩
  have vo := h.vec o ho
  have lo := h.ld o ho
  have ne : leadR t ≠ leadR o := fun z => by
    have := hz o ho
    rw [← z] at this
    exact lead_at (by rw [ht.len]; exact hl) this
  refine lead_is (by rw [addR_len, vo.len, vs.len]; omega) ?_ fun j hj => ?_
  · rw [addR_at vo.len vs.len lo.1, lo.2, sz o ho]
    have : (1 : Int) + -at_ o (leadR t) * 0 = 1 := by omega
    rw [this, one_emod hp]
    decide
  · rw [addR_at vo.len vs.len (by omega), lead_before hj]
    by_cases q : leadR t < leadR o
    · rw [lead_before q]
      simp
    · rw [sb j (by omega)]
      simp
theorem step_red {p : Int} {n : Nat} {R : List (List Int)} {t s : List Int} {f : Int} (hp : 1 < p) (h : Red p n R) (ht : Vec p n t) (hz : ∀ r ∈ R, at_ t (leadR r) = 0) (hl : leadR t < n) (hf : at_ t (leadR t) * f % p = 1) (hs : s = sclR p t f) :
    Red p n (stepR p R s (leadR t)) ∧ ∀ x, Nls p (stepR p R s (leadR t)) x ↔ (Nls p R x ∧ Nl p t x) := by
  obtain ⟨vs, ls, s1, sz, lo'⟩ := step_lead hp h ht hz hl hf hs
  have p0 : 0 < p := by omega
  have oj : ∀ o ∈ R, at_ (addR p o s (-(at_ o (leadR t)))) (leadR t) = 0 := fun o ho => by
    rw [addR_at (h.vec o ho).len vs.len hl, s1]
    have : at_ o (leadR t) + -at_ o (leadR t) * 1 = 0 := by omega
    rw [this]
    simp
  have or : ∀ o ∈ R, ∀ r ∈ R, at_ (addR p o s (-(at_ o (leadR t)))) (leadR r) = at_ o (leadR r) % p := fun o ho r hr => by
    rw [addR_at (h.vec o ho).len vs.len (h.ld r hr).1, sz r hr]
    simp
  refine ⟨⟨fun r hr => ?_, fun r hr => ?_, ?_⟩, fun x => ?_⟩
  · rcases List.mem_append.mp hr with hr | hr
    · rw [List.mem_map] at hr
      obtain ⟨o, ho, rfl⟩ := hr
      exact addR_vec p0 (h.vec o ho) vs
    · rw [List.mem_singleton.mp hr]
      exact vs
  · rcases List.mem_append.mp hr with hr | hr
    · rw [List.mem_map] at hr
      obtain ⟨o, ho, rfl⟩ := hr
      rw [lo' o ho, or o ho o ho, (h.ld o ho).2]
      exact ⟨(h.ld o ho).1, one_emod hp⟩
    · rw [List.mem_singleton.mp hr, ls]
      exact ⟨hl, s1⟩
  · unfold stepR
    rw [List.pairwise_append]
    refine ⟨?_, List.pairwise_singleton _ _, fun a ha b hb => ?_⟩
    · rw [List.pairwise_map]
      refine (List.pairwise_iff_forall_sublist.mpr fun {a b} hab => ?_)
      have ma : a ∈ R := hab.mem (by simp)
      have mb : b ∈ R := hab.mem (by simp)
      have pw := List.pairwise_iff_forall_sublist.mp h.ap hab
      refine ⟨?_, ?_⟩
      · rw [lo' a ma, or b mb a ma, pw.1]
        simp
      · rw [lo' b mb, or a ma b mb, pw.2]
        simp
    · rw [List.mem_map] at ha
      obtain ⟨o, ho, rfl⟩ := ha
      rw [List.mem_singleton.mp hb]
      exact ⟨by rw [lo' o ho]; exact sz o ho, by rw [ls]; exact oj o ho⟩
  · have scl : Nl p s x ↔ Nl p t x := by
      rw [hs]
      exact nl_scl (g := at_ t (leadR t)) (by rw [Int.mul_comm]; exact hf)
    constructor
    · intro hx
      have hsx : Nl p s x := hx s (by simp [stepR])
      refine ⟨fun o ho => ?_, scl.mp hsx⟩
      have := hx (addR p o s (-(at_ o (leadR t)))) (List.mem_append_left _ (List.mem_map_of_mem ho))
      exact (nl_add (h.vec o ho).len vs.len hsx).mp this
    · rintro ⟨hR, htx⟩ r hr
      have hsx := scl.mpr htx
      rcases List.mem_append.mp hr with hr | hr
      · rw [List.mem_map] at hr
        obtain ⟨o, ho, rfl⟩ := hr
        exact (nl_add (h.vec o ho).len vs.len hsx).mpr (hR o ho)
      · rw [List.mem_singleton.mp hr]
        exact hsx
/-- a row, reduced, that is 0 -/
theorem none_nl {p : Int} {n : Nat} {R : List (List Int)} {v x : List Int} (hp : 0 < p) (h : Red p n R) (hv : Vec p n v) (hl : ¬ leadR (restR p v R) < n) (hx : Nls p R x) : Nl p v x := by
  refine (rest_nl hp hv h.vec hx).mp ?_
  have vt := rest_vec hp hv h.vec
  unfold Nl
  rw [dot_zero (lead_none (by rw [vt.len]; exact hl))]
  simp
end LA
namespace LA
theorem nd_len : ∀ (l D : List Nat), l.Nodup → (∀ x ∈ l, x ∈ D) → l.length ≤ D.length
  | [], D, _, _ => by simp
  | x :: l, D, nd, h => by
    obtain ⟨h1, h2⟩ := List.nodup_cons.mp nd
    have hx := h x (by simp)
    have ih := nd_len l (D.erase x) h2 fun y hy => by
      have : y ≠ x := fun z => h1 (z ▸ hy)
      exact (List.mem_erase_of_ne this).mpr (h y (by simp [hy]))
    rw [List.length_erase_of_mem hx] at ih
    have : 0 < D.length := List.length_pos_of_mem hx
    simp only [List.length_cons]
    omega
theorem nd_lt {l : List Nat} {n : Nat} (nd : l.Nodup) (h : ∀ x ∈ l, x < n) : l.length ≤ n := by
  have := nd_len l (List.range n) nd fun x hx => List.mem_range.mpr (h x hx)
  simpa using this
theorem dot_sum : ∀ {n : Nat} {r x : List Int}, r.length = n → x.length = n → dot r x = ((List.range n).map fun i => at_ r i * at_ x i).sum
  | 0, [], [], _, _ => rfl
  | n + 1, a :: r, b :: x, h1, h2 => by
    have ih := dot_sum (n := n) (r := r) (x := x) (by simpa using h1) (by simpa using h2)
    rw [List.range_succ_eq_map]
    simp only [dot, ih, List.map_cons, List.sum_cons, List.map_map]
    simp [at_, Function.comp_def]
theorem sum_delta (c : Int) (k : Nat) : ∀ n, ((List.range n).map fun p => if p = k then c else 0).sum = if k < n then c else 0
  | 0 => by simp
  | n + 1 => by
    rw [List.range_succ, List.map_append, List.sum_append, sum_delta c k n]
    by_cases h : k = n
    · subst h
      simp
    · have h' : ¬ n = k := fun z => h z.symm
      by_cases h2 : k < n
      · simp [h', h2]
        omega
      · have h3 : ¬ k < n + 1 := by omega
        simp [h', h2, h3]
theorem sum_add {α : Type} (f g : α → Int) : ∀ l : List α, (l.map fun p => f p + g p).sum = (l.map f).sum + (l.map g).sum
  | [] => by simp
  | x :: l => by
    simp only [List.map_cons, List.sum_cons, sum_add f g l]
    omega
theorem sum_congr {f g : Nat → Int} {n : Nat} (h : ∀ i, i < n → f i = g i) : ((List.range n).map f).sum = ((List.range n).map g).sum := by
  congr 1
  exact List.map_congr_left fun i hi => h i (List.mem_range.mp hi)
theorem ap_of {p : Int} {n : Nat} {R : List (List Int)} (h : Red p n R) {r s : List Int} (hr : r ∈ R) (hs : s ∈ R) (ne : r ≠ s) : at_ s (leadR r) = 0 := by
  have := h.ap
  obtain ⟨i, hi, ei⟩ := List.mem_iff_getElem.mp hr
  obtain ⟨j, hj, ej⟩ := List.mem_iff_getElem.mp hs
  have pw := List.pairwise_iff_getElem.mp h.ap
  rcases Nat.lt_trichotomy i j with q | q | q
  · have := pw i j hi hj q
    rw [ei, ej] at this
    exact this.1
  · subst q
    exact absurd (ei.symm.trans ej) ne
  · have := pw j i hj hi q
    rw [ei, ej] at this
    exact this.2
theorem lead_inj {p : Int} {n : Nat} {R : List (List Int)} (h : Red p n R) {r s : List Int} (hr : r ∈ R) (hs : s ∈ R) (e : leadR r = leadR s) : r = s := by
  by_cases ne : r = s
  · exact ne
  · have h1 := ap_of h hr hs ne
    rw [e, (h.ld s hs).2] at h1
    cases h1
theorem leads_nodup {p : Int} {n : Nat} {R : List (List Int)} (h : Red p n R) : (R.map leadR).Nodup := by
  unfold List.Nodup
  rw [List.pairwise_map]
  refine List.Pairwise.imp_of_mem (fun {a b} ha hb z e => ?_) h.ap
  have := z.1
  rw [e, (h.ld b hb).2] at this
  cases this
theorem red_len {p : Int} {n : Nat} {R : List (List Int)} (h : Red p n R) : R.length ≤ n := by
  have := nd_lt (leads_nodup h) (n := n) fun x hx => by
    rw [List.mem_map] at hx
    obtain ⟨r, hr, rfl⟩ := hx
    exact (h.ld r hr).1
  simpa using this
/-- data that all reduced rows send to 0, with 1 at a place that is no lead -/
def blF (p : Int) (R : List (List Int)) (j i : Nat) : Int := if i = j then 1 else match R.find? fun r => leadR r == i with
  | some r => (-(at_ r j)) % p
  | none => 0
def blV (p : Int) (n : Nat) (R : List (List Int)) (j : Nat) : List Int := (List.range n).map (blF p R j)
theorem blV_at {p : Int} {n : Nat} {R : List (List Int)} {j i : Nat} (hi : i < n) : at_ (blV p n R j) i = blF p R j i := by
  rw [at_lt (by simpa [blV] using hi)]
  simp [blV]
theorem blV_vec {p : Int} {n : Nat} {R : List (List Int)} {j : Nat} (hp : 1 < p) : Vec p n (blV p n R j) where
  len := by simp [blV]
  inn := fun x hx => by
    simp only [blV, List.mem_map] at hx
    obtain ⟨i, _, rfl⟩ := hx
    unfold blF
    split
    · omega
    · split
      · exact ⟨Int.emod_nonneg _ (by omega), Int.emod_lt_of_pos _ (by omega)⟩
      · omega
theorem find_lead {p : Int} {n : Nat} {R : List (List Int)} (h : Red p n R) {r : List Int} (hr : r ∈ R) : R.find? (fun s => leadR s == leadR r) = some r := by
  cases e : R.find? fun s => leadR s == leadR r with
  | none =>
    have := List.find?_eq_none.mp e r hr
    simp at this
  | some s =>
    have h1 := List.mem_of_find?_eq_some e
    have h2 : leadR s = leadR r := by simpa using List.find?_some e
    rw [lead_inj h h1 hr h2]
theorem blV_nl {p : Int} {n : Nat} {R : List (List Int)} {j : Nat} (hp : 1 < p) (h : Red p n R) (hj : j < n) (hn : ∀ r ∈ R, leadR r ≠ j) : Nls p R (blV p n R j) := fun r hr => by
  have vr := h.vec r hr
  have lr := h.ld r hr
  have vb := blV_vec (n := n) (R := R) (j := j) hp
  unfold Nl
  rw [dot_sum vr.len vb.len]
  have e : ((List.range n).map fun i => at_ r i * at_ (blV p n R j) i).sum = ((List.range n).map fun i => (if i = j then at_ r j else 0) + (if i = leadR r then (-(at_ r j)) % p else 0)).sum := by
    refine sum_congr fun i hi => ?_
    rw [blV_at hi]
    unfold blF
    by_cases h1 : i = j
    · subst h1
      have : ¬ i = leadR r := fun z => hn r hr z.symm
      simp [this]
    · by_cases h2 : i = leadR r
      · subst h2
        rw [find_lead h hr, lr.2]
        simp [h1]
      · simp only [h1, h2, if_false]
        cases e : R.find? fun s => leadR s == i with
        | none => simp
        | some s =>
          have m := List.mem_of_find?_eq_some e
          have ls : leadR s = i := by simpa using List.find?_some e
          have ne : s ≠ r := fun z => h2 (by rw [← ls, z])
          have z := ap_of h m hr ne
          rw [ls] at z
          simp [z]
  rw [e, sum_add, sum_delta, sum_delta, if_pos hj, if_pos lr.1]
  rw [Int.add_emod, Int.emod_emod_of_dvd _ (Int.dvd_refl p), ← Int.add_emod]
  have : at_ r j + -at_ r j = 0 := by omega
  rw [this]
  simp
/-- a row that is 0 at all leads -/
theorem blV_dot {p : Int} {n : Nat} {R : List (List Int)} {j : Nat} {w : List Int} (hp : 1 < p) (h : Red p n R) (hj : j < n) (hw : Vec p n w) (hz : ∀ r ∈ R, at_ w (leadR r) = 0) : dot w (blV p n R j) = at_ w j := by
  have vb := blV_vec (n := n) (R := R) (j := j) hp
  rw [dot_sum hw.len vb.len]
  have e : ((List.range n).map fun i => at_ w i * at_ (blV p n R j) i).sum = ((List.range n).map fun i => if i = j then at_ w j else 0).sum := by
    refine sum_congr fun i hi => ?_
    rw [blV_at hi]
    unfold blF
    by_cases h1 : i = j
    · subst h1
      simp
    · simp only [h1, if_false]
      cases e : R.find? fun s => leadR s == i with
      | none => simp
      | some s =>
        have m := List.mem_of_find?_eq_some e
        have ls : leadR s = i := by simpa using List.find?_some e
        have z := hz s m
        rw [ls] at z
        simp [z]
  rw [e, sum_delta, if_pos hj]
/-- a row comes of reduced rows exactly if no data tell it apart -/
theorem rest_iff {p : Int} {n : Nat} {R : List (List Int)} {v : List Int} (hp : 1 < p) (h : Red p n R) (hv : Vec p n v) : (∀ i, at_ (restR p v R) i = 0) ↔ ∀ x, Vec p n x → Nls p R x → Nl p v x := by
  have p0 : 0 < p := by omega
  have vt := rest_vec p0 hv h.vec
  constructor
  · intro hz x _ hx
    refine (rest_nl p0 hv h.vec hx).mp ?_
    unfold Nl
    rw [dot_zero hz]
    simp
  · intro hx i
    by_cases hi : i < n
    · by_cases hl : ∃ r ∈ R, leadR r = i
      · obtain ⟨r, hr, rfl⟩ := hl
        exact rest_leads p0 hv h r hr
      · have hn : ∀ r ∈ R, leadR r ≠ i := fun r hr z => hl ⟨r, hr, z⟩
        have nb := blV_nl hp h hi hn
        have z := (rest_nl p0 hv h.vec nb).mpr (hx _ (blV_vec hp) nb)
        unfold Nl at z
        rw [blV_dot hp h hi vt fun r hr => rest_leads p0 hv h r hr] at z
        have b := at_in vt p0 i
        rw [Int.emod_eq_of_lt b.1 b.2] at z
        exact z
    · exact at_ge (by rw [vt.len]; omega)
theorem zero_of {p : Int} {n : Nat} {x : List Int} (hx : Vec p n x) (h : ∀ i, i < n → at_ x i = 0) : x = List.replicate n 0 := by
  refine ext_at hx.len (by simp) fun i hi => ?_
  rw [h i hi, at_lt (by simpa using hi)]
  simp
end LA
namespace DL
open PySem L2
theorem chk_ok {src : Src} {m : Store} (h : src.okB m = true) : chk src m = .ok () m := by
  unfold chk
  rw [if_pos h]
/-- a loop over a source that stays as it is -/
theorem forL_src {src : Src} {g : D → DEnv → M DEnv} {b : DEnv → M Out} (I : Nat → DEnv → Store → Prop) (hc : ∀ j e m, I j e m → src.okB m = true) : ∀ (ds : List D) (i : Nat) (e : DEnv) (m : Store), I i e m →
    (∀ j d e m, ds[j]? = some d → I (i + j) e m → ∃ e1 m1 e2 m2, g d e m = .ok e1 m1 ∧ (b e1 m1 = .ok (.nx e2) m2 ∨ b e1 m1 = .ok (.ct e2) m2) ∧ I (i + j + 1) e2 m2) →
    ∃ e' m', forL src g b ds e m = .ok (.nx e') m' ∧ I (i + ds.length) e' m'
  | [], i, e, m, h, _ => ⟨e, m, by simp [forL, chk_ok (hc i e m h)], h⟩
  | d :: ds, i, e, m, h, st => by
    obtain ⟨e1, m1, e2, m2, h1, h2, h3⟩ := st 0 d e m rfl h
    obtain ⟨e', m', h4, h5⟩ := forL_src (src := src) I hc ds (i + 1) e2 m2 (by simpa using h3) (fun j d e m hj hi => by
      have := st (j + 1) d e m (by simpa using hj) (by rw [show i + (j + 1) = i + 1 + j by omega]; exact hi)
      obtain ⟨a1, a2, a3, a4, a5, a6, a7⟩ := this
      exact ⟨a1, a2, a3, a4, a5, a6, by rw [show i + 1 + j + 1 = i + (j + 1) + 1 by omega]; exact a7⟩)
    refine ⟨e', m', ?_, by rw [List.length_cons, show i + (ds.length + 1) = i + 1 + ds.length by omega]; exact h5⟩
    rcases h2 with h2 | h2 <;> simp [forL, chk_ok (hc i e m h), h1, h2, h4]
theorem forL_srcC {src : Src} {g : D → DEnv → M DEnv} {b : DEnv → M Out} (I : Nat → DEnv → Store → Prop) (hc : ∀ j e m, I j e m → src.okB m = true) (ds : List D) (e : DEnv) (m : Store) (h0 : I 0 e m)
    (st : ∀ j d e m, ds[j]? = some d → I j e m → ∃ e1 m1 e2 m2, g d e m = .ok e1 m1 ∧ (b e1 m1 = .ok (.nx e2) m2 ∨ b e1 m1 = .ok (.ct e2) m2) ∧ I (j + 1) e2 m2) :
    ∃ e' m', forL src g b ds e m = .ok (.nx e') m' ∧ I ds.length e' m' := by
  have := forL_src (src := src) (g := g) (b := b) I hc ds 0 e m h0 (fun j d e m hj hi => by
    have := st j d e m hj (by simpa using hi)
    simpa using this)
  simpa using this
theorem frS_of {it : DEnv → M Src} {g : D → DEnv → M DEnv} {b : DEnv → M Out} {e : DEnv} {m m1 : Store} {src : Src} {r : Res Out} (h : it e m = .ok src m1) (h' : forL src g b src.items e m1 = r) : sFor it g b e m = r := by
  rw [sFor_ap, h, thn_ok]
  exact h'
theorem compL_src {α : Type} {src : Src} {g : D → DEnv → M DEnv} {elt : DEnv → M D} {e : DEnv} {m : Store} {h f : α → D} (ok : src.okB m = true) : ∀ (xs : List α), (∀ x ∈ xs, ∃ e1, g (h x) e m = .ok e1 m ∧ elt e1 m = .ok (f x) m) → compL src g tYesD elt e (xs.map h) m = .ok (xs.map f) m
  | [], _ => by simp [compL, chk_ok ok]
  | x :: xs, q => by
    obtain ⟨e1, h1, h2⟩ := q x (by simp)
    have := compL_src (src := src) (g := g) (elt := elt) (e := e) (m := m) (h := h) (f := f) ok xs fun y hy => q y (by simp [hy])
    simp [compL, noX, chk_ok ok, h1, h2, this]
theorem compM_src {α : Type} {it : DEnv → M Src} {g : D → DEnv → M DEnv} {elt : DEnv → M D} {vs : List Nat} {e : DEnv} {m : Store} {src : Src} {xs : List α} {h f : α → D} (hi : it e m = .ok src m) (hs : src.items = xs.map h) (ok : src.okB m = true) (hl : xs.length ≤ 100000)
    (q : ∀ x ∈ xs, ∃ e1, g (h x) (wipeD e vs) m = .ok e1 m ∧ elt e1 m = .ok (f x) m) : compM it g tYesD elt vs e m = .ok (xs.map f) m := by
  simp [compM, hi, DL.sizeOk, hs, hl, compL_src ok xs q]
theorem eCompM_src {α : Type} {it : DEnv → M Src} {g : D → DEnv → M DEnv} {elt : DEnv → M D} {vs : List Nat} {e : DEnv} {m : Store} {src : Src} {xs : List α} {h f : α → D} (hi : it e m = .ok src m) (hs : src.items = xs.map h) (ok : src.okB m = true) (hl : xs.length ≤ 100000)
    (q : ∀ x ∈ xs, ∃ e1, g (h x) (wipeD e vs) m = .ok e1 m ∧ elt e1 m = .ok (f x) m) : eCompM it g tYesD elt vs e m = .ok (.loc m.length) (m ++ [some (.lst (xs.map f))]) := by
  simp [eCompM, compM_src hi hs ok hl q, newL, newM, hl]
theorem src_loc {m : Store} {n : Nat} {ds : List D} (h : m[n]? = some (some (.lst ds))) : srcD (.loc n) m = .ok ⟨ds, [(n, ds)]⟩ m := by
  unfold srcD
  simp only [h]
theorem okB_loc {m : Store} {n : Nat} {ds es : List D} (h : m[n]? = some (some (.lst ds))) : (⟨es, [(n, ds)]⟩ : Src).okB m = true := by
  simp [Src.okB, cellIs, h]
/-- while: the environments are known turn by turn -/
theorem while_run {t : DEnv → M Bool} {b : DEnv → M Out} {m : Store} (I : Nat → DEnv) (k : Nat) (h1 : ∀ i, i < k → t (I i) m = .ok true m ∧ b (I i) m = .ok (.nx (I (i + 1))) m) (h2 : t (I k) m = .ok false m) : ∀ (fuel i : Nat), i ≤ k → k - i < fuel → whileL t b fuel (I i) m = .ok (.nx (I k)) m
  | 0, i, _, h => by omega
  | fuel + 1, i, hi, h => by
    by_cases q : i = k
    · subst q
      simp [whileL, h2]
    · obtain ⟨a1, a2⟩ := h1 i (by omega)
      have := while_run I k h1 h2 fuel (i + 1) (by omega) (by omega)
      simp [whileL, a1, a2, this]
theorem sAug_ap (i : Nat) {a : DEnv → M D} {e : DEnv} {m : Store} {x y : Int} (h1 : e[i]? = some (some (.int x))) (h2 : a e m = .ok (.int y) m) : sAug i a e m = .ok (.nx (e.set i (some (.int (x + y))))) m := by
  simp [sAug, h1, h2, gI0]
theorem each_map {α β : Type} (f : α → β) : ∀ xs : List α, PySem.W.EachIs (fun a b => b = f a) xs (xs.map f)
  | [] => .nil
  | x :: xs => .cons rfl (each_map f xs)
theorem map_each {α β : Type} {f : α → β} {xs : List α} {ys : List β} (h : PySem.W.EachIs (fun a b => b = f a) xs ys) : ys = xs.map f := by
  induction h with
  | nil => rfl
  | cons h _ ih => simp [h, ih]
theorem srtBy_map {α β : Type} (f : α → β) (xs : List α) (kz : List PyData) : srtBy (xs.map f) kz = (srtBy xs kz).map f := by
  have z := each_zip2 (each_map f xs) (kz := kz)
  refine map_each (each_fst2 (PySem.W.sort_each z fun p hp q hq => ?_))
  exact dataLe_snd _ _ _ _ (z.zip p hp).2 (z.zip q hq).2
theorem srtBy_perm {α : Type} {xs : List α} {kz : List PyData} (h : xs.length = kz.length) : (srtBy xs kz).Perm xs := by
  unfold srtBy
  have := (List.mergeSort_perm (xs.zip kz) (PySem.W.dataLe false (·.2))).map (·.1)
  rw [List.map_fst_zip (by omega)] at this
  exact this
theorem keysM_of {α : Type} {kf : D → M D} {h : α → D} {key : α → PyData} {m : Store} : ∀ (xs : List α), (∀ x ∈ xs, ∃ kd, kf (h x) m = .ok kd m ∧ toPD kd = some (key x)) → keysM kf (xs.map h) m = some (xs.map key)
  | [], _ => rfl
  | x :: xs, q => by
    obtain ⟨kd, h1, h2⟩ := q x (by simp)
    have ih := keysM_of (kf := kf) (h := h) (key := key) (m := m) xs fun y hy => q y (by simp [hy])
    simp [keysM, h1, h2, ih]
theorem kz_ints (ns : List Int) : kzOk (ns.map .int) = true := by
  simp [kzOk, isOt, PyData.depth, PySem.W.alike]
/-- sorted of what is read from a list or a location -/
theorem sortKD_of {kf : D → M D} {x : D} {ds : List D} {kz : List PyData} {m : Store} (nt : ∀ t, x ≠ .tup t) (hs : seqD x m = .ok ds m) (hk : keysM kf ds m = some kz) (ok : kzOk kz = true) : sortKD kf x m = .ok (.lst (srtBy ds kz)) m := by
  unfold sortKD
  cases x with
  | tup t => exact absurd rfl (nt t)
  | _ => simp [hs, sortR, hk, ok]
end DL
namespace DL
open PySem L2 PyProof.Rows
def gSq (n : Nat) (g : List D → DEnv → M DEnv) : D → DEnv → M DEnv := fun d e => match d with
  | .tup ds => if ds.length = n then g ds e else M.bad
  | .lst ds => if ds.length = n then g ds e else M.bad
  | _ => M.bad
@[simp] theorem gSq_tup (e : DEnv) (m : Store) (n : Nat) (g : List D → DEnv → M DEnv) (ds : List D) (h : ds.length = n) : gSq n g (.tup ds) e m = g ds e m := by simp [gSq, h]
@[simp] theorem gSq_lst (e : DEnv) (m : Store) (n : Nat) (g : List D → DEnv → M DEnv) (ds : List D) (h : ds.length = n) : gSq n g (.lst ds) e m = g ds e m := by simp [gSq, h]
end DL
namespace DL
open PySem L2
section
variable {k : Kx} {X : Cx} {E : XK}
theorem RpA.erase {K : PySem.W.Frag} {G : Hp} {L : Lam} {vs : List V} {ds : List D} (h : RpA k K G L vs ds) (i : Nat) : RpA k K G L (vs.eraseIdx i) (ds.eraseIdx i) := by
  rw [List.eraseIdx_eq_take_drop_succ, List.eraseIdx_eq_take_drop_succ]
  exact (h.take i).append (h.drop (i + 1))
end
end DL
namespace DL
open PySem L2 PyProof.Rows
end DL
namespace DL
open PySem L2
end DL
namespace DL
open PySem L2 PyProof.Rows
def obsE (as : List Addr) (ok : PySem.W.Frag → Bool) (fs : List Addr) (g : Addr → Option Obj) : Bool × List (Option Obj) := (ok (He.frG g as), fs.map fun a => (He.frG g as).lookup a)
structure OkE (ok : PySem.W.Frag → Bool) (fs : List Addr) (vs : List (Option Obj)) (K : PySem.W.Frag) : Prop where
  c : ok K = true
  l : fs.map (fun a => K.lookup a) = vs
def hookE (as : List Addr) (ok : PySem.W.Frag → Bool) (fs : List Addr) (vs : List (Option Obj)) : PySem.W.Hook where
  α := Bool × List (Option Obj)
  obs := fun s => obsE as ok fs s.heap.get?
  val := fun _ => (true, vs)
  says := fun _ h => ∃ K : PySem.W.Frag, K.In h ∧ OkE ok fs vs K
  of := fun _ s x => ⟨He.frG s.heap.get? as, He.frG_in, (Prod.mk.inj x).1, (Prod.mk.inj x).2⟩
  keeps := fun _ _ _ x k => let ⟨K, i, r⟩ := x; ⟨K, fun a o e => k a o (i a o e), r⟩
theorem obsE_eq (as : List Addr) (ok : PySem.W.Frag → Bool) (fs : List Addr) (vs : List (Option Obj)) (s : PySem.W.SharedT) : obsE as ok fs (HandSHeadRun.getT s) = (hookE as ok fs vs).obs s.abs := by
  have e : HandSHeadRun.getT s = s.abs.heap.get? := funext (HandSHeadRun.getT_eq s)
  rw [e]
  rfl
theorem OkE.at_ {ok : PySem.W.Frag → Bool} {fs : List Addr} {vs : List (Option Obj)} {K : PySem.W.Frag} (h : OkE ok fs vs K) (i : Nat) {a : Addr} {v : Option Obj} (ha : fs[i]? = some a) (hv : vs[i]? = some v) : K.lookup a = v := by
  have := congrArg (fun l => l[i]?) h.l
  simp only [List.getElem?_map, ha, hv, Option.map_some] at this
  exact Option.some.inj this
/-- the end: ms are the defs that make lambdas; K is what the head's look tells of -/
theorem law_walkE {l : PySem.W.OpenLaw} {q : Program} {loose : List Str} {XP : (Str → Option Value) → Heap → Prop} {YP : World → Heap → Prop} {d : DefRec} {OK : PySem.W.Frag → Prop} {lvl : Nat} (hn : l.most = some 63) (himp : importsNone q = true) (hdf : d.params.defaults = []) (hr : Room lvl callerA)
    (hY : ∀ (w : World) (h : Heap), YP w h → ∃ K : PySem.W.Frag, K.In h ∧ OK K) (ms : List Str) (hms : ms.all (fun x => (recsOf q).any fun r => r.name == x) = true) (hnt : ∀ K, OK K → K.all (fun p => !tab0 p.2) = true)
    (F : ∀ (w : World) (mg : Str → Option Value) (fa : Addr) (h : Heap) (K : PySem.W.Frag), OK K → K.In h → h.Ns mainGlobals mg → mg d.name = some (.ref fa) → ∀ cs : List (Addr × Addr × Addr), cs.length = ms.length → (∀ (i : Nat) (x : Str) (p : Addr × Addr × Addr), ms[i]? = some x → cs[i]? = some p → MkT mg h x p.1 p.2.1 p.2.2) →
      ∃ (tb : List (Addr × Str)), (∀ p ∈ tb, ∃ r ∈ cs, r.2.2 = p.1) ∧ ∀ base : Heap, K.In base → base.Ns mainGlobals mg → SysD base → (∀ r ∈ cs, LamX.TabB base mg r.2.1 r.2.2) → FnG l.prog w K mg base lvl fa (spLaw tb K)) :
    PySem.W.WalkO q loose XP YP l.row.toRowW d [] (fun f vs => PySem.call f vs) := by
  refine Att.attach_callB hn hdf fun w s0 s1 mg mb fa o pm cd doc a vs ns G Y _ _ _ hmg hobj hints hlen _ hgen => ?_
  obtain ⟨K, inK, okK⟩ := hY w _ Y
  have pick : ∀ l : List Str, l.all (fun x => (recsOf q).any fun r => r.name == x) = true → ∃ cs : List (Addr × Addr × Addr), cs.length = l.length ∧ ∀ (i : Nat) (x : Str) (p : Addr × Addr × Addr), l[i]? = some x → cs[i]? = some p → MkT mg s1.heap x p.1 p.2.1 p.2.2 := by
    intro l
    induction l with
    | nil => exact fun _ => ⟨[], rfl, fun i x p e => by simp at e⟩
    | cons y l ih =>
      intro hl
      simp only [List.all_cons, Bool.and_eq_true] at hl
      obtain ⟨cs, h1, h2⟩ := ih hl.2
      obtain ⟨f, c, T, m⟩ := mkT_of G.T hl.1
      refine ⟨(f, c, T) :: cs, by simp [h1], fun i x p e1 e2 => ?_⟩
      cases i with
      | zero =>
        simp at e1 e2
        subst e1 e2
        exact m
      | succ i => exact h2 i x p (by simpa using e1) (by simpa using e2)
  obtain ⟨cs, hcl, hcs⟩ := pick ms hms
  obtain ⟨tb, htb, hF⟩ := F w mg fa _ K okK inK G.T.g hmg cs hcl hcs
  have each : ∀ r ∈ cs, ∃ x, MkT mg s1.heap x r.1 r.2.1 r.2.2 := fun r hr => by
    obtain ⟨i, hi⟩ := List.mem_iff_getElem?.mp hr
    have hlt := (List.getElem?_eq_some_iff.mp hi).1
    exact ⟨_, hcs i _ r (List.getElem?_eq_getElem (by omega)) hi⟩
  have noK : ∀ T : Addr, s1.heap.get? T = some tabO → K.lookup T = none := fun T e => by
    cases hk : K.lookup T with
    | none => rfl
    | some o =>
      have e2 := inK T o hk
      rw [e] at e2
      cases e2
      have hm := List.all_eq_true.mp (hnt K okK) (T, _) (frag_mem hk)
      exact absurd (show (!tab0 tabO) = true from hm) (by decide)
  refine law_callG (cs := cs.map fun r => (r.2.1, r.2.2)) inK G.T.g G.T.b G.T.builtins G.T.nolimit (sysD_of (G.T.seer himp)) hgen (fun p hp => ?_) (fun p hp => ?_) (fun p hp => ?_) G.T.bmain hobj hints (Nat.le_trans hlen (by decide)) hr (fun base k1 k2 kS k3 => hF base k1 k2 kS fun r hr => k3 _ (List.mem_map.mpr ⟨r, hr, rfl⟩)) (fun H hH hS => ?_)
  · obtain ⟨r, hr, rfl⟩ := List.mem_map.mp hp
    exact (each r hr).elim fun _ m => m.tb
  · obtain ⟨r, hr, rfl⟩ := List.mem_map.mp hp
    exact (each r hr).elim fun _ m => noK _ m.tb
  · obtain ⟨r, hr, rfl⟩ := List.mem_map.mp hp
    exact (each r hr).elim fun _ m => m.hd
  · refine ⟨a, ns, rfl, hS, hlen, fun p hp => ?_, fun _ => rfl⟩
    obtain ⟨r, hr, e⟩ := htb p hp
    exact LamX.TabS.nil (by rw [← e]; exact hH _ (List.mem_map.mpr ⟨r, hr, rfl⟩))
end DL
namespace DL
open PySem L2 PyProof.Rows MeetsSeq3
end DL
namespace DL
open PySem L2 PyProof.Rows
section
variable {k : Kx} {X : Cx} {E : XK} {N n : Nat} {μ : Store} {tab : MTab}
/-- below the running body -/
structure Bl (X : Cx) (n N : Nat) (A : Around) : Prop where
  room : ∀ r, Room (r + N) X.A → Room (r + n) A
  fr : A.frames = X.A.frames
theorem Bl.in1 {A : Around} (b : Bl X (n + 1) N A) : Bl X n N A.in1 := ⟨fun r h => Room.in1 (show Room (r + n + 1) A from b.room r h), b.fr⟩
end
end DL
namespace DL
open PySem L2 PyProof.Rows
def starD (d : D) : M (List D) := fun m => match d with
  | .lst ds => .ok ds m
  | .tup ds => .ok ds m
  | _ => .bad
def aStar (a : DEnv → M D) (b : DEnv → M (List D)) : DEnv → M (List D) := fun e => do
  let x ← a e
  let xs ← starD x
  let ys ← b e
  pure (xs ++ ys)
section
variable {k : Kx} {X : Cx} {E : XK}
theorem ja_star {a : Expr} {es : List Expr} {p : Pos} {ma : DEnv → M D} {ms : DEnv → M (List D)} (ha : JE k X E a ma) (hb : JA k X E es ms) (hs : starEach (.Starred a p :: es) X.env = (true, eval a X.env) :: starEach es X.env := by rfl) : JA k X E (.Starred a p :: es) (aStar ma ms) := by
  refine PA.imp (StX.pa_star ha hb hs) fun s H Q h => ?_
  obtain ⟨e, G, L, μ, sg, w, gd⟩ := h
  refine ⟨e, G, L, μ, sg, w, Good.mono (Good.bind gd) fun d m1 G1 H1 L1 st1 w1 q1 v r => ?_⟩
  have fin : ∀ (ds : List D) (xs : List V) (aa : Addr), RpA k X.K G1 L1 xs ds → Good k X.K E G1 H1 L1 ((do let ys ← ms e; pure (ds ++ ys) : M (List D)) m1) (fun ds _ G' H' L' => ∀ vs, RpA k X.K G' L' vs ds → Q vs H') → dA k X.K E ms s H1 (fun ys H2 => Q (xs ++ ys) H2) := fun ds xs aa ra q =>
    ⟨e, G1, L1, m1, sg.mono st1.g st1.l, w1, Good.mono (Good.bind q) fun ys m2 G2 H2 L2 st2 w2 q2 vs rv => Good.ret q2 w2 _ (RpA.append (RpA.mono st2.g st2.l _ _ ra) rv)⟩
  cases d with
  | lst ds =>
    cases r with
    | @lst aa xs _ hs ra => exact ⟨aa, xs, rfl, .inr (w1.ext.seq hs), fin ds xs aa ra q1⟩
  | tup ds =>
    cases r with
    | @tup aa xs _ hs ra => exact ⟨aa, xs, rfl, .inl (sqT_mono w1.ext hs), fin ds xs aa ra q1⟩
  | _ => exact False.elim q1
end
end DL
namespace DL
open PySem L2 PyProof.Rows
section
variable {P : Program} {w : World} {A : Around} {E : Value → Shared → Prop}
/-- at most 62 different ones -/
def FewT (ks : List (Addr × List Int)) : Prop := ∀ M : List (List Int), M.Nodup → (∀ m ∈ M, m ∈ ks.map (·.2)) → M.length + 1 < 64
/-- what stands when i items are in -/
structure InT (P : Program) (w : World) (S : Addr) (ks : List (Addr × List Int)) (h0 : Heap) (i : Nat) (s : Shared) : Prop where
  old : ∀ b o, h0.get? b = some o → s.heap.get? b = some o
  set : ∃ L es ep t, SetTR P w s.heap S L es ep t ∧ Got ks i L
theorem InT.move {S : Addr} {ks : List (Addr × List Int)} {h0 : Heap} {i : Nat} {s s' : Shared} (I : InT P w S ks h0 i s) (hk : ∀ p ∈ ks, IsT P w h0 p.2 p.1) (m : ∀ b o, (b = S ∨ h0.get? b ≠ none) → s.heap.get? b = some o → s'.heap.get? b = some o) : InT P w S ks h0 i s' := by
  have old' : ∀ b o, h0.get? b = some o → s'.heap.get? b = some o := fun b o e => m b o (.inr (by rw [e]; exact nofun)) (I.old b o e)
  obtain ⟨L, es, ep, t, R, g⟩ := I.set
  exact ⟨old', L, es, ep, t, R.keep (fun o e => m S o (.inl rfl) e) fun q hq => isT_keep (hk q (List.mem_of_mem_take (g.sub q hq))) old', g⟩
theorem tups_loop {I : Addr} {fp wr : List Addr} {G : Array GenState → Array GenState → Prop} {n : Nat} {Pv : Nat → Value → Prop} {St : Nat → Shared → Prop} {R : Result → Shared → Prop} (W : WalksS P w A.in1 I fp wr G n Pv St) (S : Addr) (nS : S ∉ fp) (ks : List (Addr × List Int)) (few : FewT ks)
    (hval : ∀ i v, Pv i v → ∃ p, ks[i]? = some p ∧ v = .ref p.1) (h0 : Heap) (hk : ∀ p ∈ ks, IsT P w h0 p.2 p.1) (zS : h0.get? S = none) (zw : ∀ b ∈ wr, h0.get? b = none) (hu : A.in1.units < cLine) :
    ∀ (d i : Nat) (s : Shared), i + d = n → St i s → InT P w S ks h0 i s → (∀ s', Moved (S :: wr) G s s' → InT P w S ks h0 n s' → R (.ok (.ret .none)) s') → codeAny (model P w) A (.builtin "set.update.loop" ⟨[.ref S, .ref I], []⟩) R s := by
  have nw : S ∉ wr := fun z => nS (W.sub _ z)
  have wide : ∀ b ∈ wr, b ∈ S :: wr := fun b z => List.mem_cons_of_mem S z
  have stays : ∀ {i : Nat} {s s' : Shared}, Moved wr G s s' → InT P w S ks h0 i s → InT P w S ks h0 i s' := fun mv J => J.move hk fun b o z e => mv.heap b o (fun y => by
    rcases z with rfl | z
    · exact nw y
    · exact z (zw b y)) e
  intro d
  induction d with
  | zero =>
    intro i s hd st J fin
    obtain rfl : i = n := by omega
    refine codeAny_builtin F.entry_set_update_loop ?_
    rw [Around.under_plainId F.plain_set_update_loop _]
    refine wpAny_bind (m := pyNext (.ref I)) (W.done s _ _ st fun s' mv => ?_)
    exact wpAny_pure (fin s' (mv.mono wide) (stays mv J))
  | succ d ih =>
    intro i s hd st J fin
    refine codeAny_builtin F.entry_set_update_loop ?_
    rw [Around.under_plainId F.plain_set_update_loop _]
    refine wpAny_bind (m := pyNext (.ref I)) (W.item i s _ _ (by omega) st fun v s1 pv st1 mv => ?_)
    obtain ⟨p, hp, rfl⟩ := hval i v pv
    have J1 := stays mv J
    obtain ⟨L, es, ep, t, R1, g⟩ := J1.set
    have xp : IsT P w s1.heap p.2 p.1 := isT_keep (hk p (List.mem_of_getElem? hp)) J1.old
    have lim : L.length + 1 < 64 := by
      have := few (L.map (·.2)) R1.nd fun m hm => by
        obtain ⟨q, hq, rfl⟩ := List.mem_map.mp hm
        exact List.mem_map.mpr ⟨q, List.mem_of_mem_take (g.sub q hq), rfl⟩
      simpa using this
    refine wpAny_bind (m := holding [Value.ref p.1] (setAdd S (.ref p.1))) (wpAny_holding ?_)
    unfold setAdd
    refine wpAny_holding (wpAny_bind (wpAny_pyHash_tuple hu xp ?_))
    refine add_at (s := { s1 with toks := s1.toks + (p.2.length + 1) }) R1 xp hu lim fun b h2 L2 es2 ep2 t2 sb R2 c1 c2 => ?_
    have same : ∀ b, b ≠ S → h2.get? b = s1.heap.get? b := fun b ne => sb.2 b ne
    have J2 : InT P w S ks h0 (i + 1) { s1 with toks := s1.toks + (p.2.length + 1), heap := h2 } := by
      refine ⟨fun b o e => ?_, L2, es2, ep2, t2, R2, ?_⟩
      · show h2.get? b = some o
        rw [same b (fun z => by rw [z, zS] at e; cases e)]
        exact J1.old b o e
      · by_cases c : p.2 ∈ L.map (·.2)
        · rw [c1 c]
          exact g.same hp c
        · exact g.more hp (c2 c)
    refine wpAny_pure ⟨plainId_quiet F.plain_set_update_loop _, ih (i + 1) _ (by omega) (W.frame _ s1 _ _ st1 (Nat.le_add_right _ _) fun b hb o e => ?_) J2 fun s3 mv3 J3 => ?_⟩
    · show h2.get? b = some o
      rw [same b (fun z => nS (z ▸ hb))]
      exact e
    · refine fin s3 (Moved.trans W.gtrans ((mv.mono wide).then_heap (Nat.le_add_right _ _) fun b o hb e => ?_) mv3) J3
      show h2.get? b = some o
      rw [same b (fun z => hb (by rw [z]; exact List.mem_cons_self))]
      exact e
theorem init_tup {s : Shared} {l S : Addr} {items : Array Value} {ks : List (Addr × List Int)} {h0 : Heap} {R : Fin → Shared → Prop} (hh : A.handled = none) (hl : s.heap.IsList l items) (hi : items.toList = ks.map fun p => Value.ref p.1) (few : FewT ks) (hu : A.units + 1 < cLine)
    (hS : s.heap.get? S = some (setObj w)) (ne : S ≠ l) (h0s : ∀ b o, h0.get? b = some o → s.heap.get? b = some o) (zS : h0.get? S = none) (hk : ∀ p ∈ ks, IsT P w h0 p.2 p.1) (hz : h0.objs.size ≤ s.heap.objs.size)
    (h : ∀ (h' : Heap) (tk : Nat), InT P w S ks h0 ks.length { s with heap := h', toks := tk } → R (.done (.ret .none)) { s with heap := h', toks := tk }) :
    wpAny (model P w) A (Builtin.«set.__init__» ⟨[.ref S, .ref l], []⟩) R E s := by
  have hsz : items.size = ks.length := by
    have q := congrArg List.length hi
    rwa [Array.length_toList, List.length_map] at q
  obtain ⟨⟨oc, od, odt, osl⟩, ho, hc, n, hd⟩ := id hl
  simp only at hc hd
  subst hc hd
  have n1 := F.sub_list_set
  have n2 := F.sub_list_frozenset
  have n3 : (Value.type "list" == Value.type "dict") = false := by decide
  unfold Builtin.«set.__init__» noKeywords Builtin.Frozenset.updateFrom
  generalize hPI : pyIter = PI
  wp_walk
  subst hPI
  refine wpAny_pyIter_list hl (wpAny_bind (wpAny_runValue ?_))
  have ll := Heap.lt_size ho
  have lS := Heap.lt_size hS
  have hlI : l ≠ s.heap.objs.size := Nat.ne_of_lt ll
  have nf : S ∉ [s.heap.objs.size, l] := by
    simp only [List.mem_cons, List.not_mem_nil, or_false, not_or]
    exact ⟨Nat.ne_of_lt lS, ne⟩
  have hv : ∀ (i : Nat) (v : Value), items[i]? = some v → ∃ p, ks[i]? = some p ∧ v = .ref p.1 := fun i v e => by
    have q : items.toList[i]? = some v := by rw [Array.getElem?_toList]; exact e
    rw [hi, List.getElem?_map, Option.map_eq_some_iff] at q
    obtain ⟨p, a, b⟩ := q
    exact ⟨p, a, b.symm⟩
  have zI : ∀ b ∈ [s.heap.objs.size], h0.get? b = none := fun b hb => by
    rw [List.mem_singleton.mp hb]
    cases q : h0.get? s.heap.objs.size with
    | none => rfl
    | some o => exact absurd (Nat.lt_of_lt_of_le (Heap.lt_size q) hz) (Nat.lt_irrefl _)
  refine tups_loop (Walks.list (by simp [hh]) _ l hlI items).toS S nf ks few hv h0 hk zS zI (by show A.units + 1 < cLine; exact hu) items.size 0 _ (Nat.zero_add _) ⟨⟨_, Heap.get?_push_size _ rfl, rfl, rfl⟩, hl.push _⟩ ⟨fun b o e => Heap.get?_push_of_some _ (h0s b o e), [], #[], 0, _, setTR_fresh (Heap.get?_push_of_some _ hS), Got.zero ks⟩ fun s' mv J => ?_
  obtain ⟨h', g', d', t', o'⟩ := s'
  obtain rfl : g' = s.gens := mv.gens
  obtain rfl : d' = s.drawn := mv.drawn
  obtain rfl : o' = s.os := mv.os
  rw [hsz] at J
  exact wpAny_pure (wpAny_pure (h h' t' J))
theorem call_set_tup {s : Shared} {l : Addr} {items : Array Value} {ks : List (Addr × List Int)} {Q : Value → Shared → Prop} (hh : A.handled = none) (hl : s.heap.IsList l items) (hi : items.toList = ks.map fun p => Value.ref p.1) (few : FewT ks) (hk : ∀ p ∈ ks, IsT P w s.heap p.2 p.1) (hu : A.units + 8 < cLine)
    (h : ∀ (h' : Heap) (tk : Nat) L es ep t, SetTR P w h' s.heap.objs.size L es ep t → Got ks ks.length L → (∀ b o, s.heap.get? b = some o → h'.get? b = some o) → Q (.ref s.heap.objs.size) { s with heap := h', toks := tk }) :
    wpAny (model P w) A (call (.type "set") [.ref l]) Q E s := by
  obtain ⟨c, tl, hmro⟩ := F.called_set.mro
  have f1 := F.called_set.made
  have f2 := F.called_set.sub
  have f3 := F.called_set.notType
  have f4 := F.called_set.canCreate
  have f5 := F.typeCall_set_1 (.ref l)
  refine wpAny_call (codeAny_of_tree (wpAny_pure ⟨Code.quiet_builtin _ (by decide +kernel), codeAny_builtin F.entry_type_call ?_⟩))
  rw [Around.under_plain (weight_type_call_type "set" [.ref l] []) rfl]
  repeat (any_goals (first | assumption | wp_step))
  have new : (s.heap.push (setObj w)).get? s.heap.objs.size = some (setObj w) := Heap.get?_push_size _ rfl
  refine codeAny_mono (code_set_led1 (.ref l) (E := E) (Q₁ := fun v s1 => v = .ref s.heap.objs.size ∧ s1 = { s with heap := s.heap.push (setObj w) }) ⟨rfl, rfl⟩) fun r s1 hr => ?_
  match r, hr with
  | .error _, hr => exact hr
  | .ok .next, hr => exact hr.elim
  | .ok .brk, hr => exact hr.elim
  | .ok .cont, hr => exact hr.elim
  | .ok (.ret v), ⟨e1, e2⟩ =>
    subst e1 e2
    have g1 : Shared.TypeIs { s with heap := s.heap.push (setObj w) } (.ref s.heap.objs.size) "set" := ⟨_, new, rfl⟩
    have g2 := F.called_set.init.lookup
    have g3 := F.called_set.init.bind (.ref s.heap.objs.size)
    repeat (any_goals (first | assumption | wp_step))
    have ln : s.heap.objs.size ≠ l := fun z => by
      obtain ⟨o, ho, _⟩ := hl
      exact absurd (Heap.lt_size ho) (by rw [← z]; exact Nat.lt_irrefl _)
    have zS : s.heap.get? s.heap.objs.size = none := by
      cases q : s.heap.get? s.heap.objs.size with
      | none => rfl
      | some o => exact absurd (Heap.lt_size q) (Nat.lt_irrefl _)
    refine codeAny_mono (codeAny_call_builtin (R := wants (fun v s2 => v = .none ∧ Q (.ref s.heap.objs.size) s2) E) F.called_set.init.plain F.entry_set_init
      (check_set_init_1 g1 (init_tup (by simp [hh]) (hl.push _) hi few (by first | exact Nat.lt_of_le_of_lt (by simp [Around.in1]; omega) hu | (simp [Around.in1]; omega)) new ln (fun b o e => Heap.get?_push_of_some _ e) zS hk (by rw [Heap.size_push]; exact Nat.le_succ _) fun h' tk J => ?_))) fun r2 s2 hr2 => ?_
    · obtain ⟨L, es, ep, t, R, g⟩ := J.set
      exact ⟨rfl, h h' tk L es ep t R g J.old⟩
    match r2, hr2 with
    | .error _, hr2 => exact hr2
    | .ok .next, hr2 => exact hr2.elim
    | .ok .brk, hr2 => exact hr2.elim
    | .ok .cont, hr2 => exact hr2.elim
    | .ok (.ret v), ⟨e3, q⟩ =>
      subst e3
      repeat (any_goals (first | assumption | wp_step))
end
def rSetU (K : PySem.W.Frag) (P : Program) (w : World) : List V → Hp → VK → Prop := fun xs H Q => ∃ (l : Addr) (ks : List (Addr × List Int)), xs = [V.ref l] ∧ SqL K H l (ks.map fun p => V.ref p.1) ∧ (∀ p ∈ ks, SqT K H p.1 (p.2.map V.int)) ∧ FewT ks ∧
  ∀ a L, H a = none → (∀ p ∈ L, p ∈ ks) → (∀ p ∈ ks, p.2 ∈ L.map (·.2)) → Q (.ref a) (upd H a (SetTO P w a L))
theorem cr_setU {X : Cx} (hc : X.calm = true) (hu : X.A.units + 64 < cLine) : CallR X (.type "set") (rSetU X.K X.prog X.w) := by
  intro pins s σ H xs us Q I r h
  obtain ⟨l, ks, rfl, hl, hk, few, q⟩ := h
  rw [Vals.ref1 r]
  obtain ⟨its, rv, pl, hz⟩ := I.list hl
  refine call_set_tup (ks := ks) (I.ok.hd hc) pl.isList (by simpa using refs_of_vals rv) few (fun p hp => I.isT (hk p hp)) (by omega) fun h' tk L es ep t R g kp => ?_
  refine ⟨.ref s.heap.objs.size, upd H s.heap.objs.size (SetTO X.prog X.w s.heap.objs.size L), I.laid (t' := tk) kp (Nat.le_refl _) (setTO_new R.t0), rfl, q _ L (I.hok.fresh (Nat.le_refl _)) (fun p hp => List.mem_of_mem_take (g.sub p hp)) fun p hp => g.all p (by rwa [List.take_length])⟩
end DL
namespace DL
open PySem L2 PyProof.Rows
theorem nodup_le {α : Type} [BEq α] [LawfulBEq α] : ∀ (M S : List α), M.Nodup → (∀ m ∈ M, m ∈ S) → M.length ≤ S.length
  | [], S, _, _ => Nat.zero_le _
  | m :: M, S, nd, h => by
    obtain ⟨n1, n2⟩ := List.nodup_cons.mp nd
    have hm := h m (by simp)
    have ih := nodup_le M (S.erase m) n2 fun x hx => (List.mem_erase_of_ne (fun z : x = m => n1 (by rw [← z]; exact hx))).mpr (h x (by simp [hx]))
    rw [List.length_erase_of_mem hm] at ih
    have := List.length_pos_of_mem hm
    simp only [List.length_cons]
    omega
/-- the tuples' order -/
def cod (v : List Int) : Int := TS.code 64 v
structure Un (d : Nat) (v : List Int) : Prop where
  len : v.length = d
  bd : TS.Bd 64 v
theorem cod_inj : ∀ {d : Nat} {u v : List Int}, Un d u → Un d v → cod u = cod v → u = v
  | d, [], [], _, _, _ => rfl
  | d, [], b :: v, h, h', _ => by have := h.len; have := h'.len; simp at *; omega
  | d, a :: u, [], h, h', _ => by have := h.len; have := h'.len; simp at *; omega
  | d, a :: u, b :: v, h, h', e => by
    have l1 := h.len
    have l2 := h'.len
    simp only [List.length_cons] at l1 l2
    have hl : u.length = v.length := by omega
    have e' : TS.code 64 (a :: u) = TS.code 64 (b :: v) := e
    have ab : a = b := by
      rcases Int.lt_trichotomy a b with z | z | z
      · have := TS.code_lt hl h.bd.tail h'.bd.tail z
        omega
      · exact z
      · have := TS.code_lt hl.symm h'.bd.tail h.bd.tail z
        omega
    subst ab
    have uv : TS.code 64 u = TS.code 64 v := by
      have n1 := mt (TS.code_same (B := 64) (d := a) hl).mpr (by omega)
      have n2 := mt (TS.code_same (B := 64) (d := a) hl.symm).mpr (by omega)
      omega
    rw [cod_inj (d := u.length) ⟨rfl, h.bd.tail⟩ ⟨hl.symm, h'.bd.tail⟩ uv]
def insT (v : List Int) : List (List Int) → List (List Int)
  | [] => [v]
  | m :: r => if cod v < cod m then v :: m :: r else if cod v = cod m then m :: r else m :: insT v r
def sortT : List (List Int) → List (List Int)
  | [] => []
  | v :: r => insT v (sortT r)
theorem insT_sub {v : List Int} : ∀ {l : List (List Int)} {k : List Int}, k ∈ insT v l → k = v ∨ k ∈ l
  | [], k, h => by simpa [insT] using h
  | m :: r, k, h => by
    unfold insT at h
    split at h
    · simpa using h
    · split at h
      · exact .inr h
      · rcases List.mem_cons.mp h with h | h
        · exact .inr (by simp [h])
        · rcases insT_sub h with h | h
          · exact .inl h
          · exact .inr (by simp [h])
theorem insT_mem {d : Nat} {v : List Int} (hv : Un d v) : ∀ {l : List (List Int)}, (∀ m ∈ l, Un d m) → ∀ {k : List Int}, k ∈ insT v l ↔ k = v ∨ k ∈ l
  | [], _, k => by simp [insT]
  | m :: r, h, k => by
    unfold insT
    split
    · simp
    · split
      · rename_i e
        have := cod_inj hv (h m (by simp)) e
        subst this
        simp
      · rw [List.mem_cons, insT_mem hv fun x hx => h x (by simp [hx]), List.mem_cons]
        constructor
        · rintro (h | h | h) <;> simp [h]
        · rintro (h | h | h) <;> simp [h]
theorem sortT_sub : ∀ {l : List (List Int)} {k : List Int}, k ∈ sortT l → k ∈ l
  | [], k, h => h
  | v :: r, k, h => by
    rcases insT_sub h with h | h
    · simp [h]
    · simp [sortT_sub h]
theorem sortT_mem {d : Nat} : ∀ {l : List (List Int)}, (∀ m ∈ l, Un d m) → ∀ {k : List Int}, k ∈ sortT l ↔ k ∈ l
  | [], _, k => by simp [sortT]
  | v :: r, h, k => by
    rw [sortT, insT_mem (h v (by simp)) fun m hm => h m (by simp [sortT_sub hm]), sortT_mem fun m hm => h m (by simp [hm]), List.mem_cons]
theorem insT_srt {v : List Int} : ∀ {l : List (List Int)}, l.Pairwise (cod · < cod ·) → (insT v l).Pairwise (cod · < cod ·)
  | [], _ => by simp [insT]
  | m :: r, h => by
    obtain ⟨h1, h2⟩ := List.pairwise_cons.mp h
    unfold insT
    split
    · rename_i hn
      refine List.pairwise_cons.mpr ⟨fun a ha => ?_, h⟩
      rcases List.mem_cons.mp ha with rfl | ha
      · exact hn
      · have := h1 a ha
        omega
    · split
      · exact h
      · refine List.pairwise_cons.mpr ⟨fun a ha => ?_, insT_srt h2⟩
        rcases insT_sub ha with rfl | ha
        · omega
        · exact h1 a ha
theorem sortT_srt : ∀ (l : List (List Int)), (sortT l).Pairwise (cod · < cod ·)
  | [] => .nil
  | v :: r => insT_srt (sortT_srt r)
theorem codU : ∀ {l l' : List (List Int)}, l.Pairwise (cod · < cod ·) → l'.Pairwise (cod · < cod ·) → (∀ k, k ∈ l ↔ k ∈ l') → l = l'
  | [], [], _, _, _ => rfl
  | [], b :: l', _, _, e => by have := (e b).mpr (by simp); cases this
  | a :: l, [], _, _, e => by have := (e a).mp (by simp); cases this
  | a :: l, b :: l', h, h', e => by
    obtain ⟨h1, h2⟩ := List.pairwise_cons.mp h
    obtain ⟨h3, h4⟩ := List.pairwise_cons.mp h'
    have ab : a = b := by
      have x := (e a).mp (by simp)
      have y := (e b).mpr (by simp)
      rcases List.mem_cons.mp x with x | x
      · exact x
      · rcases List.mem_cons.mp y with y | y
        · exact y.symm
        · have := h3 a x
          have := h1 b y
          omega
    subst ab
    rw [codU h2 h4 fun k => ?_]
    constructor
    · intro hk
      rcases List.mem_cons.mp ((e k).mp (List.mem_cons_of_mem _ hk)) with z | z
      · subst z
        have := h1 k hk
        omega
      · exact z
    · intro hk
      rcases List.mem_cons.mp ((e k).mpr (List.mem_cons_of_mem _ hk)) with z | z
      · subst z
        have := h3 k hk
        omega
      · exact z
def rowsD : List D → Option (List (List Int))
  | [] => some []
  | d :: r => match d with
    | .tup ds => match intsD ds with
      | some v => (rowsD r).map (v :: ·)
      | none => none
    | _ => none
def okT : List (List Int) → Bool
  | [] => false
  | r :: R => decide (1 ≤ r.length) && (r :: R).all (fun v => decide (v.length = r.length) && v.all fun x => decide (0 ≤ x) && decide (x < 64)) && decide ((sortT (r :: R)).length + 1 < 64)
theorem okT_of {R : List (List Int)} (h : okT R = true) : ∃ d, 1 ≤ d ∧ (∀ v ∈ R, Un d v) ∧ (sortT R).length + 1 < 64 := by
  cases R with
  | nil => cases h
  | cons r R =>
    obtain ⟨h1, h3⟩ := Bool.and_eq_true_iff.mp (show (decide (1 ≤ r.length) && (r :: R).all (fun v => decide (v.length = r.length) && v.all fun x => decide (0 ≤ x) && decide (x < 64)) && decide ((sortT (r :: R)).length + 1 < 64)) = true from h)
    obtain ⟨h1, h2⟩ := Bool.and_eq_true_iff.mp h1
    refine ⟨r.length, of_decide_eq_true h1, fun v hv => ?_, of_decide_eq_true h3⟩
    obtain ⟨a, b⟩ := Bool.and_eq_true_iff.mp (List.all_eq_true.mp h2 v hv)
    refine ⟨of_decide_eq_true a, fun x hx => ?_⟩
    obtain ⟨c, d⟩ := Bool.and_eq_true_iff.mp (List.all_eq_true.mp b x hx)
    exact ⟨of_decide_eq_true c, of_decide_eq_true d⟩
def tpsD (R : List (List Int)) : List D := R.map fun r => D.tup (r.map .int)
def sortTD (d : D) : M D := do
  let ds ← seqD d
  match rowsD ds with
    | some R => if okT R = true then (match d with | .tup _ => M.bad | _ => pure (.lst (tpsD (sortT R)))) else M.bad
    | none => M.bad
section
variable {k : Kx} {X : Cx} {E : XK}
theorem rowsD_of {G : Hp} {L : Lam} : ∀ {ds : List D} {vs : List V} {R : List (List Int)}, RpA k X.K G L vs ds → rowsD ds = some R → ∃ ks : List (Addr × List Int), vs = ks.map (fun p => V.ref p.1) ∧ ks.map (·.2) = R ∧ ∀ p ∈ ks, SqT X.K G p.1 (p.2.map V.int)
  | [], _, _, r, h => by cases r; cases h; exact ⟨[], rfl, rfl, fun p hp => by cases hp⟩
  | d :: ds, _, _, r, h => by
    cases r with
    | cons r1 r2 =>
      cases d with
      | tup es =>
        simp only [rowsD] at h
        cases hi : intsD es with
        | none => rw [hi] at h; cases h
        | some v =>
          rw [hi] at h
          cases hr : rowsD ds with
          | none => rw [hr] at h; cases h
          | some R =>
            rw [hr] at h
            cases h
            obtain ⟨ks, e1, e2, e3⟩ := rowsD_of r2 hr
            cases r1 with
            | @tup a xs _ hs ha =>
              have ev := intsD_of ha hi
              subst ev
              refine ⟨(a, v) :: ks, by simp [e1], by simp [e2], fun p hp => ?_⟩
              rcases List.mem_cons.mp hp with rfl | hp
              · exact hs
              · exact e3 p hp
      | _ => simp [rowsD] at h
theorem rpA_rows {G : Hp} {L : Lam} : ∀ (ks : List (Addr × List Int)), (∀ p ∈ ks, SqT X.K G p.1 (p.2.map V.int)) → RpA k X.K G L (ks.map fun p => V.ref p.1) (tpsD (ks.map (·.2)))
  | [], _ => .nil
  | p :: ks, h => .cons (.tup (h p (by simp)) (rpA_ints p.2)) (rpA_rows ks fun q hq => h q (by simp [hq]))
theorem j_sortT {a : Expr} {ma : DEnv → M D} {p p2 q pos : Pos} (hu : X.A.units + 64 < cLine) (hg : Gl X "sorted") (hm : X.mg "sorted" = none) (hg2 : Gl X "set") (hm2 : X.mg "set" = none) (ha : JE k X E a ma) (hc : X.calm = true := by rfl)
    (h1 : starEach [a] X.env = [(false, eval a X.env)] := by rfl) (h2 : starEach [.Call (.Name "set" p2) [a] [] q] X.env = [(false, eval (.Call (.Name "set" p2) [a] [] q) X.env)] := by rfl) :
    JE k X E (.Call (.Name "sorted" p) [.Call (.Name "set" p2) [a] [] q] [] pos) (eUn sortTD ma) := by
  refine PE.imp (pe_callB (cr_sortedT hc) hg hm (by decide +kernel) (pa_cons (pe_callTy (cr_setU hc hu) hg2 hm2 (by decide +kernel) (pa_cons ha pa_nil h1) (by decide) (by decide) h1 rfl) pa_nil h2) (by decide) (by decide) h2 rfl) fun s H Q h => ?_
  obtain ⟨e, G, L, μ, sg, w, gd⟩ := h
  refine ⟨e, G, L, μ, sg, w, Good.mono (Good.bind gd) fun d1 m1 G1 H1 L1 st1 w1 q1 x r1 => ?_⟩
  obtain ⟨l, vs, ds, rfl, ra, hs, g⟩ := seq_of r1 w1 q1
  cases hi : rowsD ds with
  | none => rw [hi] at g; exact False.elim g
  | some R =>
    rw [hi] at g
    obtain ⟨hn, g⟩ := good_ite g
    obtain ⟨d, hd1, hun, hfew⟩ := okT_of hn
    obtain ⟨ks, ev, ek, hk⟩ := rowsD_of ra hi
    subst ev
    have un : ∀ p ∈ ks, Un d p.2 := fun p hp => hun p.2 (by rw [← ek]; exact List.mem_map.mpr ⟨p, hp, rfl⟩)
    have few : FewT ks := fun M nd hM => by
      have := nodup_le M (sortT R) nd fun m hm => (sortT_mem hun).mpr (ek ▸ hM m hm)
      omega
    rcases hs with ⟨hs, nt⟩ | ⟨hs, et⟩
    · refine ⟨l, ks, rfl, hs, fun p hp => sqT_mono w1.ext (hk p hp), few, fun b L0 hb sub all => ⟨b, L0, d, 64, rfl, upd_same, fun p hp => ?_, hd1, fun p hp => ⟨(un p (sub p hp)).len, (un p (sub p hp)).bd⟩, fun L' p pm nd l64 pw hpn => ?_⟩⟩
      · have w2 := w1.junk (o := SetTO X.prog X.w b L0) hb
        exact sqT_mono w2.ext (hk p (sub p hp))
      · have sub' : ∀ q ∈ L', q ∈ ks := fun q hq => sub q (pm.mem_iff.mp hq)
        have en : L'.map (·.2) = sortT R := by
          refine codU ?_ (sortT_srt R) fun z => ?_
          · rw [List.pairwise_map]
            have nd' : L'.Pairwise fun a b => a.2 ≠ b.2 := by
              unfold List.Nodup at nd
              rwa [List.pairwise_map] at nd
            refine List.Pairwise.imp_of_mem (fun {a b} hA hB (h : TS.code 64 a.2 ≤ TS.code 64 b.2 ∧ a.2 ≠ b.2) => ?_) (pw.and nd')
            have ne : cod a.2 ≠ cod b.2 := fun z => h.2 (cod_inj (un a (sub' a hA)) (un b (sub' b hB)) z)
            have le : cod a.2 ≤ cod b.2 := h.1
            omega
          · rw [sortT_mem hun, ← ek]
            constructor
            · intro hz
              obtain ⟨q, hq, rfl⟩ := List.mem_map.mp hz
              exact List.mem_map.mpr ⟨q, sub' q hq, rfl⟩
            · intro hz
              obtain ⟨q, hq, rfl⟩ := List.mem_map.mp hz
              obtain ⟨q', hq', e'⟩ := List.mem_map.mp (all q hq)
              exact List.mem_map.mpr ⟨q', pm.mem_iff.mpr hq', e'⟩
        have w2 := w1.junk (o := SetTO X.prog X.w b L0) hb
        have s2 : Stp G1 H1 L1 G1 (upd H1 b (SetTO X.prog X.w b L0)) L1 := junkS hb
        have g' : Good k X.K E G1 H1 L1 ((pure (.lst (tpsD (sortT R))) : M D) m1) (QV k X.K Q) := by
          cases d1 with
          | tup t => exact absurd rfl (nt t)
          | _ => exact g
        have g2 := Good.up g' s2
        refine g2 _ _ _ (w2.newS hpn) (w2.new hpn) _ (.lst (SqL.of upd_same) ?_)
        rw [← en]
        have st3 := w2.newS (o := .lst (L'.map fun q => V.ref q.1)) hpn
        exact rpA_rows L' fun q hq => sqT_mono st3.g (hk q (sub' q hq))
    · subst et
      exact False.elim g
end
end DL
namespace DL
open PySem L2
end DL
namespace DL
open PySem L2 PyProof.Rows
instance decGet (o : Option PySem.W.CFound) (a b c d : Value) : Decidable (o = some (.get a b c d)) :=
  match o with
  | none => isFalse (fun h => nomatch h)
  | some (.val _) => isFalse (fun h => nomatch h)
  | some (.get a' b' c' d') =>
    if h : a' = a ∧ b' = b ∧ c' = c ∧ d' = d then isTrue (by rw [h.1, h.2.1, h.2.2.1, h.2.2.2])
    else isFalse (fun e => h (by cases e; exact ⟨rfl, rfl, rfl, rfl⟩))
instance decVal (o : Option PySem.W.CFound) (a : Value) : Decidable (o = some (.val a)) :=
  match o with
  | none => isFalse (fun h => nomatch h)
  | some (.get _ _ _ _) => isFalse (fun h => nomatch h)
  | some (.val a') => if h : a' = a then isTrue (by rw [h]) else isFalse (fun e => h (by cases e; rfl))
end DL
namespace DL
open PySem L2 PyProof.Rows
def badB (_ _ : D) : M D := M.bad
section
variable {k : Kx} {X : Cx} {E : XK}
theorem b_bad {f : Value → Value → Sem Value} : BinD k X E f badB :=
  ⟨fun _ _ _ _ => False, fun _ _ _ _ _ _ _ _ _ _ _ _ h => h.elim, fun _ _ _ _ _ _ _ _ _ _ _ _ h => h⟩
end
end DL
namespace LW
open PySem L2 DL
def b_Space_len : DEnv → M Out := (sRet (eCallB lenD (aCons (eUn (attrD [(1, .slot 3)]) (eVar 0)) aNil)))
def d_Space_len : List D → M D := fnD 1 b_Space_len
def b_source : DEnv → M Out := (sSeq (sSet 2 (eC (.int 0))) (sSeq (sIf (tB' (eOp ltD (eVar 1) (eCallB lenD (aCons (eVar 0) aNil)))) (sSet 2 (eOp ixD (eVar 0) (eVar 1))) sNil) (sSeq (sSet 3 (eCallB maxD (aCons (eVar 2) (aCons (eOp subD (eUn negD (eC (.int 1))) (eVar 2)) aNil)))) (sSeq (sSet 4 (eOp modD (eCallB intD (aCons (eOp addD (eOp addD (eOp mulD (eOp modD (eCallB intD (aCons (eVar 3) aNil)) (eC (.int 2147483629))) (eC (.int 16807))) (eOp mulD (eC (.int 104729)) (eVar 1))) (eC (.int 11))) aNil)) (eC (.int 2147483647)))) (sSeq (sIf (tB' (eOp ltD (eVar 3) (eOp powD (eC (.int 10)) (eC (.int 18))))) (sSet 3 (eC (.int 0))) sNil) (sRet (eLstM (aCons (eVar 3) (aCons (eVar 4) aNil)))))))))
def d_source : List D → M D := fnD 5 b_source
def b_draw : DEnv → M Out := (sSeq (sIf (tB' (eOp gtD (eOp ixD (eVar 0) (eC (.int 0))) (eC (.int 0)))) (sSeq (sSet 2 (eOp modD (eCallB intD (aCons (eOp ixD (eVar 0) (eC (.int 0))) aNil)) (eVar 1))) (sSeq (sSetIx (eVar 0) (eC (.int 0)) (eOp fdvD (eOp ixD (eVar 0) (eC (.int 0))) (eVar 1))) (sRet (eVar 2)))) sNil) (sSeq (sSetIx (eVar 0) (eC (.int 1)) (eOp modD (eCallB intD (aCons (eOp addD (eOp mulD (eOp ixD (eVar 0) (eC (.int 1))) (eC (.int 48271))) (eC (.int 11))) aNil)) (eC (.int 2147483647)))) (sRet (eOp modD (eCallB intD (aCons (eOp fdvD (eOp modD (eCallB intD (aCons (eOp mulD (eOp ixD (eVar 0) (eC (.int 1))) (eOp ixD (eVar 0) (eC (.int 1)))) aNil)) (eC (.int 2147483629))) (eC (.int 64))) aNil)) (eVar 1)))))
def d_draw : List D → M D := fnD 3 b_draw
def b_pick : DEnv → M Out := (sRet (eOp ixD (eVar 1) (eCallB (callN 2 d_draw) (aCons (eVar 0) (aCons (eCallB lenD (aCons (eVar 1) aNil)) aNil)))))
def d_pick : List D → M D := fnD 2 b_pick
def b_form : DEnv → M Out := (sRet (eCallB (callN 2 d_pick) (aCons (eVar 0) (aCons (eLst (aCons (eTup (aCons (eC (.int 2)) (aCons (eC (.int 1)) aNil))) (aCons (eTup (aCons (eC (.int 2)) (aCons (eC (.int 2)) aNil))) (aCons (eTup (aCons (eC (.int 2)) (aCons (eC (.int 3)) aNil))) (aCons (eTup (aCons (eC (.int 2)) (aCons (eC (.int 4)) aNil))) (aCons (eTup (aCons (eC (.int 3)) (aCons (eC (.int 1)) aNil))) (aCons (eTup (aCons (eC (.int 3)) (aCons (eC (.int 2)) aNil))) (aCons (eTup (aCons (eC (.int 3)) (aCons (eC (.int 3)) aNil))) (aCons (eTup (aCons (eC (.int 5)) (aCons (eC (.int 2)) aNil))) (aCons (eTup (aCons (eC (.int 7)) (aCons (eC (.int 2)) aNil))) aNil)))))))))) aNil))))
def d_form : List D → M D := fnD 1 b_form
def c_factors_1 : DEnv → M D := (eComp (iRg1 (aCons (eVar 2) aNil)) (gNm 3) tYesD (eCallB (callN 2 d_draw) (aCons (eVar 0) (aCons (eVar 1) aNil))) [3])
def b_factors : DEnv → M Out := (sRet (eCallB tupleD (aCons c_factors_1 aNil)))
def d_factors : List D → M D := fnD 4 b_factors
def c_sums_1 : DEnv → M D := (eComp (iRg1 (aCons (eCallB (callN 2 d_draw) (aCons (eVar 0) (aCons (eOp addD (eVar 3) (eC (.int 1))) aNil))) aNil)) (gNm 4) tYesD (eCallB (callN 3 d_factors) (aCons (eVar 0) (aCons (eVar 1) (aCons (eVar 2) aNil)))) [4])
def b_sums : DEnv → M Out := (sRet c_sums_1)
def d_sums : List D → M D := fnD 5 b_sums
def b_Space_eq : DEnv → M Out := (sRet (eAnd (eIsi [0, 1] (.cls 1) (eVar 1)) (eAnd (eOp eqD (eUn (attrD [(1, .slot 1)]) (eVar 0)) (eUn (attrD [(0, .slot 0), (1, .slot 1)]) (eVar 1))) (eAnd (eOp eqD (eUn (attrD [(1, .slot 2)]) (eVar 0)) (eUn (attrD [(1, .slot 2)]) (eVar 1))) (eOp eqD (eUn (attrD [(1, .slot 3)]) (eVar 0)) (eUn (attrD [(1, .slot 3)]) (eVar 1)))))))
def d_Space_eq : List D → M D := fnD 2 b_Space_eq
def b_Sum_eq : DEnv → M Out := (sRet (eAnd (eIsi [0, 1] (.cls 0) (eVar 1)) (eAnd (eOp eqD (eUn (attrD [(0, .slot 0)]) (eVar 0)) (eUn (attrD [(0, .slot 0), (1, .slot 1)]) (eVar 1))) (eOp eqD (eUn (attrD [(0, .slot 1)]) (eVar 0)) (eUn (attrD [(0, .slot 1)]) (eVar 1))))))
def d_Sum_eq : List D → M D := fnD 2 b_Sum_eq
def b_is_integer : DEnv → M Out := (sRet (eAnd (eIsi [0, 1] .int (eVar 0)) (eNot (eIsi [0, 1] .bool (eVar 0)))))
def d_is_integer : List D → M D := fnD 1 b_is_integer
def b_is_prime : DEnv → M Out := (sRet (eAnd (eCallB (callN 1 d_is_integer) (aCons (eVar 0) aNil)) (eOp (inD false) (eVar 0) (eC (.tup (([2, 3, 5, 7] : List Int).map .int))))))
def d_is_prime : List D → M D := fnD 1 b_is_prime
def b_is_between : DEnv → M Out := (sRet (eAnd (eIsi [0, 1] .int (eVar 0)) (eAnd (eNot (eIsi [0, 1] .bool (eVar 0))) (eChain leD leD (eVar 1) (eVar 0) (eVar 2)))))
def d_is_between : List D → M D := fnD 3 b_is_between
def lb_power_1 : DEnv → M Out := (sSet 2 (eOp mulD (eVar 2) (eVar 0)))
def l_power_1 : DEnv → M Out := (sFor (iRg1 (aCons (eVar 1) aNil)) (gNm 3) lb_power_1)
def b_power : DEnv → M Out := (sSeq (sSet 2 (eC (.int 1))) (sSeq l_power_1 (sRet (eVar 2))))
def d_power : List D → M D := fnD 4 b_power
def b_is_size : DEnv → M Out := (sRet (eAnd (eCallB (callN 1 d_is_prime) (aCons (eVar 0) aNil)) (eAnd (eCallB (callN 3 d_is_between) (aCons (eVar 1) (aCons (eC (.int 1)) (aCons (eC (.int 6)) aNil)))) (eOp leD (eCallB (callN 2 d_power) (aCons (eVar 0) (aCons (eVar 1) aNil))) (eC (.int 4096))))))
def d_is_size : List D → M D := fnD 2 b_is_size
def c_is_data_1 : DEnv → M D := (eComp (iSeqD (eVar 2)) (gNm 3) tYesD (eCallB (callN 3 d_is_between) (aCons (eVar 3) (aCons (eC (.int 0)) (aCons (eOp subD (eVar 0) (eC (.int 1))) aNil)))) [3])
def b_is_data : DEnv → M Out := (sSeq (sIf (tOrD (tNotD (tB' (eCallB (callN 2 d_is_size) (aCons (eVar 0) (aCons (eVar 1) aNil))))) (tOrD (tNotD (tB' (eIsi [0, 1] .seq (eVar 2)))) (tB' (eOp neD (eCallB lenD (aCons (eVar 2) aNil)) (eVar 1))))) (sRet (eC (.bl false))) sNil) (sRet (eCallB allD (aCons c_is_data_1 aNil))))
def d_is_data : List D → M D := fnD 4 b_is_data
def b_Sum_init : DEnv → M Out := (sSeq (sIf (tNotD (tB' (eCallB (callN 1 d_is_prime) (aCons (eVar 1) aNil)))) (sRaise 3 (eVar 1)) sNil) (sSeq (sIf (tOrD (tNotD (tB' (eIsi [0, 1] .seq (eVar 2)))) (tNotD (tB' (eCallB (callN 3 d_is_data) (aCons (eVar 1) (aCons (eCallB lenD (aCons (eVar 2) aNil)) (aCons (eVar 2) aNil))))))) (sRaise 3 (eVar 2)) sNil) (sSeq (sAttr [(0, 0)] (eVar 0) (eVar 1)) (sAttr [(0, 1)] (eVar 0) (eCallB tupleD (aCons (eVar 2) aNil))))))
def d_Sum_init : List D → M D := fnD 3 b_Sum_init
def b_Space_prime : DEnv → M Out := (sRet (eUn (attrD [(1, .slot 1)]) (eVar 0)))
def d_Space_prime : List D → M D := fnD 1 b_Space_prime
def b_Sum_prime : DEnv → M Out := (sRet (eUn (attrD [(0, .slot 0)]) (eVar 0)))
def d_Sum_prime : List D → M D := fnD 1 b_Sum_prime
def b_Space_size : DEnv → M Out := (sRet (eUn (attrD [(1, .slot 2)]) (eVar 0)))
def d_Space_size : List D → M D := fnD 1 b_Space_size
def b_Sum_size : DEnv → M Out := (sRet (eCallB lenD (aCons (eUn (attrD [(0, .slot 1)]) (eVar 0)) aNil)))
def d_Sum_size : List D → M D := fnD 1 b_Sum_size
def b_is_sum : DEnv → M Out := (sRet (eAnd (eIsi [0, 1] (.cls 0) (eVar 0)) (eAnd (eOp eqD (eUn (attrD [(0, .prop d_Sum_prime), (1, .prop d_Space_prime)]) (eVar 0)) (eVar 1)) (eOp eqD (eUn (attrD [(0, .prop d_Sum_size), (1, .prop d_Space_size)]) (eVar 0)) (eVar 2)))))
def d_is_sum : List D → M D := fnD 3 b_is_sum
def b_Sum_factors : DEnv → M Out := (sRet (eUn (attrD [(0, .slot 1)]) (eVar 0)))
def d_Sum_factors : List D → M D := fnD 1 b_Sum_factors
def wt_lead_1 : DEnv → M Bool := (tAndD (tB' (eOp ltD (eVar 1) (eCallB lenD (aCons (eVar 0) aNil)))) (tB' (eOp eqD (eOp ixD (eVar 0) (eVar 1)) (eC (.int 0)))))
def wb_lead_1 : DEnv → M Out := (sAug 1 (eC (.int 1)))
def w_lead_1 : DEnv → M Out := (sWhile 100 wt_lead_1 wb_lead_1)
def b_lead : DEnv → M Out := (sSeq (sSet 1 (eC (.int 0))) (sSeq w_lead_1 (sRet (eVar 1))))
def d_lead : List D → M D := fnD 2 b_lead
def c_added_1 : DEnv → M D := (eComp (iZip (aCons (eVar 0) (aCons (eVar 1) aNil))) (gTp 2 (gsCons (gNm 4) (gsCons (gNm 5) gsNil))) tYesD (eOp modD (eOp addD (eVar 4) (eOp mulD (eVar 2) (eVar 5))) (eVar 3)) [4, 5])
def b_added : DEnv → M Out := (sRet (eCallB tupleD (aCons c_added_1 aNil)))
def d_added : List D → M D := fnD 6 b_added
def lb_rest_of_1 : DEnv → M Out := (sSet 0 (eCallB (callN 4 d_added) (aCons (eVar 0) (aCons (eVar 3) (aCons (eUn negD (eOp ixD (eVar 0) (eCallB (callN 1 d_lead) (aCons (eVar 3) aNil)))) (aCons (eVar 2) aNil))))))
def l_rest_of_1 : DEnv → M Out := (sFor (iSeqD (eVar 1)) (gNm 3) lb_rest_of_1)
def b_rest_of : DEnv → M Out := (sSeq l_rest_of_1 (sRet (eVar 0)))
def d_rest_of : List D → M D := fnD 4 b_rest_of
def wt_inverse_1 : DEnv → M Bool := (tB' (eOp neD (eOp modD (eOp mulD (eVar 2) (eVar 0)) (eVar 1)) (eC (.int 1))))
def wb_inverse_1 : DEnv → M Out := (sAug 2 (eC (.int 1)))
def w_inverse_1 : DEnv → M Out := (sWhile 100 wt_inverse_1 wb_inverse_1)
def b_inverse : DEnv → M Out := (sSeq (sSet 2 (eC (.int 1))) (sSeq w_inverse_1 (sRet (eVar 2))))
def d_inverse : List D → M D := fnD 3 b_inverse
def c_scaled_1 : DEnv → M D := (eComp (iSeqD (eVar 0)) (gNm 3) tYesD (eOp modD (eOp mulD (eVar 3) (eVar 1)) (eVar 2)) [3])
def b_scaled : DEnv → M Out := (sRet (eCallB tupleD (aCons c_scaled_1 aNil)))
def d_scaled : List D → M D := fnD 4 b_scaled
def c_reduced_1 : DEnv → M D := (eCompM (iSeqD (eVar 2)) (gNm 5) tYesD (eCallB (callN 4 d_added) (aCons (eVar 5) (aCons (eVar 3) (aCons (eUn negD (eOp ixD (eVar 5) (eVar 4))) (aCons (eVar 1) aNil))))) [5])
def lb_reduced_1 : DEnv → M Out := (sSeq (sSet 3 (eCallB (callN 3 d_rest_of) (aCons (eVar 3) (aCons (eVar 2) (aCons (eVar 1) aNil))))) (sSeq (sSet 4 (eCallB (callN 1 d_lead) (aCons (eVar 3) aNil))) (sIf (tB' (eOp ltD (eVar 4) (eCallB lenD (aCons (eVar 3) aNil)))) (sSeq (sSet 3 (eCallB (callN 3 d_scaled) (aCons (eVar 3) (aCons (eCallB (callN 2 d_inverse) (aCons (eOp ixD (eVar 3) (eVar 4)) (aCons (eVar 1) aNil))) (aCons (eVar 1) aNil))))) (sSeq (sSet 2 c_reduced_1) (sExpr (eApp (eVar 2) (eVar 3))))) sNil)))
def l_reduced_1 : DEnv → M Out := (sFor (iSeqD (eVar 0)) (gNm 3) lb_reduced_1)
def b_reduced : DEnv → M Out := (sSeq (sSet 2 (eLstM aNil)) (sSeq l_reduced_1 (sRet (eUn (sortKD fun d => callN 1 d_lead [d]) (eVar 2)))))
def d_reduced : List D → M D := fnD 6 b_reduced
def lb_Space_init_1 : DEnv → M Out := (sIf (tNotD (tB' (eCallB (callN 3 d_is_sum) (aCons (eVar 4) (aCons (eVar 1) (aCons (eVar 2) aNil)))))) (sRaise 3 (eVar 4)) sNil)
def l_Space_init_1 : DEnv → M Out := (sFor (iSeqD (eVar 3)) (gNm 4) lb_Space_init_1)
def c_Space_init_1 : DEnv → M D := (eComp (iSeqD (eVar 3)) (gNm 4) tYesD (eUn (attrD [(0, .prop d_Sum_factors)]) (eVar 4)) [4])
def c_Space_init_2 : DEnv → M D := (eComp (iSeqD (eUn (attrD [(1, .slot 3)]) (eVar 0))) (gNm 5) tYesD (eCallB (makeD 0 3 d_Sum_init) (aCons (eVar 1) (aCons (eVar 5) aNil))) [5])
def b_Space_init : DEnv → M Out := (sSeq (sIf (tNotD (tB' (eCallB (callN 1 d_is_prime) (aCons (eVar 1) aNil)))) (sRaise 5 (eVar 1)) sNil) (sSeq (sIf (tNotD (tB' (eCallB (callN 2 d_is_size) (aCons (eVar 1) (aCons (eVar 2) aNil))))) (sRaise 5 (eVar 2)) sNil) (sSeq (sIf (tNotD (tB' (eIsi [0, 1] .seq (eVar 3)))) (sRaise 3 (eVar 3)) sNil) (sSeq l_Space_init_1 (sSeq (sAsg (eTup (aCons (eVar 1) (aCons (eVar 2) aNil))) (gTp 2 (gsCons (gAt [(1, 1)] (eVar 0)) (gsCons (gAt [(1, 2)] (eVar 0)) gsNil)))) (sSeq (sAttr [(1, 3)] (eVar 0) (eCallB (callN 2 d_reduced) (aCons c_Space_init_1 (aCons (eVar 1) aNil)))) (sAttr [(1, 0)] (eVar 0) c_Space_init_2)))))))
def d_Space_init : List D → M D := fnD 6 b_Space_init
def c_made_1 : DEnv → M D := (eComp (iSeqD (eVar 2)) (gNm 3) tYesD (eCallB (makeD 0 3 d_Sum_init) (aCons (eVar 0) (aCons (eVar 3) aNil))) [3])
def b_made : DEnv → M Out := (sRet (eCallB (makeD 1 4 d_Space_init) (aCons (eVar 0) (aCons (eVar 1) (aCons c_made_1 aNil)))))
def d_made : List D → M D := fnD 4 b_made
def c_span_1 : DEnv → M D := (eComp (iZip (aCons (eVar 7) (aCons (eVar 4) aNil))) (gTp 2 (gsCons (gNm 8) (gsCons (gNm 9) gsNil))) tYesD (eOp modD (eCallB intD (aCons (eOp addD (eVar 8) (eOp mulX (eVar 6) (eVar 9))) aNil)) (eVar 1)) [8, 9])
def c_span_2 : DEnv → M D := (eComp (iSeqD (eVar 3)) (gNm 7) tYesD (eCallB tupleD (aCons c_span_1 aNil)) [7])
def lb_span_1 : DEnv → M Out := (sSet 5 (eOp addD (eVar 5) c_span_2))
def l_span_1 : DEnv → M Out := (sFor (iRg1 (aCons (eVar 1) aNil)) (gNm 6) lb_span_1)
def lb_span_2 : DEnv → M Out := (sSeq (sSet 5 (eLst aNil)) (sSeq l_span_1 (sSet 3 (eUn sortTD (eVar 5)))))
def l_span_2 : DEnv → M Out := (sFor (iSeqD (eVar 0)) (gNm 4) lb_span_2)
def b_span : DEnv → M Out := (sSeq (sSet 3 (eLst (aCons (eOp mulX (eTup (aCons (eC (.int 0)) aNil)) (eVar 2)) aNil))) (sSeq l_span_2 (sRet (eVar 3))))
def d_span : List D → M D := fnD 10 b_span
def b_Space_require : DEnv → M Out := (sIf (tOrD (tNotD (tB' (eIsi [0, 1] (.cls 1) (eVar 1)))) (tOrD (tB' (eOp neD (eUn (attrD [(0, .prop d_Sum_prime), (1, .prop d_Space_prime)]) (eVar 1)) (eUn (attrD [(1, .slot 1)]) (eVar 0)))) (tB' (eOp neD (eUn (attrD [(0, .prop d_Sum_size), (1, .prop d_Space_size)]) (eVar 1)) (eUn (attrD [(1, .slot 2)]) (eVar 0)))))) (sRaise 6 (eVar 1)) sNil)
def d_Space_require : List D → M D := fnD 2 b_Space_require
def b_Space_or : DEnv → M Out := (sSeq (sExpr (eMeth [(1, 2, d_Space_require)] (eVar 0) (aCons (eVar 1) aNil))) (sRet (eCallB (makeD 1 4 d_Space_init) (aCons (eUn (attrD [(1, .slot 1)]) (eVar 0)) (aCons (eUn (attrD [(1, .slot 2)]) (eVar 0)) (aCons (eLst (aStar (eUn (attrD [(1, .slot 0)]) (eVar 0)) (aStar (eUn (attrD [(1, .slot 0)]) (eVar 1)) aNil))) aNil))))))
def d_Space_or : List D → M D := fnD 2 b_Space_or
def c_Space_and_1 : DEnv → M D := (eComp (iSeqD (eUn (attrD [(1, .slot 3)]) (eVar 0))) (gNm 5) tYesD (eOp addD (eVar 5) (eVar 5)) [5])
def c_Space_and_2 : DEnv → M D := (eComp (iSeqD (eUn (attrD [(1, .slot 3)]) (eVar 1))) (gNm 5) tYesD (eOp addD (eVar 5) (eVar 2)) [5])
def c_Space_and_3 : DEnv → M D := (eComp (iSeqD (eCallB (callN 2 d_reduced) (aCons (eVar 3) (aCons (eUn (attrD [(1, .slot 1)]) (eVar 0)) aNil)))) (gNm 5) (tB' (eOp geD (eCallB (callN 1 d_lead) (aCons (eVar 5) aNil)) (eUn (attrD [(1, .slot 2)]) (eVar 0)))) (eSlice (eVar 5) (pSome (eUn (attrD [(1, .slot 2)]) (eVar 0))) pNone) [5])
def c_Space_and_4 : DEnv → M D := (eComp (iSeqD (eVar 4)) (gNm 5) tYesD (eCallB (makeD 0 3 d_Sum_init) (aCons (eUn (attrD [(1, .slot 1)]) (eVar 0)) (aCons (eVar 5) aNil))) [5])
def b_Space_and : DEnv → M Out := (sSeq (sExpr (eMeth [(1, 2, d_Space_require)] (eVar 0) (aCons (eVar 1) aNil))) (sSeq (sSet 2 (eOp mulX (eTup (aCons (eC (.int 0)) aNil)) (eUn (attrD [(1, .slot 2)]) (eVar 0)))) (sSeq (sSet 3 (eOp addD c_Space_and_1 c_Space_and_2)) (sSeq (sSet 4 c_Space_and_3) (sRet (eCallB (makeD 1 4 d_Space_init) (aCons (eUn (attrD [(1, .slot 1)]) (eVar 0)) (aCons (eUn (attrD [(1, .slot 2)]) (eVar 0)) (aCons c_Space_and_4 aNil)))))))))
def d_Space_and : List D → M D := fnD 6 b_Space_and
def c_all_data_1 : DEnv → M D := (eComp (iRg1 (aCons (eVar 0) aNil)) (gNm 6) tYesD (eOp addD (eVar 5) (eTup (aCons (eVar 6) aNil))) [6])
def lb_all_data_1 : DEnv → M Out := (sSet 4 (eOp addD (eVar 4) c_all_data_1))
def l_all_data_1 : DEnv → M Out := (sFor (iSeqD (eVar 2)) (gNm 5) lb_all_data_1)
def lb_all_data_2 : DEnv → M Out := (sSeq (sSet 4 (eLst aNil)) (sSeq l_all_data_1 (sSet 2 (eVar 4))))
def l_all_data_2 : DEnv → M Out := (sFor (iRg1 (aCons (eVar 1) aNil)) (gNm 3) lb_all_data_2)
def b_all_data : DEnv → M Out := (sSeq (sSet 2 (eLst (aCons (eTup aNil) aNil))) (sSeq l_all_data_2 (sRet (eVar 2))))
def d_all_data : List D → M D := fnD 7 b_all_data
def b_has_row : DEnv → M Out := (sRet (eNot (eCallB anyD (aCons (eCallB (callN 3 d_rest_of) (aCons (eVar 1) (aCons (eVar 0) (aCons (eVar 2) aNil)))) aNil))))
def d_has_row : List D → M D := fnD 3 b_has_row
def b_Space_contains : DEnv → M Out := (sRet (eAnd (eCallB (callN 3 d_is_sum) (aCons (eVar 1) (aCons (eUn (attrD [(1, .slot 1)]) (eVar 0)) (aCons (eUn (attrD [(1, .slot 2)]) (eVar 0)) aNil)))) (eCallB (callN 3 d_has_row) (aCons (eUn (attrD [(1, .slot 3)]) (eVar 0)) (aCons (eUn (attrD [(0, .prop d_Sum_factors)]) (eVar 1)) (aCons (eUn (attrD [(1, .slot 1)]) (eVar 0)) aNil))))))
def d_Space_contains : List D → M D := fnD 2 b_Space_contains
def c_Space_within_1 : DEnv → M D := (eComp (iSeqD (eUn (attrD [(1, .slot 3)]) (eVar 0))) (gNm 2) tYesD (eCallB (callN 3 d_has_row) (aCons (eUn (attrD [(1, .slot 3)]) (eVar 1)) (aCons (eVar 2) (aCons (eUn (attrD [(1, .slot 1)]) (eVar 0)) aNil)))) [2])
def b_Space_within : DEnv → M Out := (sSeq (sExpr (eMeth [(1, 2, d_Space_require)] (eVar 0) (aCons (eVar 1) aNil))) (sRet (eCallB allD (aCons c_Space_within_1 aNil))))
def d_Space_within : List D → M D := fnD 3 b_Space_within
def lb_law_1 : DEnv → M Out := (sSeq (sSet 15 (eCallB (makeD 0 3 d_Sum_init) (aCons (eVar 5) (aCons (eVar 4) aNil)))) (sIf (tOrD (tB' (eOp (ownE [0, 1] [(0, 2, d_Sum_eq), (1, 2, d_Space_eq)] true neD) (eOp (ownIn [(1, 2, d_Space_contains)] false) (eVar 15) (eVar 13)) (eOp (ownIn [(1, 2, d_Space_contains)] false) (eVar 4) (eVar 3)))) (tB' (eOp (ownE [0, 1] [(0, 2, d_Sum_eq), (1, 2, d_Space_eq)] true neD) (eOp (ownIn [(1, 2, d_Space_contains)] false) (eVar 15) (eVar 14)) (eAnd (eOp (ownIn [(1, 2, d_Space_contains)] false) (eVar 4) (eVar 11)) (eOp (ownIn [(1, 2, d_Space_contains)] false) (eVar 4) (eVar 12)))))) (sRet (eC (.bl false))) sNil))
def l_law_1 : DEnv → M Out := (sFor (iSeqD (eCallB (callN 2 d_all_data) (aCons (eVar 5) (aCons (eVar 6) aNil)))) (gNm 4) lb_law_1)
def c_law_1 : DEnv → M D := (eComp (iSeqD (eVar 11)) (gNm 4) tYesD (eOp (ownIn [(1, 2, d_Space_contains)] false) (eVar 4) (eVar 12)) [4])
def lb_law_2 : DEnv → M Out := (sSeq (sSet 2 (eCallB (callN 2 d_source) (aCons (eVar 0) (aCons (eVar 1) aNil)))) (sSeq (sAsg (eCallB (callN 1 d_form) (aCons (eVar 2) aNil)) (gTp 2 (gsCons (gNm 5) (gsCons (gNm 6) gsNil)))) (sSeq (sParA 7 8 (aCons (eCallB (callN 4 d_sums) (aCons (eVar 2) (aCons (eVar 5) (aCons (eVar 6) (aCons (eC (.int 4)) aNil))))) (aCons (eCallB (callN 4 d_sums) (aCons (eVar 2) (aCons (eVar 5) (aCons (eVar 6) (aCons (eC (.int 4)) aNil))))) aNil))) (sSeq (sIf (tB' (eOp (ownE [0, 1] [(0, 2, d_Sum_eq), (1, 2, d_Space_eq)] false eqD) (eCallB (callN 2 d_draw) (aCons (eVar 2) (aCons (eC (.int 3)) aNil))) (eC (.int 0)))) (sSet 8 (eOp addD (eCallB (callN 4 d_sums) (aCons (eVar 2) (aCons (eVar 5) (aCons (eVar 6) (aCons (eC (.int 1)) aNil))))) (eSlice (eVar 7) (pSome (eC (.int 1))) pNone))) sNil) (sSeq (sParA 9 10 (aCons (eCallB (callN 3 d_made) (aCons (eVar 5) (aCons (eVar 6) (aCons (eVar 7) aNil)))) (aCons (eCallB (callN 3 d_made) (aCons (eVar 5) (aCons (eVar 6) (aCons (eVar 8) aNil)))) aNil))) (sSeq (sAsg (eTup (aCons (eCallB (callN 3 d_span) (aCons (eVar 7) (aCons (eVar 5) (aCons (eVar 6) aNil)))) (aCons (eCallB (callN 3 d_span) (aCons (eVar 8) (aCons (eVar 5) (aCons (eVar 6) aNil)))) aNil))) (gTp 2 (gsCons (gNm 11) (gsCons (gNm 12) gsNil)))) (sSeq (sParA 13 14 (aCons (eOp (ownB [(1, 2, d_Space_or)] badB) (eVar 9) (eVar 10)) (aCons (eOp (ownB [(1, 2, d_Space_and)] badB) (eVar 9) (eVar 10)) aNil))) (sSeq (sSet 3 (eCallB (callN 3 d_span) (aCons (eOp addD (eVar 7) (eVar 8)) (aCons (eVar 5) (aCons (eVar 6) aNil))))) (sSeq (sIf (tOrD (tB' (eOp (ownE [0, 1] [(0, 2, d_Sum_eq), (1, 2, d_Space_eq)] true neD) (eVar 13) (eCallB (callN 3 d_made) (aCons (eVar 5) (aCons (eVar 6) (aCons (eVar 3) aNil)))))) (tB' (eOp (ownE [0, 1] [(0, 2, d_Sum_eq), (1, 2, d_Space_eq)] true neD) (eOp addD (eCallB (ownLen [(1, 1, d_Space_len)]) (aCons (eVar 13) aNil)) (eCallB (ownLen [(1, 1, d_Space_len)]) (aCons (eVar 14) aNil))) (eOp addD (eCallB (ownLen [(1, 1, d_Space_len)]) (aCons (eVar 9) aNil)) (eCallB (ownLen [(1, 1, d_Space_len)]) (aCons (eVar 10) aNil)))))) (sRet (eC (.bl false))) sNil) (sSeq l_law_1 (sSeq (sIf (tB' (eOp (ownE [0, 1] [(0, 2, d_Sum_eq), (1, 2, d_Space_eq)] true neD) (eMeth [(1, 2, d_Space_within)] (eVar 9) (aCons (eVar 10) aNil)) (eCallB allD (aCons c_law_1 aNil)))) (sRet (eC (.bl false))) sNil) (sSeq (sIf (tOrD (tNotD (tB' (eMeth [(1, 2, d_Space_within)] (eVar 9) (aCons (eVar 13) aNil)))) (tNotD (tB' (eMeth [(1, 2, d_Space_within)] (eVar 14) (aCons (eVar 10) aNil))))) (sRet (eC (.bl false))) sNil) (sIf (tOrD (tB' (eOp (ownE [0, 1] [(0, 2, d_Sum_eq), (1, 2, d_Space_eq)] true neD) (eOp (ownB [(1, 2, d_Space_and)] badB) (eVar 9) (eVar 9)) (eVar 9))) (tOrD (tB' (eOp (ownE [0, 1] [(0, 2, d_Sum_eq), (1, 2, d_Space_eq)] true neD) (eOp (ownB [(1, 2, d_Space_or)] badB) (eVar 9) (eVar 9)) (eVar 9))) (tOrD (tB' (eOp (ownE [0, 1] [(0, 2, d_Sum_eq), (1, 2, d_Space_eq)] true neD) (eOp (ownB [(1, 2, d_Space_and)] badB) (eVar 10) (eVar 9)) (eVar 14))) (tB' (eOp (ownE [0, 1] [(0, 2, d_Sum_eq), (1, 2, d_Space_eq)] true neD) (eOp (ownB [(1, 2, d_Space_or)] badB) (eVar 10) (eVar 9)) (eVar 13)))))) (sRet (eC (.bl false))) sNil)))))))))))))
def l_law_2 : DEnv → M Out := (sFor (iRg1 (aCons (eCallB maxD (aCons (eC (.int 1)) (aCons (eCallB minD (aCons (eCallB (ownLen [(1, 1, d_Space_len)]) (aCons (eVar 0) aNil)) (aCons (eC (.int 12)) aNil))) aNil))) aNil)) (gNm 1) lb_law_2)
def b_law : DEnv → M Out := (sSeq l_law_2 (sRet (eC (.bl true))))
def d_law : List D → M D := fnD 16 b_law
theorem draw_ok {m : Store} {n : Nat} {k : Int} (h : SrcAt m n) (hk : 0 < k) (hk2 : k < 2 ^ 100) :
    ∃ r m', d_draw [.loc n, .int k] m = .ok (.int r) m' ∧ Chg n m m' ∧ 0 ≤ r ∧ r < k := by
  obtain ⟨a, s, h⟩ := h
  have hl := (List.getElem?_eq_some_iff.mp h).1
  have sq : seqD (.loc n) m = .ok [.int a, .int s] m := seq_loc h
  have i0 : ixD (.loc n) (.int 0) m = .ok (.int a) m := ix_seq sq (by decide) rfl
  have i1 : ixD (.loc n) (.int 1) m = .ok (.int s) m := ix_seq sq (by decide) rfl
  by_cases ha : 0 < a
  · refine ⟨a % k, m.set n (some (.lst [.int (a / k), .int s])), fn_any ?_ (by simp), ⟨_, _, rfl⟩, Int.emod_nonneg _ (by omega), Int.emod_lt_of_pos _ hk⟩
    simp [b_draw, startD, i0, ha, mod_int m hk, fdv_int m hk hk2, sSetIx, setIx, h, ixN]
  · have hs : 0 ≤ (s * 48271 + 11) % 2147483647 ∧ (s * 48271 + 11) % 2147483647 < 2147483647 := ⟨Int.emod_nonneg _ (by decide), Int.emod_lt_of_pos _ (by decide)⟩
    generalize hs' : (s * 48271 + 11) % 2147483647 = s' at hs
    have h2 : (m.set n (some (.lst [.int a, .int s'])))[n]? = some (some (.lst [.int a, .int s'])) := by simp [hl]
    have j1 : ixD (.loc n) (.int 1) (m.set n (some (.lst [.int a, .int s']))) = .ok (.int s') (m.set n (some (.lst [.int a, .int s']))) := ix_seq (seq_loc h2) (by decide) rfl
    refine ⟨s' * s' % 2147483629 / 64 % k, m.set n (some (.lst [.int a, .int s'])), fn_any ?_ (by simp), ⟨_, _, rfl⟩, Int.emod_nonneg _ (by omega), Int.emod_lt_of_pos _ hk⟩
    have c1 : CM s 48271 := .inr ⟨by decide, by decide⟩
    have c2 : CM s' s' := .inl ⟨by omega, by omega⟩
    simp [b_draw, startD, i0, i1, ha, mod_int m (show (0 : Int) < 2147483647 by decide), sSetIx, setIx, h, ixN, mul_int _ c1, hs', j1, mul_int _ c2, mod_int _ (show (0 : Int) < 2147483629 by decide), fdv_int _ (show (0 : Int) < 64 by decide) (by decide), mod_int _ hk]
theorem source_ok {m : Store} {ns : List Int} {t : Nat} : ∃ a s : Int, d_source [.lst (ils ns), .int t] m = .ok (.loc m.length) (m ++ [some (.lst [.int a, .int s])]) := by
  have c1 : ∀ x, CM x 16807 := fun x => .inr ⟨by decide, by decide⟩
  have c2 : CM 104729 (t : Int) := .inl ⟨by decide, by decide⟩
  have c3 : CPw 10 18 := ⟨by decide, by decide, by decide⟩
  have p1 : (0 : Int) < 2147483629 := by decide
  have p2 : (0 : Int) < 2147483647 := by decide
  by_cases ht : t < ns.length
  · have e : ixD (.lst (ils ns)) (.int t) m = .ok (.int ns[t]) m := ix_seq rfl (by omega) (by simp [ils, ht])
    generalize hq : (if ns[t] < -1 - ns[t] then -1 - ns[t] else ns[t]) = q
    by_cases hc : q < 1000000000000000000
    · refine ⟨0, (q % 2147483629 * 16807 + 104729 * t + 11) % 2147483647, fn_new ?_ (by simp [D.und])⟩
      simp [b_source, startD, ht, e, hq, mod_int _ p1, mul_int _ (c1 _), mul_int _ c2, mod_int _ p2, pow_int _ c3, hc, newM]
    · refine ⟨q, (q % 2147483629 * 16807 + 104729 * t + 11) % 2147483647, fn_new ?_ (by simp [D.und])⟩
      simp [b_source, startD, ht, e, hq, mod_int _ p1, mul_int _ (c1 _), mul_int _ c2, mod_int _ p2, pow_int _ c3, hc, newM]
  · refine ⟨0, (0 % 2147483629 * 16807 + 104729 * t + 11) % 2147483647, fn_new ?_ (by simp [D.und])⟩
    simp [b_source, startD, ht, mod_int _ p1, mul_int _ (c1 _), mul_int _ c2, mod_int _ p2, pow_int _ c3, newM]
theorem src_new (m : Store) (a s : Int) : SrcAt (m ++ [some (.lst [.int a, .int s])]) m.length := ⟨a, s, by simp⟩
theorem pick_ok {m : Store} {n : Nat} {ds : List D} (h : SrcAt m n) (h0 : 0 < ds.length) (h1 : ds.length < 100000) :
    ∃ d m', d_pick [.loc n, .lst ds] m = .ok d m' ∧ Chg n m m' ∧ d ∈ ds := by
  obtain ⟨r, m', e, c, r0, r1⟩ := draw_ok (k := (ds.length : Int)) h (by omega) (by omega)
  have hr : r.toNat < ds.length := by omega
  refine ⟨ds[r.toNat], m', fn_any ?_ c.len, c, List.getElem_mem _⟩
  have e2 : ixD (.lst ds) (.int r) m' = .ok ds[r.toNat] m' := ix_seq rfl r0 (by simp [hr])
  simp [b_pick, startD, e, e2]
def rowsIn (p : Int) (ns : List Int) : Prop := ∀ x ∈ ns, 0 ≤ x ∧ x < p
theorem und_ils (n : Nat) : ∀ ns : List Int, D.undL n (ils ns) = true
  | [] => rfl
  | i :: r => by
    rw [ils_cons]
    simp [D.undL, D.und, und_ils n r]
abbrev OkP (p : Int) : Prop := p = 2 ∨ p = 3 ∨ p = 5 ∨ p = 7
structure Fm (p : Int) (s : Nat) : Prop where
  okp : OkP p
  s1 : 1 ≤ s
  s6 : s ≤ 6
  pw : p ^ s ≤ 4096
theorem is_integer_ok (i : Int) (m : Store) : d_is_integer [.int i] m = .ok (.bl true) m := by
  refine fn_pure ?_
  simp [b_is_integer, startD, isK]
theorem is_prime_ok {p : Int} (h : OkP p) (m : Store) : d_is_prime [.int p] m = .ok (.bl true) m := by
  refine fn_pure ?_
  rcases h with rfl | rfl | rfl | rfl <;> simp [b_is_prime, startD, is_integer_ok, inD, flatD, eqFl]
theorem is_between_ok (v a b : Int) (m : Store) : d_is_between [.int v, .int a, .int b] m = .ok (.bl (decide (a ≤ v) && decide (v ≤ b))) m := by
  refine fn_pure ?_
  by_cases h : a ≤ v <;> simp [b_is_between, startD, isK, h]
theorem power_ok {p : Int} (h : OkP p) (s : Nat) (hs : s ≤ 6) (m : Store) : d_power [.int p, .int s] m = .ok (.int (p ^ s)) m := by
  refine fn_pure ?_
  have hr : iRg1 (aCons (eVar 1) aNil) [some (D.int p), some (D.int s), some (D.int 1), none] m = .ok ⟨rngI 0 s, []⟩ m := iRg1_nat (by omega) (by simp)
  obtain ⟨e', m', h1, x, rfl, rfl⟩ := forL_inv (src := rngI 0 s) (g := gNm 3) (b := lb_power_1) (fun i e m' => ∃ x, e = [some (D.int p), some (D.int s), some (D.int (p ^ i)), x] ∧ m' = m) (rngI 0 s) 0 [some (D.int p), some (D.int s), some (D.int 1), none] m ⟨none, by simp, rfl⟩ (by
    rintro j d e m' hj ⟨x, rfl, rfl⟩
    refine ⟨_, _, [some (D.int p), some (D.int s), some (D.int (p ^ (0 + j + 1))), some d], m', rfl, .inl ?_, some d, rfl, rfl⟩
    have c : CM (p ^ j) p := cm_r (by rcases h with h | h | h | h <;> omega) (by rcases h with h | h | h | h <;> omega)
    simp [lb_power_1, mul_int _ c, Int.pow_succ])
  have hlen : 0 + (rngI 0 s).length = s := by simp [rngI]
  rw [hlen] at h1
  have h2 : b_power (startD 4 [.int p, .int s]) m' = (forL ⟨rngI 0 s, []⟩ (gNm 3) lb_power_1 (rngI 0 s) [some (D.int p), some (D.int s), some (D.int 1), none] m').thn fun o m1 => andThen o (sRet (eVar 2)) m1 := by
    simp [b_power, l_power_1, startD, hr]
  rw [h2, h1]
  simp
theorem is_size_ok {p : Int} {s : Nat} (h : Fm p s) (m : Store) : d_is_size [.int p, .int s] m = .ok (.bl true) m := by
  refine fn_pure ?_
  have h1 : (1 : Int) ≤ s := by have := h.s1; omega
  have h2 : (s : Int) ≤ 6 := by have := h.s6; omega
  simp [b_is_size, startD, is_prime_ok h.okp, is_between_ok, h1, h2, power_ok h.okp s h.s6, h.pw]
theorem is_data_ok {p : Int} {ns : List Int} (h : Fm p ns.length) (hn : ∀ x ∈ ns, 0 ≤ x ∧ x < p) (b : Bool) (m : Store) : d_is_data [.int p, .int ns.length, Sq b ns] m = .ok (.bl true) m := by
  refine fn_pure ?_
  have hc : ∀ e, (e : DEnv) = startD 4 [.int p, .int ns.length, Sq b ns] → c_is_data_1 e m = .ok (.lst (ns.map fun _ => D.bl true)) m := by
    rintro e rfl
    refine eComp_on (h := D.int) (by simp [startD, ils]) (by have := h.s6; omega) fun x hx => ⟨_, rfl, ?_⟩
    obtain ⟨q1, q2⟩ := hn x hx
    have q3 : x ≤ p - 1 := by omega
    simp [startD, wipeD, is_between_ok, q1, q3]
  have hc := hc _ rfl
  have e2 : (ns.map fun _ => D.bl true) = (ns.map fun _ => true).map D.bl := by simp
  have hall := all_bls (ns.map fun _ => true) m
  rw [← e2] at hall
  simp only [startD] at hc
  simp at hc hall
  simp [b_is_data, startD, is_size_ok h, hc, hall]
section rows
open LA
variable {p : Int} {n : Nat}
theorem lead_ok {r : List Int} (hl : r.length ≤ 90) (m : Store) : d_lead [.tup (ils r)] m = .ok (.int (leadR r)) m := by
  refine fn_pure ?_
  have hle := lead_le r
  have w := while_run (t := wt_lead_1) (b := wb_lead_1) (m := m) (fun i => [some (.tup (ils r)), some (.int (i : Int))]) (leadR r) (fun i hi => by
    have hz := lead_before hi
    have hi' : i < r.length := by omega
    rw [at_lt hi'] at hz
    have ix : ixD (.tup (ils r)) (.int i) m = .ok (.int 0) m := ix_seq rfl (by omega) (by simp [ils, hi', hz])
    refine ⟨by simp [wt_lead_1, hi', ix], ?_⟩
    have := sAug_ap 1 (a := eC (.int 1)) (e := [some (.tup (ils r)), some (.int (i : Int))]) (m := m) (x := i) (y := 1) rfl rfl
    simpa [wb_lead_1] using this) (by
    by_cases hq : leadR r < r.length
    · have hz := lead_at hq
      rw [at_lt hq] at hz
      have ix : ixD (.tup (ils r)) (.int (leadR r)) m = .ok (.int r[leadR r]) m := ix_seq rfl (by omega) (by simp [ils, hq])
      simp [wt_lead_1, hq, ix, hz]
    · simp [wt_lead_1, hq]) 100 0 (by omega) (by omega)
  refine sq_of (e1 := [some (.tup (ils r)), some (.int 0)]) (m1 := m) (by simp [startD]) ?_
  have w' : w_lead_1 [some (.tup (ils r)), some (.int 0)] m = .ok (.nx [some (.tup (ils r)), some (.int (leadR r))]) m := w
  exact sq_of w' (by simp)
theorem zipT_ils (a b : List Int) : zipT (ils a) (ils b) = (a.zip b).map fun q => D.tup [.int q.1, .int q.2] := by
  simp [zipT, ils, List.zip_map]
theorem added_ok {r o : List Int} {f : Int} (hr : Vec p n r) (ho : Vec p n o) (hp : 0 < p) (hp2 : p < 100) (hn : n ≤ 90) (hf : -100 < f ∧ f < 100) (m : Store) : d_added [.tup (ils r), .tup (ils o), .int f, .int p] m = .ok (.tup (ils (addR p r o f))) m := by
  refine fn_pure ?_
  have cc : c_added_1 [some (.tup (ils r)), some (.tup (ils o)), some (.int f), some (.int p), none, none] m = .ok (.lst (ils (addR p r o f))) m := by
    have e : ils (addR p r o f) = (r.zip o).map fun q => D.int ((q.1 + f * q.2) % p) := by simp [ils, addR]
    rw [e]
    refine eComp_on (h := fun q : Int × Int => D.tup [.int q.1, .int q.2]) ?_ (by simp [hr.len, ho.len]; omega) fun q hq => ⟨_, rfl, ?_⟩
    · rw [iZip_ap _ _ _ (x := .tup (ils r)) (y := .tup (ils o)) (m1 := m) (xs := ils r) (ys := ils o) (by simp) rfl rfl, zipT_ils]
    · have c : CM f q.2 := .inl ⟨by omega, by omega⟩
      simp [wipeD, mul_int _ c, mod_int _ hp]
  have : min r.length o.length ≤ 100000 := by rw [hr.len, ho.len]; omega
  simp [b_added, startD, cc, this]
theorem scaled_ok {r : List Int} {f : Int} (hr : Vec p n r) (hp : 0 < p) (hn : n ≤ 90) (hf : -100 < f ∧ f < 100) (m : Store) : d_scaled [.tup (ils r), .int f, .int p] m = .ok (.tup (ils (sclR p r f))) m := by
  refine fn_pure ?_
  have cc : c_scaled_1 [some (.tup (ils r)), some (.int f), some (.int p), none] m = .ok (.lst (ils (sclR p r f))) m := by
    have e : ils (sclR p r f) = r.map fun a => D.int (a * f % p) := by simp [ils, sclR]
    rw [e]
    refine eComp_on (h := D.int) (by simp [ils]) (by rw [hr.len]; omega) fun q hq => ⟨_, rfl, ?_⟩
    have c : CM q f := .inr ⟨by omega, by omega⟩
    simp [wipeD, mul_int _ c, mod_int _ hp]
  have : r.length ≤ 100000 := by rw [hr.len]; omega
  simp [b_scaled, startD, cc, this]
theorem inv_run {a p : Int} {f : Nat} (h0 : 0 < p) (h2 : ((1 + f : Nat) : Int) * a % p = 1) (h1 : ∀ i, i < f → ((1 + i : Nat) : Int) * a % p ≠ 1) (ha : 0 ≤ a ∧ a < 100) (hf : f < 90) (m : Store) : d_inverse [.int a, .int p] m = .ok (.int (1 + f : Nat)) m := by
  refine fn_pure ?_
  have cm : ∀ i : Nat, CM ((1 + i : Nat) : Int) a := fun i => .inr ⟨by omega, by omega⟩
  have w := while_run (t := wt_inverse_1) (b := wb_inverse_1) (m := m) (fun i => [some (.int a), some (.int p), some (.int ((1 + i : Nat) : Int))]) f (fun i hi => by
    have hb : ((((1 + i : Nat) : Int) * a % p) == 1) = false := beq_eq_false_iff_ne.mpr (h1 i hi)
    refine ⟨by simp only [wt_inverse_1, tB_ap, eOp_ap, eVar_ap, getv_some m (i := 2) (e := [some (D.int a), some (.int p), some (.int ((1 + i : Nat) : Int))]) rfl, getv_some m (i := 0) (e := [some (D.int a), some (.int p), some (.int ((1 + i : Nat) : Int))]) rfl, getv_some m (i := 1) (e := [some (D.int a), some (.int p), some (.int ((1 + i : Nat) : Int))]) rfl, thn_ok, mul_int _ (cm i), mod_int _ h0, eC_ap, ne_int, asB_bl, hb]; rfl, ?_⟩
    have := sAug_ap 2 (a := eC (.int 1)) (e := [some (.int a), some (.int p), some (.int ((1 + i : Nat) : Int))]) (m := m) (x := ((1 + i : Nat) : Int)) (y := 1) rfl rfl
    rw [show ((1 + i : Nat) : Int) + 1 = ((1 + (i + 1) : Nat) : Int) by omega] at this
    exact this) (by
    simp only [wt_inverse_1, tB_ap, eOp_ap, eVar_ap, getv_some m (i := 2) (e := [some (D.int a), some (.int p), some (.int ((1 + f : Nat) : Int))]) rfl, getv_some m (i := 0) (e := [some (D.int a), some (.int p), some (.int ((1 + f : Nat) : Int))]) rfl, getv_some m (i := 1) (e := [some (D.int a), some (.int p), some (.int ((1 + f : Nat) : Int))]) rfl, thn_ok, mul_int _ (cm f), mod_int _ h0, eC_ap, ne_int, asB_bl, h2]
    rfl) 100 0 (by omega) (by omega)
  refine sq_of (e1 := [some (.int a), some (.int p), some (.int 1)]) (m1 := m) (by simp [startD]) ?_
  have w' : w_inverse_1 [some (.int a), some (.int p), some (.int 1)] m = .ok (.nx [some (.int a), some (.int p), some (.int (1 + f : Nat))]) m := w
  exact sq_of w' (by rw [sRet_ap, eVar_ap, getv_some m (d := .int (1 + f : Nat)) rfl]; rfl)
theorem inverse_ok {a : Int} (hp : OkP p) (ha : 0 < a ∧ a < p) (m : Store) : ∃ f : Int, d_inverse [.int a, .int p] m = .ok (.int f) m ∧ a * f % p = 1 ∧ 0 ≤ f ∧ f < 100 := by
  have key : ∀ f : Nat, 0 < p → ((1 + f : Nat) : Int) * a % p = 1 → (∀ i, i < f → ((1 + i : Nat) : Int) * a % p ≠ 1) → a < 100 → f < 90 → ∃ f : Int, d_inverse [.int a, .int p] m = .ok (.int f) m ∧ a * f % p = 1 ∧ 0 ≤ f ∧ f < 100 := fun f h0 h2 h1 hb hf =>
    ⟨_, inv_run h0 h2 h1 ⟨by omega, hb⟩ hf m, by rw [Int.mul_comm]; exact h2, by omega, by omega⟩
  rcases hp with rfl | rfl | rfl | rfl
  · have : a = 1 := by omega
    subst this
    exact key 0 (by decide) (by decide) (by decide) (by decide) (by decide)
  · have : a = 1 ∨ a = 2 := by omega
    rcases this with rfl | rfl
    · exact key 0 (by decide) (by decide) (by decide) (by decide) (by decide)
    · exact key 1 (by decide) (by decide) (by decide) (by decide) (by decide)
  · have : a = 1 ∨ a = 2 ∨ a = 3 ∨ a = 4 := by omega
    rcases this with rfl | rfl | rfl | rfl
    · exact key 0 (by decide) (by decide) (by decide) (by decide) (by decide)
    · exact key 2 (by decide) (by decide) (by decide) (by decide) (by decide)
    · exact key 1 (by decide) (by decide) (by decide) (by decide) (by decide)
    · exact key 3 (by decide) (by decide) (by decide) (by decide) (by decide)
  · have : a = 1 ∨ a = 2 ∨ a = 3 ∨ a = 4 ∨ a = 5 ∨ a = 6 := by omega
    rcases this with rfl | rfl | rfl | rfl | rfl | rfl
    · exact key 0 (by decide) (by decide) (by decide) (by decide) (by decide)
    · exact key 3 (by decide) (by decide) (by decide) (by decide) (by decide)
    · exact key 4 (by decide) (by decide) (by decide) (by decide) (by decide)
    · exact key 1 (by decide) (by decide) (by decide) (by decide) (by decide)
    · exact key 2 (by decide) (by decide) (by decide) (by decide) (by decide)
    · exact key 5 (by decide) (by decide) (by decide) (by decide) (by decide)
theorem okp_b (hp : OkP p) : 1 < p ∧ p < 100 := by rcases hp with h | h | h | h <;> omega
theorem ix_at {r : List Int} {i : Nat} (h : i < r.length) (m : Store) : ixD (.tup (ils r)) (.int i) m = .ok (.int (LA.at_ r i)) m := ix_seq rfl (by omega) (by simp [ils, h, at_lt h])
/-- rest_of: the rows are data, or stand at a location -/
theorem rest_ok {R : List (List Int)} {v : List Int} {rows : D} {src : Src} (hp : OkP p) (h : Red p n R) (hv : Vec p n v) (hn : n ≤ 90) {m : Store} (hs : srcD rows m = .ok src m) (hi : src.items = tps R) (ok : src.okB m = true) : d_rest_of [.tup (ils v), rows, .int p] m = .ok (.tup (ils (restR p v R))) m := by
  obtain ⟨p1, p2⟩ := okp_b hp
  refine fn_pure ?_
  have it : iSeqD (eVar 1) [some (.tup (ils v)), some rows, some (.int p), none] m = .ok src m := by simp [hs]
  obtain ⟨e', m', hf, y3, w, rfl, rfl, vw, ew⟩ := forL_srcC (src := src) (g := gNm 3) (b := lb_rest_of_1) (fun j e s => ∃ y3 w, e = [some (.tup (ils w)), some rows, some (.int p), y3] ∧ s = m ∧ Vec p n w ∧ restR p w (R.drop j) = restR p v R) (fun j e s hh => by
      obtain ⟨_, _, _, rfl, _⟩ := hh
      exact ok) (tps R) [some (.tup (ils v)), some rows, some (.int p), none] m ⟨none, v, rfl, rfl, hv, rfl⟩ (by
    rintro j d e s hj ⟨y3, w, rfl, rfl, vw, ew⟩
    rw [tps_get, Option.map_eq_some_iff] at hj
    obtain ⟨o, ho, rfl⟩ := hj
    have mo := List.mem_of_getElem? ho
    have vo := h.vec o mo
    have lo := (h.ld o mo).1
    have b := at_in vw (by omega) (leadR o)
    have l1 := lead_ok (r := o) (by rw [vo.len]; exact hn) s
    have i1 := ix_at (r := w) (i := leadR o) (by rw [vw.len]; exact lo) s
    have a1 := added_ok (f := -(LA.at_ w (leadR o))) vw vo (by omega) p2 hn ⟨by omega, by omega⟩ s
    have ed : R.drop j = o :: R.drop (j + 1) := by
      have := (List.getElem?_eq_some_iff.mp ho)
      rw [List.drop_eq_getElem_cons this.1, this.2]
    refine ⟨_, _, _, _, rfl, .inl (show lb_rest_of_1 [some (.tup (ils w)), some rows, some (.int p), some (.tup (ils o))] s = .ok (.nx [some (.tup (ils (addR p w o (-(LA.at_ w (leadR o)))))), some rows, some (.int p), some (.tup (ils o))]) s by simp [lb_rest_of_1, l1, i1, a1]), _, _, rfl, rfl, addR_vec (by omega) vw vo, ?_⟩
    rw [ed] at ew
    exact ew)
  rw [← hi] at hf
  have q : l_rest_of_1 [some (.tup (ils v)), some rows, some (.int p), none] m' = _ := frS_of it hf
  rw [tps_length, List.drop_length] at ew
  have ew' : w = restR p v R := ew
  subst ew'
  refine sq_of (show l_rest_of_1 (startD 4 [.tup (ils v), rows, .int p]) m' = _ from q) ?_
  simp
/-- reduced -/
theorem und_tpsl (k : Nat) (l : List (List Int)) : (D.lst (tps l)).und k = true := by simp [D.und, und_tps]
theorem red_step {R : List (List Int)} {v : List Int} {x0 : Option D} {m : Store} {k : Nat} {y4 : Option D} (hp : OkP p) (h : Red p n R) (hv : Vec p n v) (hn : n ≤ 90) (hR : R.length ≤ 90) (hk : m[k]? = some (some (.lst (tps R)))) :
    ∃ k' j R' y3' y4', lb_reduced_1 [x0, some (.int p), some (.loc k), some (.tup (ils v)), y4, none] m = .ok (.nx [x0, some (.int p), some (.loc k'), y3', y4', none]) (m ++ j) ∧ (m ++ j)[k']? = some (some (.lst (tps R'))) ∧ Red p n R' ∧ R'.length ≤ R.length + 1 ∧ (∀ x, Nls p R' x ↔ (Nls p R x ∧ Nl p v x)) ∧ (k' = k ∨ m.length ≤ k') := by
  obtain ⟨p1, p2⟩ := okp_b hp
  have p0 : 0 < p := by omega
  have rs := rest_ok (rows := .loc k) hp h hv hn (src_loc hk) rfl (okB_loc hk)
  have vt := rest_vec p0 hv h.vec
  have ld := lead_ok (r := restR p v R) (by rw [vt.len]; exact hn) m
  have hz : ∀ r ∈ R, LA.at_ (restR p v R) (leadR r) = 0 := fun r hr => rest_leads p0 hv h r hr
  generalize ht : restR p v R = t at rs vt ld hz
  have s12 : ∀ r, sSeq (sSet 4 (eCallB (callN 1 d_lead) (aCons (eVar 3) aNil))) r [x0, some (.int p), some (.loc k), some (.tup (ils t)), y4, none] m = r [x0, some (.int p), some (.loc k), some (.tup (ils t)), some (.int (leadR t)), none] m := fun r => sq_of (by simp [ld]) rfl
  by_cases hl : leadR t < n
  · have c : leadR t < t.length := by rw [vt.len]; exact hl
    have a0 := lead_at (r := t) (by rw [vt.len]; exact hl)
    have ab := at_in vt p0 (leadR t)
    obtain ⟨f, ei, hf, f0, f1⟩ := inverse_ok hp (a := LA.at_ t (leadR t)) ⟨by omega, ab.2⟩ m
    have ix := ix_at (r := t) (i := leadR t) (by rw [vt.len]; exact hl) m
    have sc := scaled_ok (f := f) vt p0 hn ⟨by omega, by omega⟩ m
    obtain ⟨vs, ls, s1, sz, lo'⟩ := step_lead p1 h vt hz hl hf rfl
    obtain ⟨rd, nl⟩ := step_red p1 h vt hz hl hf rfl
    generalize hs : sclR p t f = s at sc vs ls s1 sz lo' rd nl
    have cc : c_reduced_1 [x0, some (.int p), some (.loc k), some (.tup (ils s)), some (.int (leadR t)), none] m = .ok (.loc m.length) (m ++ [some (.lst (tps (R.map fun o => addR p o s (-(LA.at_ o (leadR t))))))]) := by
      have e : tps (R.map fun o => addR p o s (-(LA.at_ o (leadR t)))) = R.map fun o => D.tup (ils (addR p o s (-(LA.at_ o (leadR t))))) := by simp [tps]
      rw [e]
      refine eCompM_src (src := ⟨tps R, [(k, tps R)]⟩) (h := fun o => D.tup (ils o)) ?_ rfl (okB_loc hk) (by omega) fun o ho => ⟨_, rfl, ?_⟩
      · simp [src_loc hk]
      · have vo := h.vec o ho
        have io := ix_at (r := o) (i := leadR t) (by rw [vo.len]; exact hl) m
        have b := at_in vo p0 (leadR t)
        have ad := added_ok (f := -(LA.at_ o (leadR t))) vo vs p0 p2 hn ⟨by omega, by omega⟩ m
        simp [wipeD, io, ad]
    have g : (m ++ [some (Cell.lst (tps (R.map fun o => addR p o s (-(LA.at_ o (leadR t))))))])[m.length]? = some (some (.lst (tps (R.map fun o => addR p o s (-(LA.at_ o (leadR t))))))) := by simp
    have gr := appLoc (x := .tup (ils s)) g (by simp; omega)
    have es : (m ++ [some (Cell.lst (tps (R.map fun o => addR p o s (-(LA.at_ o (leadR t))))))]).set m.length (some (.lst (tps (R.map fun o => addR p o s (-(LA.at_ o (leadR t)))) ++ [.tup (ils s)]))) = m ++ [some (.lst (tps (stepR p R s (leadR t))))] := by simp [tps, stepR]
    rw [es] at gr
    have ap := eApp_of (o := eVar 2) (v := eVar 3) (e := [x0, some (.int p), some (.loc m.length), some (.tup (ils s)), some (.int (leadR t)), none]) (m := m ++ [some (.lst (tps (R.map fun o => addR p o s (-(LA.at_ o (leadR t))))))]) (m1 := m ++ [some (.lst (tps (R.map fun o => addR p o s (-(LA.at_ o (leadR t))))))]) (x := .loc m.length) (by simp) (isLocOk g) (by simp) gr
    refine ⟨m.length, [some (.lst (tps (stepR p R s (leadR t))))], stepR p R s (leadR t), some (.tup (ils s)), some (.int (leadR t)), ?_, by simp, rd, by simp [stepR], fun x => ?_, .inr (Nat.le_refl _)⟩
    · refine sq_of (e1 := [x0, some (.int p), some (.loc k), some (.tup (ils t)), y4, none]) (m1 := m) (by simp [rs]) ?_
      rw [s12]
      rw [sIf_ap]
      have ct : tB' (eOp ltD (eVar 4) (eCallB lenD (aCons (eVar 3) aNil))) [x0, some (.int p), some (.loc k), some (.tup (ils t)), some (.int (leadR t)), none] m = .ok true m := by simp [c]
      rw [ct, thn_ok, if_pos rfl]
      refine sq_of (e1 := [x0, some (.int p), some (.loc k), some (.tup (ils s)), some (.int (leadR t)), none]) (m1 := m) (by simp [ix, ei, sc]) ?_
      refine sq_of (e1 := [x0, some (.int p), some (.loc m.length), some (.tup (ils s)), some (.int (leadR t)), none]) (by rw [sSet_ap, cc]; rfl) ?_
      rw [sExpr_ap, ap]
      rfl
    · rw [nl x]
      constructor
      · rintro ⟨a, b⟩
        refine ⟨a, ?_⟩
        rw [← ht] at b
        exact (rest_nl p0 hv h.vec a).mp b
      · rintro ⟨a, b⟩
        refine ⟨a, ?_⟩
        rw [← ht]
        exact (rest_nl p0 hv h.vec a).mpr b
  · have c : ¬ leadR t < t.length := by rw [vt.len]; exact hl
    refine ⟨k, [], R, some (.tup (ils t)), some (.int (leadR t)), ?_, by rw [List.append_nil]; exact hk, h, by omega, fun x => ⟨fun a => ⟨a, none_nl p0 h hv (by rw [ht]; exact hl) a⟩, fun a => a.1⟩, .inl rfl⟩
    refine sq_of (e1 := [x0, some (.int p), some (.loc k), some (.tup (ils t)), y4, none]) (m1 := m) (by simp [rs]) ?_
    rw [s12]
    simp [c]
def Srt (R : List (List Int)) : Prop := R.Pairwise fun a b => leadR a < leadR b
theorem srtBy_lead (R : List (List Int)) : srtBy R (R.map fun r => PyData.int (leadR r)) = R.mergeSort fun a b => decide ((leadR a : Int) ≤ leadR b) := by
  have hz : ∀ q ∈ R.zip (R.map fun r => PyData.int (leadR r)), q.2 = .int (leadR q.1) := fun q hq => by
    obtain ⟨i, hi⟩ := List.mem_iff_getElem?.mp hq
    rw [List.getElem?_zip_eq_some, List.getElem?_map] at hi
    rw [hi.1] at hi
    simp at hi
    exact hi.symm
  have e : ((R.zip (R.map fun r => PyData.int (leadR r))).mergeSort (PySem.W.dataLe false (·.2))).map Prod.fst = ((R.zip (R.map fun r => PyData.int (leadR r))).map Prod.fst).mergeSort (fun a b => decide ((leadR a : Int) ≤ leadR b)) :=
    PySem.W.sort_maps (s := fun a b => decide ((leadR a : Int) ≤ leadR b)) Prod.fst fun x hx y hy => by
      have k := congrFun (congrFun (PySem.W.dataLe_int (β := List Int × PyData) fun b => (leadR b.1 : Int)) x) y
      have k2 := dataLe_snd x y (x.1, PyData.int (leadR x.1)) (y.1, PyData.int (leadR y.1)) (hz x hx) (hz y hy)
      unfold PySem.W.dataLe PySem.W.sortLe at k k2 ⊢
      simp only [hz x hx, hz y hy] at k2 ⊢
      exact k
  unfold srtBy
  rw [e, List.map_fst_zip (by simp)]
theorem srtBy_srt {R : List (List Int)} (rd : Red p n R) : Srt (srtBy R (R.map fun r => PyData.int (leadR r))) := by
  have pm := srtBy_perm (xs := R) (kz := R.map fun r => PyData.int (leadR r)) (by simp)
  have rd' := rd.perm pm
  have nd := leads_nodup rd'
  rw [srtBy_lead] at nd ⊢
  have so := List.pairwise_mergeSort (le := fun a b : List Int => decide ((leadR a : Int) ≤ leadR b)) (fun a b c h1 h2 => by simp at *; omega) (fun a b => by simp; omega) R
  unfold List.Nodup at nd
  rw [List.pairwise_map] at nd
  refine (so.and nd).imp fun {a b} h => ?_
  have h1 := h.1
  have h2 := h.2
  simp at h1
  omega
theorem reduced_ok {rows : List (List Int)} (hp : OkP p) (hv : ∀ r ∈ rows, Vec p n r) (hn : n ≤ 90) (hl : rows.length ≤ 80) (m : Store) : ∃ R, d_reduced [.lst (tps rows), .int p] m = .ok (.lst (tps R)) m ∧ Red p n R ∧ Srt R ∧ ∀ x, Nls p R x ↔ Nls p rows x := by
  have it : iSeqD (eVar 0) [some (.lst (tps rows)), some (.int p), some (.loc m.length), none, none, none] (m ++ [some (.lst [])]) = .ok ⟨tps rows, []⟩ (m ++ [some (.lst [])]) := by simp
  obtain ⟨e', m', hf, k, j, R, y3, y4, rfl, rfl, hk, rd, rl, nl⟩ := forL_chg (src := tps rows) (g := gNm 3) (b := lb_reduced_1) (fun i e s => ∃ k j R y3 y4, e = [some (.lst (tps rows)), some (.int p), some (.loc k), y3, y4, none] ∧ s = m ++ j ∧ (m ++ j)[k]? = some (some (.lst (tps R))) ∧ Red p n R ∧ R.length ≤ i ∧ ∀ x, Nls p R x ↔ Nls p (rows.take i) x) (tps rows)
    [some (.lst (tps rows)), some (.int p), some (.loc m.length), none, none, none] (m ++ [some (.lst [])]) ⟨m.length, [some (.lst [])], [], none, none, rfl, rfl, by simp [tps], Red.nil p n, by simp, fun x => by simp [Nls]⟩ (by
    rintro i d e s hi ⟨k, j, R, y3, y4, rfl, rfl, hk, rd, rl, nl⟩
    rw [tps_get, Option.map_eq_some_iff] at hi
    obtain ⟨v, hv', rfl⟩ := hi
    have hil := (List.getElem?_eq_some_iff.mp hv').1
    obtain ⟨k', j', R', z3, z4, b, hk', rd', rl', nl', _⟩ := red_step (x0 := some (.lst (tps rows))) (y4 := y4) hp rd (hv v (List.mem_of_getElem? hv')) hn (by omega) hk
    refine ⟨_, _, _, _, rfl, .inl b, k', j ++ j', R', z3, z4, rfl, by rw [List.append_assoc], by rw [← List.append_assoc]; exact hk', rd', by omega, fun x => ?_⟩
    rw [nl' x, nl x, List.take_succ, hv']
    unfold Nls
    constructor
    · rintro ⟨a, b⟩ r hr
      rcases List.mem_append.mp hr with hr | hr
      · exact a r hr
      · rw [List.mem_singleton.mp hr]
        exact b
    · intro a
      exact ⟨fun r hr => a r (List.mem_append_left _ hr), a v (by simp)⟩)
  rw [tps_length] at rl nl
  rw [List.take_length] at nl
  have q2 : l_reduced_1 [some (.lst (tps rows)), some (.int p), some (.loc m.length), none, none, none] (m ++ [some (.lst [])]) = _ := fr_of (b := lb_reduced_1) it hf
  have ks : keysM (fun d => callN 1 d_lead [d]) (tps R) (m ++ j) = some (R.map fun r => PyData.int (leadR r)) := keysM_of R fun r hr => ⟨.int (leadR r), by
    have := lead_ok (r := r) (by rw [(rd.vec r hr).len]; exact hn) (m ++ j)
    simpa using this, rfl⟩
  have kz : kzOk (R.map fun r => PyData.int (leadR r)) = true := by
    have := kz_ints (R.map fun r => (leadR r : Int))
    simpa [Function.comp_def] using this
  have so := sortKD_of (x := .loc k) (fun t z => nomatch z) (seq_loc hk) ks kz
  have es : srtBy (tps R) (R.map fun r => PyData.int (leadR r)) = tps (srtBy R (R.map fun r => PyData.int (leadR r))) := srtBy_map _ R _
  rw [es] at so
  have pm := srtBy_perm (xs := R) (kz := R.map fun r => PyData.int (leadR r)) (by simp)
  refine ⟨srtBy R (R.map fun r => PyData.int (leadR r)), fn_junk (junk := j) ?_ (und_tpsl _ _), rd.perm pm, srtBy_srt rd, fun x => ?_⟩
  · refine sq_of (e1 := [some (.lst (tps rows)), some (.int p), some (.loc m.length), none, none, none]) (m1 := m ++ [some (.lst [])]) (by simp [startD, newM]) (sq_of q2 ?_)
    simp [so]
  · rw [← nl x]
    unfold Nls
    exact ⟨fun a r hr => a r (pm.mem_iff.mpr hr), fun a r hr => a r (pm.mem_iff.mp hr)⟩
end rows
section space
open LA
variable {p : Int} {n : Nat}
def Sm (p : Int) (r : List Int) : D := .obj 0 [.int p, .tup (ils r)]
def Sp (p : Int) (n : Nat) (R : List (List Int)) : D := .obj 1 [.lst (R.map (Sm p)), .int p, .int n, .lst (tps R)]
theorem und_Sm (k : Nat) (p : Int) (r : List Int) : (Sm p r).und k = true := by simp [Sm, D.und, D.undL, und_ils]
theorem und_Sms (k : Nat) (p : Int) : ∀ R : List (List Int), D.undL k (R.map (Sm p)) = true
  | [] => rfl
  | r :: R => by simp [D.undL, und_Sm, und_Sms k p R]
theorem sum_ok {r : List Int} (fm : Fm p n) (hv : Vec p n r) (m : Store) : makeD 0 3 d_Sum_init [.int p, .tup (ils r)] m = .ok (Sm p r) m := by
  have el := hv.len
  subst el
  have hu : D.undL m.length [.int p, .tup (ils r)] = true := by simp [D.undL, D.und, und_ils]
  refine make_ok rfl ?_ hu
  refine fn_trimN (m0 := m ++ [some (.ins 0 [some (.int p), some (.tup (ils r))])]) (junk := []) (e := [some (.loc m.length), some (.int p), some (.tup (ils r))]) ?_ (by simp) (trim_ins hu)
  rw [List.append_nil, show startD 3 [.loc m.length, .int p, .tup (ils r)] = [some (.loc m.length), some (.int p), some (.tup (ils r))] from rfl]
  have p1 := is_prime_ok fm.okp (m ++ [some (.ins 0 [])])
  have p2 : d_is_data [.int p, .int r.length, .tup (ils r)] (m ++ [some (.ins 0 [])]) = .ok (.bl true) (m ++ [some (.ins 0 [])]) := is_data_ok fm hv.inn true _
  refine sq_of (e1 := [some (.loc m.length), some (.int p), some (.tup (ils r))]) (m1 := m ++ [some (.ins 0 [])]) (by simp [p1]) ?_
  refine sq_of (e1 := [some (.loc m.length), some (.int p), some (.tup (ils r))]) (m1 := m ++ [some (.ins 0 [])]) (by simp [p2, isK]) ?_
  have s1 := attr_of (c := 0) (i := 0) (n := m.length) (tab := [(0, 0)]) (o := eVar 0) (v := eVar 1) (e := [some (.loc m.length), some (.int p), some (.tup (ils r))]) (m := m ++ [some (.ins 0 [])]) (x := .int p) rfl rfl (ss := []) (by simp) rfl
  have e1 : (m ++ [some (Cell.ins 0 [])]).set m.length (some (.ins 0 (putD 0 (.int p) []))) = m ++ [some (.ins 0 [some (.int p)])] := by simp [putD]
  rw [e1] at s1
  refine sq_of s1 ?_
  have hz : r.length ≤ 100000 := by have := fm.s6; omega
  have s2 := attr_of (c := 0) (i := 1) (n := m.length) (tab := [(0, 1)]) (o := eVar 0) (v := eCallB tupleD (aCons (eVar 2) aNil)) (e := [some (.loc m.length), some (.int p), some (.tup (ils r))]) (m := m ++ [some (.ins 0 [some (.int p)])]) (m1 := m ++ [some (.ins 0 [some (.int p)])]) (x := .tup (ils r)) (by simp [hz]) rfl (ss := [some (.int p)]) (by simp) rfl
  refine s2.trans ?_
  simp [putD]
theorem at_prop {c : Nat} {den : List D → M D} {tab : List (Nat × At)} {vs : List D} {d : D} {m : Store} (h : den [.obj c vs] m = .ok d m) (ht : tab.lookup c = some (.prop den)) : attrD tab (.obj c vs) m = .ok d m := by
  unfold attrD
  simp only [clsD, ht]
  unfold noX
  rw [h]
theorem is_sum_ok {r : List Int} (hv : Vec p n r) (m : Store) : d_is_sum [Sm p r, .int p, .int n] m = .ok (.bl true) m := by
  have el := hv.len
  subst el
  refine fn_pure ?_
  have i1 : isiD [0, 1] (.cls 0) (Sm p r) m = .ok (.bl true) m := rfl
  have z1 : d_Sum_prime [Sm p r] m = .ok (.int p) m := fn_pure rfl
  have z2 : d_Sum_size [Sm p r] m = .ok (.int r.length) m := fn_pure (by
    have : attrD [(0, .slot 1)] (Sm p r) m = .ok (.tup (ils r)) m := rfl
    simp [b_Sum_size, startD, this])
  have a1 : attrD [(0, .prop d_Sum_prime), (1, .prop d_Space_prime)] (Sm p r) m = .ok (.int p) m := at_prop z1 rfl
  have a2 : attrD [(0, .prop d_Sum_size), (1, .prop d_Space_size)] (Sm p r) m = .ok (.int r.length) m := at_prop z2 rfl
  simp [b_is_sum, startD, i1, a1, a2]
theorem space_ok {rows : List (List Int)} (fm : Fm p n) (hv : ∀ r ∈ rows, Vec p n r) (hl : rows.length ≤ 80) (m : Store) : ∃ R, makeD 1 4 d_Space_init [.int p, .int n, .lst (rows.map (Sm p))] m = .ok (Sp p n R) m ∧ Red p n R ∧ Srt R ∧ ∀ x, Nls p R x ↔ Nls p rows x := by
  have n6 := fm.s6
  obtain ⟨R, er, rd, so, nl⟩ := reduced_ok fm.okp hv (by omega) hl (m ++ [some (.ins 1 [none, some (.int p), some (.int n)])])
  refine ⟨R, ?_, rd, so, nl⟩
  have hu : D.undL m.length [.lst (R.map (Sm p)), .int p, .int n, .lst (tps R)] = true := by simp [D.undL, D.und, und_Sms, und_tps]
  refine make_ok rfl ?_ hu
  have it : iSeqD (eVar 3) [some (.loc m.length), some (.int p), some (.int n), some (.lst (rows.map (Sm p))), none, none] (m ++ [some (.ins 1 [])]) = .ok ⟨rows.map (Sm p), []⟩ (m ++ [some (.ins 1 [])]) := by simp
  obtain ⟨e', m', hf, y4, rfl, rfl⟩ := forL_chg (src := rows.map (Sm p)) (g := gNm 4) (b := lb_Space_init_1) (fun _ e s => ∃ y4, e = [some (.loc m.length), some (.int p), some (.int n), some (.lst (rows.map (Sm p))), y4, none] ∧ s = m ++ [some (.ins 1 [])]) (rows.map (Sm p))
    [some (.loc m.length), some (.int p), some (.int n), some (.lst (rows.map (Sm p))), none, none] (m ++ [some (.ins 1 [])]) ⟨none, rfl, rfl⟩ (by
    rintro i d e s hi ⟨y4, rfl, rfl⟩
    rw [List.getElem?_map, Option.map_eq_some_iff] at hi
    obtain ⟨r, hr, rfl⟩ := hi
    have is := is_sum_ok (hv r (List.mem_of_getElem? hr)) (m ++ [some (.ins 1 [])])
    refine ⟨_, _, _, _, rfl, .inl (show lb_Space_init_1 [some (.loc m.length), some (.int p), some (.int n), some (.lst (rows.map (Sm p))), some (Sm p r), none] _ = .ok (.nx [some (.loc m.length), some (.int p), some (.int n), some (.lst (rows.map (Sm p))), some (Sm p r), none]) _ by simp [lb_Space_init_1, is]), _, rfl, rfl⟩)
  have q2 : l_Space_init_1 [some (.loc m.length), some (.int p), some (.int n), some (.lst (rows.map (Sm p))), none, none] (m ++ [some (.ins 1 [])]) = _ := fr_of (b := lb_Space_init_1) it hf
  refine fn_trimN (m0 := m ++ [some (.ins 1 [some (.lst (R.map (Sm p))), some (.int p), some (.int n), some (.lst (tps R))])]) (junk := []) (e := [some (.loc m.length), some (.int p), some (.int n), some (.lst (rows.map (Sm p))), y4, none]) ?_ (by simp) (trim_ins hu)
  rw [List.append_nil, show startD 6 [.loc m.length, .int p, .int n, .lst (rows.map (Sm p))] = [some (.loc m.length), some (.int p), some (.int n), some (.lst (rows.map (Sm p))), none, none] from rfl]
  have p1 := is_prime_ok fm.okp (m ++ [some (.ins 1 [])])
  have p2 := is_size_ok fm (m ++ [some (.ins 1 [])])
  refine sq_of (e1 := [some (.loc m.length), some (.int p), some (.int n), some (.lst (rows.map (Sm p))), none, none]) (m1 := m ++ [some (.ins 1 [])]) (by simp [p1]) ?_
  refine sq_of (e1 := [some (.loc m.length), some (.int p), some (.int n), some (.lst (rows.map (Sm p))), none, none]) (m1 := m ++ [some (.ins 1 [])]) (by simp [p2]) ?_
  refine sq_of (e1 := [some (.loc m.length), some (.int p), some (.int n), some (.lst (rows.map (Sm p))), none, none]) (m1 := m ++ [some (.ins 1 [])]) (by simp [isK]) ?_
  refine sq_of q2 ?_
  refine sq_of (e1 := [some (.loc m.length), some (.int p), some (.int n), some (.lst (rows.map (Sm p))), y4, none]) (m1 := m ++ [some (.ins 1 [none, some (.int p), some (.int n)])]) (by
    simp [gAt, setAtT, setAt, clsD, putD]) ?_
  have c1 : c_Space_init_1 [some (.loc m.length), some (.int p), some (.int n), some (.lst (rows.map (Sm p))), y4, none] (m ++ [some (.ins 1 [none, some (.int p), some (.int n)])]) = .ok (.lst (tps rows)) (m ++ [some (.ins 1 [none, some (.int p), some (.int n)])]) := by
    refine eComp_on (h := Sm p) (f := fun r => D.tup (ils r)) (by simp) (by omega) fun r hr => ⟨_, rfl, ?_⟩
    have z : d_Sum_factors [Sm p r] (m ++ [some (.ins 1 [none, some (.int p), some (.int n)])]) = .ok (.tup (ils r)) (m ++ [some (.ins 1 [none, some (.int p), some (.int n)])]) := fn_pure rfl
    have a := at_prop (tab := [(0, .prop d_Sum_factors)]) z rfl
    have a' : attrD [(0, .prop d_Sum_factors)] (Sm p r) (m ++ [some (.ins 1 [none, some (.int p), some (.int n)])]) = .ok (.tup (ils r)) (m ++ [some (.ins 1 [none, some (.int p), some (.int n)])]) := a
    simp [wipeD, a']
  have v1 : eCallB (callN 2 d_reduced) (aCons c_Space_init_1 (aCons (eVar 1) aNil)) [some (.loc m.length), some (.int p), some (.int n), some (.lst (rows.map (Sm p))), y4, none] (m ++ [some (.ins 1 [none, some (.int p), some (.int n)])]) = .ok (.lst (tps R)) (m ++ [some (.ins 1 [none, some (.int p), some (.int n)])]) := by
    rw [eCallB_ap, aCons_ap, c1]
    simp [er]
  have s1 := attr_of (c := 1) (i := 3) (n := m.length) (tab := [(1, 3)]) (o := eVar 0) v1 rfl (ss := [none, some (.int p), some (.int n)]) (by simp) rfl
  have e1 : (m ++ [some (Cell.ins 1 [none, some (.int p), some (.int n)])]).set m.length (some (.ins 1 (putD 3 (.lst (tps R)) [none, some (.int p), some (.int n)]))) = m ++ [some (.ins 1 [none, some (.int p), some (.int n), some (.lst (tps R))])] := by simp [putD]
  rw [e1] at s1
  refine sq_of s1 ?_
  have rl := red_len rd
  have c2 : c_Space_init_2 [some (.loc m.length), some (.int p), some (.int n), some (.lst (rows.map (Sm p))), y4, none] (m ++ [some (.ins 1 [none, some (.int p), some (.int n), some (.lst (tps R))])]) = .ok (.lst (R.map (Sm p))) (m ++ [some (.ins 1 [none, some (.int p), some (.int n), some (.lst (tps R))])]) := by
    have a3 : attrD [(1, .slot 3)] (.loc m.length) (m ++ [some (.ins 1 [none, some (.int p), some (.int n), some (.lst (tps R))])]) = .ok (.lst (tps R)) (m ++ [some (.ins 1 [none, some (.int p), some (.int n), some (.lst (tps R))])]) := by
      unfold attrD clsD slotD
      simp
    refine eComp_on (h := fun r => D.tup (ils r)) (f := Sm p) (by simp only [iSeqD, eUn, bind_ap, eVar_ap, a3, thn_ok]; first | rfl | (simp [a3]; rfl)) (by omega) fun r hr => ⟨_, rfl, ?_⟩
    have z := sum_ok fm (rd.vec r hr) (m ++ [some (.ins 1 [none, some (.int p), some (.int n), some (.lst (tps R))])])
    simp [wipeD, z]
  have s2 := attr_of (c := 1) (i := 0) (n := m.length) (tab := [(1, 0)]) (o := eVar 0) c2 rfl (ss := [none, some (.int p), some (.int n), some (.lst (tps R))]) (by simp) rfl
  refine s2.trans ?_
  simp [putD]
end space
theorem tps_one (d : List Int) : tps [d] = [.tup (ils d)] := rfl
def allDt (p : Nat) : Nat → List (List Int)
  | 0 => [[]]
  | s + 1 => (allDt p s).flatMap fun d => (List.range p).map fun (v : Nat) => d ++ [(v : Int)]
theorem allDt_len (p : Nat) : ∀ s, (allDt p s).length = p ^ s
  | 0 => rfl
  | s + 1 => by
    have h : ∀ l : List (List Int), (l.flatMap fun d => (List.range p).map fun (v : Nat) => d ++ [(v : Int)]).length = l.length * p := fun l => by
      induction l with
      | nil => simp
      | cons a l ih => simp [ih, Nat.add_mul, Nat.add_comm]
    rw [allDt, h, allDt_len p s, Nat.pow_succ]
theorem allDt_mem (p : Nat) : ∀ s d, d ∈ allDt p s → d.length = s ∧ ∀ x ∈ d, 0 ≤ x ∧ x < (p : Int)
  | 0, d, h => by
    simp [allDt] at h
    subst h
    simp
  | s + 1, d, h => by
    simp only [allDt, List.mem_flatMap, List.mem_map, List.mem_range] at h
    obtain ⟨e, he, v, hv, rfl⟩ := h
    obtain ⟨h1, h2⟩ := allDt_mem p s e he
    refine ⟨by simp [h1], fun x hx => ?_⟩
    simp at hx
    rcases hx with hx | hx
    · exact h2 x hx
    · omega
theorem pow_mono {p i s : Nat} (hp : 1 ≤ p) (h : i ≤ s) : p ^ i ≤ p ^ s := Nat.pow_le_pow_right hp h
theorem all_data_step {p : Nat} (hp7 : p ≤ 7) (w : List Int) (hw : w.length ≤ 6) (acc : List (List Int)) (ha : acc.length + p ≤ 100000) (x0 x1 x2 : Option D) (y6 : Option D) (m : Store) :
    lb_all_data_1 [some (D.int p), x0, x1, x2, some (D.lst (tps acc)), some (.tup (ils w)), y6] m
      = .ok (.nx [some (D.int p), x0, x1, x2, some (D.lst (tps (acc ++ (List.range p).map fun (v : Nat) => w ++ [(v : Int)]))), some (.tup (ils w)), y6]) m := by
  have hc : c_all_data_1 [some (D.int p), x0, x1, x2, some (D.lst (tps acc)), some (.tup (ils w)), y6] m = .ok (.lst ((List.range p).map fun (v : Nat) => D.tup (ils (w ++ [(v : Int)])))) m := by
    refine eComp_on (h := fun (i : Nat) => D.int (i : Int)) ?_ (by simp; omega) fun v hv => ⟨_, rfl, ?_⟩
    · rw [iRg1_nat (s := p) (m1 := m) (by omega) (by simp), rngI_eq]
    · simp [wipeD]
      omega
  have hl : (tps acc ++ (List.range p).map fun (v : Nat) => D.tup (ils (w ++ [(v : Int)]))).length ≤ 100000 := by simp; omega
  have he : (tps acc ++ (List.range p).map fun (v : Nat) => D.tup (ils (w ++ [(v : Int)]))) = tps (acc ++ (List.range p).map fun (v : Nat) => w ++ [(v : Int)]) := by simp [tps]
  rw [he] at hl
  generalize hr : ((List.range p).map fun (v : Nat) => D.tup (ils (w ++ [(v : Int)]))) = r at hc he
  have hl2 : (tps (acc ++ (List.range p).map fun (v : Nat) => w ++ [(v : Int)])).length ≤ 100000 := hl
  simp only [lb_all_data_1, sSet_ap, eOp_ap, eVar_ap, getv_some m (e := [some (D.int p), x0, x1, x2, some (D.lst (tps acc)), some (.tup (ils w)), y6]) (i := 4) (d := .lst (tps acc)) rfl, thn_ok, hc, add_lst, he, mkL_ap, hl2, if_true]
  rfl
theorem all_data_ok {p s : Nat} (hp : 1 ≤ p) (hps : p ^ s ≤ 4096) (hp7 : p ≤ 7) (hs : s ≤ 6) (m : Store) : d_all_data [.int p, .int s] m = .ok (.lst (tps (allDt p s))) m := by
  refine fn_pure ?_
  have hr : iRg1 (aCons (eVar 1) aNil) [some (D.int p), some (D.int s), some (D.lst [D.tup []]), none, none, none, none] m = .ok ⟨rngI 0 s, []⟩ m := iRg1_nat (by omega) (by simp)
  obtain ⟨e', m', h1, ⟨x3, x4, x5, x6, rfl⟩, rfl⟩ := forL_inv (src := rngI 0 s) (g := gNm 3) (b := lb_all_data_2)
    (fun i e m' => (∃ x3 x4 x5 x6, e = [some (D.int p), some (D.int s), some (D.lst (tps (allDt p i))), x3, x4, x5, x6]) ∧ m' = m) (rngI 0 s) 0 [some (D.int p), some (D.int s), some (D.lst [D.tup []]), none, none, none, none] m ⟨⟨none, none, none, none, by simp [allDt, tps_one]⟩, rfl⟩ (by
    rintro j d e m' hj ⟨⟨x3, x4, x5, x6, rfl⟩, rfl⟩
    have hjs : j < s := by
      have := (List.getElem?_eq_some_iff.mp hj).1
      simpa [rngI] using this
    simp only [Nat.zero_add]
    have hlen : (allDt p (j + 1)).length ≤ 4096 := by rw [allDt_len]; exact Nat.le_trans (pow_mono hp hjs) hps
    obtain ⟨e', m', h1, ⟨y5, y6, rfl⟩, rfl⟩ := forL_inv (src := tps (allDt p j)) (g := gNm 5) (b := lb_all_data_1)
      (fun i e m1 => (∃ y5 y6, e = [some (D.int p), some (D.int s), some (D.lst (tps (allDt p j))), some d, some (D.lst (tps (((allDt p j).take i).flatMap fun d => (List.range p).map fun (v : Nat) => d ++ [(v : Int)]))), y5, y6]) ∧ m1 = m')
      (tps (allDt p j)) 0 [some (D.int p), some (D.int s), some (D.lst (tps (allDt p j))), some d, some (D.lst []), x5, x6] m' ⟨⟨x5, x6, by simp [tps]⟩, rfl⟩ (by
      rintro i d2 e m1 hi ⟨⟨y5, y6, rfl⟩, rfl⟩
      simp only [Nat.zero_add]
      simp only [tps, List.getElem?_map, Option.map_eq_some_iff] at hi
      obtain ⟨w, hw, rfl⟩ := hi
      have hwm : w ∈ allDt p j := List.mem_of_getElem? hw
      have hwl := (allDt_mem p j w hwm).1
      have ht : (allDt p j).take (i + 1) = (allDt p j).take i ++ [w] := by
        rw [List.take_succ, hw]; rfl
      have hf : (((allDt p j).take (i + 1)).flatMap fun d => (List.range p).map fun (v : Nat) => d ++ [(v : Int)]) = (((allDt p j).take i).flatMap fun d => (List.range p).map fun (v : Nat) => d ++ [(v : Int)]) ++ (List.range p).map fun (v : Nat) => w ++ [(v : Int)] := by
        rw [ht, List.flatMap_append]
        simp
      have hl2 : ((((allDt p j).take (i + 1)).flatMap fun d => (List.range p).map fun (v : Nat) => d ++ [(v : Int)])).length ≤ 4096 := by
        refine Nat.le_trans ?_ hlen
        rw [allDt]
        conv => rhs; rw [← List.take_append_drop (i + 1) (allDt p j)]
        rw [List.flatMap_append, List.length_append]
        omega
      rw [hf] at hl2 ⊢
      generalize (((allDt p j).take i).flatMap fun d => (List.range p).map fun (v : Nat) => d ++ [(v : Int)]) = acc at hl2 ⊢
      rw [List.length_append, List.length_map, List.length_range] at hl2
      exact ⟨_, _, _, _, rfl, .inl (all_data_step hp7 w (by omega) acc (by omega) _ _ _ y6 m1), ⟨some (.tup (ils w)), y6, rfl⟩, rfl⟩)
    refine ⟨_, _, _, _, rfl, .inl ?_, ⟨some d, some (D.lst (tps (allDt p (j + 1)))), y5, y6, rfl⟩, rfl⟩
    have hz : 0 + (tps (allDt p j)).length = (allDt p j).length := by simp
    rw [hz] at h1
    have e3 : (((allDt p j).take (allDt p j).length).flatMap fun d => (List.range p).map fun (v : Nat) => d ++ [(v : Int)]) = allDt p (j + 1) := by rw [List.take_length]; rfl
    rw [e3] at h1
    simp [lb_all_data_2, l_all_data_1, h1])
  have hz : 0 + (rngI 0 s).length = s := by simp [rngI]
  rw [hz] at h1
  simp [b_all_data, l_all_data_2, startD, hr, h1]
section zero
open LA
variable {p : Int} {n : Nat}
theorem allDt_vec {q : Nat} : ∀ {s : Nat} {x : List Int}, x ∈ allDt q s ↔ Vec q s x
  | s, x => ⟨fun h => ⟨(allDt_mem q s x h).1, (allDt_mem q s x h).2⟩, fun h => by
    obtain ⟨hl, hi⟩ := h
    induction s generalizing x with
    | zero =>
      rw [List.length_eq_zero_iff] at hl
      subst hl
      simp [allDt]
    | succ s ih =>
      have hne : x ≠ [] := fun e => by rw [e] at hl; simp at hl
      have e := List.dropLast_concat_getLast hne
      have hd : x.dropLast ∈ allDt q s := ih x.dropLast (by rw [List.length_dropLast, hl]; rfl) fun y hy => hi y (List.dropLast_subset x hy)
      have hx := hi (x.getLast hne) (List.getLast_mem hne)
      rw [allDt, List.mem_flatMap]
      refine ⟨x.dropLast, hd, ?_⟩
      rw [List.mem_map]
      refine ⟨(x.getLast hne).toNat, List.mem_range.mpr (by omega), ?_⟩
      rw [show (((x.getLast hne).toNat : Nat) : Int) = x.getLast hne by omega]
      exact e⟩
end zero
theorem form_ok {m : Store} {n : Nat} (h : SrcAt m n) : ∃ (p : Int) (k : Nat) (m' : Store), d_form [.loc n] m = .ok (.tup [.int p, .int k]) m' ∧ Chg n m m' ∧ Fm p k ∧ p ^ k ≤ 49 := by
  obtain ⟨d, m', e, c, hd⟩ := pick_ok (ds := [.tup [.int 2, .int 1], .tup [.int 2, .int 2], .tup [.int 2, .int 3], .tup [.int 2, .int 4], .tup [.int 3, .int 1], .tup [.int 3, .int 2], .tup [.int 3, .int 3], .tup [.int 5, .int 2], .tup [.int 7, .int 2]]) h (by decide) (by decide)
  have : ∃ (p : Int) (k : Nat), d = .tup [.int p, .int k] ∧ Fm p k ∧ p ^ k ≤ 49 := by
    simp only [List.mem_cons, List.not_mem_nil, or_false] at hd
    rcases hd with rfl | rfl | rfl | rfl | rfl | rfl | rfl | rfl | rfl
    · exact ⟨2, 1, rfl, ⟨by decide, by decide, by decide, by decide⟩, by decide⟩
    · exact ⟨2, 2, rfl, ⟨by decide, by decide, by decide, by decide⟩, by decide⟩
    · exact ⟨2, 3, rfl, ⟨by decide, by decide, by decide, by decide⟩, by decide⟩
    · exact ⟨2, 4, rfl, ⟨by decide, by decide, by decide, by decide⟩, by decide⟩
    · exact ⟨3, 1, rfl, ⟨by decide, by decide, by decide, by decide⟩, by decide⟩
    · exact ⟨3, 2, rfl, ⟨by decide, by decide, by decide, by decide⟩, by decide⟩
    · exact ⟨3, 3, rfl, ⟨by decide, by decide, by decide, by decide⟩, by decide⟩
    · exact ⟨5, 2, rfl, ⟨by decide, by decide, by decide, by decide⟩, by decide⟩
    · exact ⟨7, 2, rfl, ⟨by decide, by decide, by decide, by decide⟩, by decide⟩
  obtain ⟨p, k, rfl, fm⟩ := this
  refine ⟨p, k, m', fn_chg0 ?_ c, c, fm⟩
  simp [b_form, startD, e]
section span
open LA
theorem rev_ind {α : Type} {P : List α → Prop} (h0 : P []) (h1 : ∀ l a, P l → P (l ++ [a])) : ∀ l, P l := by
  have key : ∀ l : List α, P l.reverse := fun l => by
    induction l with
    | nil => exact h0
    | cons a l ih =>
      rw [List.reverse_cons]
      exact h1 _ _ ih
  intro l
  have := key l.reverse
  rwa [List.reverse_reverse] at this
def spanS (q : Nat) (F : List (List Int)) (r : List Int) : List (List Int) := (List.range q).flatMap fun (f : Nat) => F.map fun o => addR q o r f
def spanL (q n : Nat) (R : List (List Int)) : List (List Int) := R.foldl (fun F r => sortT (spanS q F r)) [List.replicate n 0]
theorem spanL_nil (q n : Nat) : spanL q n [] = [List.replicate n 0] := rfl
theorem spanL_app (q n : Nat) (R : List (List Int)) (r : List Int) : spanL q n (R ++ [r]) = sortT (spanS q (spanL q n R) r) := by simp [spanL]
theorem spanS_mem {q : Nat} {F : List (List Int)} {r v : List Int} : v ∈ spanS q F r ↔ ∃ f, f < q ∧ ∃ o ∈ F, v = addR q o r (f : Nat) := by
  simp only [spanS, List.mem_flatMap, List.mem_range, List.mem_map]
  constructor
  · rintro ⟨f, hf, o, ho, e⟩
    exact ⟨f, hf, o, ho, e.symm⟩
  · rintro ⟨f, hf, o, ho, e⟩
    exact ⟨f, hf, o, ho, e.symm⟩
theorem un_of {q n : Nat} {v : List Int} (hq : q ≤ 64) (h : Vec q n v) : Un n v := ⟨h.len, fun x hx => ⟨(h.inn x hx).1, by have := (h.inn x hx).2; omega⟩⟩
theorem rep_vec {q n : Nat} (hq : 0 < q) : Vec q n (List.replicate n 0) := ⟨by simp, fun x hx => by rw [(List.mem_replicate.mp hx).2]; omega⟩
theorem spanL_vec {q n : Nat} (hq : 0 < q) (R : List (List Int)) : (∀ r ∈ R, Vec q n r) → ∀ v ∈ spanL q n R, Vec q n v := by
  refine rev_ind (P := fun R => (∀ r ∈ R, Vec (q : Int) n r) → ∀ v ∈ spanL q n R, Vec (q : Int) n v) ?_ ?_ R
  · intro _ v hv
    rw [spanL_nil, List.mem_singleton] at hv
    subst hv
    exact rep_vec hq
  · intro l a ih h v hv
    rw [spanL_app] at hv
    obtain ⟨f, _, o, ho, rfl⟩ := spanS_mem.mp (sortT_sub hv)
    exact addR_vec (by omega) (ih (fun r hr => h r (by simp [hr])) o ho) (h a (by simp))
theorem spanS_vec {q n : Nat} (hq : 0 < q) {F : List (List Int)} {r : List Int} (hF : ∀ v ∈ F, Vec (q : Int) n v) (hr : Vec q n r) : ∀ v ∈ spanS q F r, Vec (q : Int) n v := fun v hv => by
  obtain ⟨f, _, o, ho, rfl⟩ := spanS_mem.mp hv
  exact addR_vec (by omega) (hF o ho) hr
theorem spanL_step {q n : Nat} (hq : 0 < q) (h6 : q ≤ 64) {R : List (List Int)} {r v : List Int} (hR : ∀ s ∈ R, Vec q n s) (hr : Vec q n r) : v ∈ spanL q n (R ++ [r]) ↔ ∃ f, f < q ∧ ∃ o ∈ spanL q n R, v = addR q o r (f : Nat) := by
  rw [spanL_app, sortT_mem (d := n) fun v hv => un_of h6 (spanS_vec hq (spanL_vec hq R hR) hr v hv), spanS_mem]
theorem spanL_srt (q n : Nat) (R : List (List Int)) : (spanL q n R).Pairwise (cod · < cod ·) := by
  refine rev_ind (P := fun R => (spanL q n R).Pairwise (cod · < cod ·)) ?_ ?_ R
  · rw [spanL_nil]
    exact List.pairwise_singleton _ _
  · intro l a _
    rw [spanL_app]
    exact sortT_srt _
theorem srt_nodup {l : List (List Int)} (h : l.Pairwise (cod · < cod ·)) : l.Nodup := h.imp fun {a b} z e => by subst e; omega
theorem spanL_len {q n : Nat} (hq : 0 < q) {R : List (List Int)} (hR : ∀ s ∈ R, Vec q n s) : (spanL q n R).length ≤ q ^ n := by
  rw [← allDt_len q n]
  exact nodup_le _ _ (srt_nodup (spanL_srt q n R)) fun v hv => allDt_vec.mpr (spanL_vec hq R hR v hv)
theorem dot_comm : ∀ r x : List Int, dot r x = dot x r
  | [], x => by cases x <;> rfl
  | a :: r, [] => rfl
  | a :: r, b :: x => by simp [dot, dot_comm r x, Int.mul_comm]
theorem dot_add2 {p f : Int} {n : Nat} {r x y : List Int} (hx : x.length = n) (hy : y.length = n) : dot r (addR p x y f) % p = (dot r x + f * dot r y) % p := by
  obtain ⟨c, hc⟩ := dot_add p f (r := x) (o := y) (x := r) hx hy
  rw [dot_comm, hc, dot_comm x, dot_comm y, Int.add_mul_emod_self_left]
theorem dot_add1 {p f : Int} {n : Nat} {r o x : List Int} (hx : r.length = n) (hy : o.length = n) : dot (addR p r o f) x % p = (dot r x + f * dot o x) % p := by
  obtain ⟨c, hc⟩ := dot_add p f (r := r) (o := o) (x := x) hx hy
  rw [hc, Int.add_mul_emod_self_left]
theorem inv_ex {q : Nat} (hp : OkP q) {a : Int} (ha : a % q ≠ 0) : ∃ c : Int, (a * c) % q = 1 := by
  have q2 := okp_b hp
  have a1 := Int.emod_nonneg a (b := q) (by omega)
  have a2 := Int.emod_lt_of_pos a (b := q) (by omega)
  obtain ⟨f, _, hf, _⟩ := inverse_ok hp (a := a % q) ⟨by omega, a2⟩ []
  exact ⟨f, by rw [← hf, Int.mul_emod, Int.mul_emod (a % q) f, Int.emod_emod_of_dvd _ (Int.dvd_refl _)]⟩
/-- taking a row away, and giving it back -/
theorem add_back {p : Int} {n : Nat} {v r : List Int} (hp : 0 < p) (hv : Vec p n v) (hr : Vec p n r) (f g : Int) (h : (f + g) % p = 0) : addR p (addR p v r f) r g = v := by
  have v1 := addR_vec (f := f) hp hv hr
  refine ext_at (n := n) (addR_vec hp v1 hr).len hv.len fun i hi => ?_
  rw [addR_at v1.len hr.len hi, addR_at hv.len hr.len hi]
  have b := at_in hv hp i
  obtain ⟨c, hc⟩ := Int.dvd_of_emod_eq_zero h
  have e : (at_ v i + f * at_ r i) % p + g * at_ r i = at_ v i + p * (c * at_ r i - (at_ v i + f * at_ r i) / p) := by
    have := Int.emod_add_mul_ediv (at_ v i + f * at_ r i) p
    have e2 : (f + g) * at_ r i = p * c * at_ r i := by rw [hc]
    grind
  rw [e, Int.add_mul_emod_self_left, Int.emod_eq_of_lt b.1 b.2]
theorem spanL_iff {q n : Nat} (hp : OkP q) (R : List (List Int)) : (∀ r ∈ R, Vec q n r) → ∀ v, v ∈ spanL q n R ↔ Vec q n v ∧ ∀ x, Vec q n x → Nls q R x → Nl q v x := by
  have q1 := okp_b hp
  have q0 : 0 < q := by omega
  refine rev_ind (P := fun R => (∀ r ∈ R, Vec (q : Int) n r) → ∀ v, v ∈ spanL q n R ↔ Vec (q : Int) n v ∧ ∀ x, Vec (q : Int) n x → Nls q R x → Nl q v x) ?_ ?_ R
  · intro _ v
    rw [spanL_nil, List.mem_singleton]
    constructor
    · rintro rfl
      refine ⟨rep_vec q0, fun x _ _ => ?_⟩
      unfold Nl
      rw [dot_zero (r := List.replicate n 0) fun i => by simp [at_, List.getD, List.getElem?_replicate]; split <;> rfl]
      rfl
    · rintro ⟨hv, h⟩
      exact zero_of hv fun i _ => (rest_iff (by omega) (Red.nil _ _) hv).mpr h i
  · intro l a ih h v
    have hl : ∀ r ∈ l, Vec (q : Int) n r := fun r hr => h r (by simp [hr])
    have ha := h a (by simp)
    have ns : ∀ x, Nls q (l ++ [a]) x ↔ Nls q l x ∧ Nl q a x := fun x => ⟨fun z => ⟨fun r hr => z r (by simp [hr]), z a (by simp)⟩, fun z r hr => by
      rcases List.mem_append.mp hr with hr | hr
      · exact z.1 r hr
      · rw [List.mem_singleton.mp hr]
        exact z.2⟩
    rw [spanL_step q0 (by omega) hl ha]
    constructor
    · rintro ⟨f, _, o, ho, rfl⟩
      obtain ⟨vo, no⟩ := (ih hl o).mp ho
      refine ⟨addR_vec (by omega) vo ha, fun x hx nx => ?_⟩
      have nx := (ns x).mp nx
      exact (nl_add vo.len ha.len nx.2).mpr (no x hx nx.1)
    · rintro ⟨hv, hn⟩
      have fin : ∀ f : Int, (∀ x, Vec q n x → Nls q l x → (dot v x + -f * dot a x) % q = 0) → ∃ f, f < q ∧ ∃ o ∈ spanL q n l, v = addR q o a (f : Nat) := fun f hf => by
        have m1 := Int.emod_nonneg f (b := q) (by omega)
        have m2 := Int.emod_lt_of_pos f (b := q) (by omega)
        refine ⟨(f % q).toNat, by omega, addR q v a (-f), (ih hl _).mpr ⟨addR_vec (by omega) hv ha, fun x hx nx => ?_⟩, (add_back (by omega) hv ha _ _ ?_).symm⟩
        · unfold Nl
          rw [dot_add1 hv.len ha.len]
          exact hf x hx nx
        · rw [show (((f % q).toNat : Nat) : Int) = f % q by omega, Int.add_emod, Int.emod_emod_of_dvd _ (Int.dvd_refl _), ← Int.add_emod, Int.add_left_neg, Int.zero_emod]
      by_cases all : ∀ x, Vec q n x → Nls q l x → Nl q a x
      · exact fin 0 fun x hx nx => by
          have := hn x hx ((ns x).mpr ⟨nx, all x hx nx⟩)
          unfold Nl at this
          simpa using this
      · have : ∃ x0, Vec q n x0 ∧ Nls q l x0 ∧ ¬ Nl q a x0 := by
          refine Classical.byContradiction fun z => all fun x hx nx => Classical.byContradiction fun y => z ⟨x, hx, nx, y⟩
        obtain ⟨x0, h0, n0, y0⟩ := this
        obtain ⟨c, hc⟩ := inv_ex hp y0
        refine fin (dot v x0 * c) fun x hx nx => ?_
        have vy := addR_vec (f := -(dot a x * c)) (show (0 : Int) < q by omega) hx h0
        have ny : Nls q l (addR q x x0 (-(dot a x * c))) := fun r hr => by
          have e1 := nx r hr
          have e2 := n0 r hr
          unfold Nl at e1 e2 ⊢
          rw [dot_add2 hx.len h0.len, Int.add_emod, e1, Int.mul_emod, e2]
          simp
        have nya : Nl q a (addR q x x0 (-(dot a x * c))) := by
          unfold Nl
          rw [dot_add2 hx.len h0.len]
          have e : dot a x0 * c = 1 + q * (dot a x0 * c / q) := by
            have := Int.emod_add_mul_ediv (dot a x0 * c) q
            omega
          have e2 : dot a x + -(dot a x * c) * dot a x0 = q * (-(dot a x) * (dot a x0 * c / q)) := by
            have : -(dot a x * c) * dot a x0 = -(dot a x) * (dot a x0 * c) := by grind
            rw [this]
            generalize hk : dot a x0 * c / q = k at e ⊢
            rw [e]
            clear hk this
            generalize dot a x = z
            grind
          rw [e2, Int.mul_emod_right]
        have z := hn _ vy ((ns _).mpr ⟨ny, nya⟩)
        unfold Nl at z
        rw [dot_add2 hx.len h0.len] at z
        rw [← z]
        congr 1
        grind
end span
section rref
open LA
theorem rest_at {p : Int} {n j : Nat} (hp : 0 < p) (hj : j < n) : ∀ {R : List (List Int)} {v : List Int}, Vec p n v → Red p n R → (∀ s ∈ R, at_ v (leadR s) = 0 ∨ at_ s j = 0) → at_ (restR p v R) j = at_ v j
  | [], v, _, _, _ => rfl
  | o :: R, v, hv, h, hz => by
    have hpw := List.pairwise_cons.mp h.ap
    have hR : Red p n R := ⟨fun r hr => h.vec r (by simp [hr]), fun r hr => h.ld r (by simp [hr]), hpw.2⟩
    have vo := h.vec o (by simp)
    have v' := addR_vec (f := -(at_ v (leadR o))) hp hv vo
    show at_ (restR p (addR p v o (-(at_ v (leadR o)))) R) j = at_ v j
    have b := at_in hv hp j
    have ej : at_ (addR p v o (-(at_ v (leadR o)))) j = at_ v j := by
      rw [addR_at hv.len vo.len hj]
      rcases hz o (by simp) with z | z
      · rw [z]
        simp [Int.emod_eq_of_lt b.1 b.2]
      · rw [z]
        simp [Int.emod_eq_of_lt b.1 b.2]
    rw [rest_at hp hj v' hR fun s hs => ?_, ej]
    have ls := (h.ld s (by simp [hs])).1
    rcases hz s (by simp [hs]) with z | z
    · refine .inl ?_
      rw [addR_at hv.len vo.len ls, z, (hpw.1 s hs).2]
      simp
    · exact .inr z
/-- what the rows send to 0, sends the row to 0 -/
def InS (p : Int) (n : Nat) (R : List (List Int)) (v : List Int) : Prop := ∀ x, Vec p n x → Nls p R x → Nl p v x
theorem lead_in {p : Int} {n : Nat} {R : List (List Int)} {v : List Int} (hp : 1 < p) (h : Red p n R) (hv : Vec p n v) (hs : InS p n R v) (hl : leadR v < n) : ∃ r ∈ R, leadR r = leadR v := by
  refine Classical.byContradiction fun no => ?_
  have z := (rest_iff hp h hv).mpr hs (leadR v)
  rw [rest_at (by omega) hl hv h fun s hs => ?_] at z
  · exact lead_at (by rw [hv.len]; exact hl) z
  · rcases Nat.lt_trichotomy (leadR s) (leadR v) with q | q | q
    · exact .inl (lead_before q)
    · exact absurd ⟨s, hs, q⟩ no
    · exact .inr (lead_before q)
theorem rref_sub {p : Int} {n : Nat} {R S : List (List Int)} (hp : 1 < p) (hR : Red p n R) (hS : Red p n S) (h1 : ∀ r ∈ R, InS p n S r) (h2 : ∀ s ∈ S, InS p n R s) : ∀ r ∈ R, r ∈ S := fun r hr => by
  have vr := hR.vec r hr
  have lr := hR.ld r hr
  obtain ⟨s, hs, e⟩ := lead_in hp hS vr (h1 r hr) lr.1
  have vs := hS.vec s hs
  have ls := hS.ld s hs
  have vd := addR_vec (f := -1) (show 0 < p by omega) vr vs
  have di : InS p n S (addR p r s (-1)) := fun x hx nx => (nl_add vr.len vs.len (nx s hs)).mpr (h1 r hr x hx nx)
  have d0 : ¬ leadR (addR p r s (-1)) < n := fun hl => by
    obtain ⟨t, ht, et⟩ := lead_in hp hS vd di hl
    have ne := lead_at (r := addR p r s (-1)) (by rw [vd.len]; exact hl)
    rw [← et, addR_at vr.len vs.len (hS.ld t ht).1] at ne
    by_cases ts : t = s
    · subst ts
      rw [ls.2, e, lr.2] at ne
      simp at ne
    · obtain ⟨r', hr', e'⟩ := lead_in hp hR (hS.vec t ht) (h2 t ht) (hS.ld t ht).1
      have nr : r' ≠ r := fun z => ts (lead_inj hS ht hs (by rw [← e', z, e]))
      rw [ap_of hS ht hs ts, ← e', ap_of hR hr' hr nr] at ne
      simp at ne
  have ez := lead_none (r := addR p r s (-1)) (by rw [vd.len]; exact d0)
  have : r = s := ext_at vr.len vs.len fun i hi => by
    have z := ez i
    rw [addR_at vr.len vs.len hi] at z
    have b1 := at_in vr (show 0 < p by omega) i
    have b2 := at_in vs (show 0 < p by omega) i
    obtain ⟨c, hc⟩ := Int.dvd_of_emod_eq_zero z
    have c0 : c = 0 := by
      rcases Int.lt_trichotomy c 0 with q | q | q
      · have := Int.mul_le_mul_of_nonneg_left (show c ≤ -1 by omega) (show 0 ≤ p by omega)
        omega
      · exact q
      · have := Int.mul_le_mul_of_nonneg_left (show 1 ≤ c by omega) (show 0 ≤ p by omega)
        omega
    rw [c0] at hc
    omega
  rw [this]
  exact hs
theorem srt_uni : ∀ {R S : List (List Int)}, Srt R → Srt S → (∀ r, r ∈ R ↔ r ∈ S) → R = S
  | [], [], _, _, _ => rfl
  | [], b :: S, _, _, e => by have := (e b).mpr (by simp); cases this
  | a :: R, [], _, _, e => by have := (e a).mp (by simp); cases this
  | a :: R, b :: S, h, h', e => by
    obtain ⟨h1, h2⟩ := List.pairwise_cons.mp h
    obtain ⟨h3, h4⟩ := List.pairwise_cons.mp h'
    have ab : a = b := by
      have x := (e a).mp (by simp)
      have y := (e b).mpr (by simp)
      rcases List.mem_cons.mp x with x | x
      · exact x
      · rcases List.mem_cons.mp y with y | y
        · exact y.symm
        · have := h3 a x
          have := h1 b y
          omega
    subst ab
    rw [srt_uni h2 h4 fun k => ?_]
    constructor
    · intro hk
      rcases List.mem_cons.mp ((e k).mp (List.mem_cons_of_mem _ hk)) with z | z
      · subst z
        have := h1 k hk
        omega
      · exact z
    · intro hk
      rcases List.mem_cons.mp ((e k).mpr (List.mem_cons_of_mem _ hk)) with z | z
      · subst z
        have := h3 k hk
        omega
      · exact z
theorem rref_uni {p : Int} {n : Nat} {R S : List (List Int)} (hp : 1 < p) (hR : Red p n R) (hS : Red p n S) (sR : Srt R) (sS : Srt S) (h : ∀ x, Vec p n x → (Nls p R x ↔ Nls p S x)) : R = S :=
  srt_uni sR sS fun r => ⟨fun hr => rref_sub hp hR hS (fun r hr x hx nx => (h x hx).mpr nx r hr) (fun s hs x hx nx => (h x hx).mp nx s hs) r hr,
    fun hr => rref_sub hp hS hR (fun r hr x hx nx => (h x hx).mp nx r hr) (fun s hs x hx nx => (h x hx).mpr nx s hs) r hr⟩
theorem nls_self {q n : Nat} (hp : OkP q) {R S : List (List Int)} (hR : ∀ r ∈ R, Vec q n r) (hS : ∀ r ∈ S, Vec q n r) : spanL q n R = spanL q n S ↔ ∀ x, Vec q n x → (Nls q R x ↔ Nls q S x) := by
  constructor
  · intro e x hx
    have a : ∀ r ∈ R, r ∈ spanL q n S := fun r hr => by
      rw [← e]
      exact (spanL_iff hp R hR r).mpr ⟨hR r hr, fun x _ nx => nx r hr⟩
    have b : ∀ r ∈ S, r ∈ spanL q n R := fun r hr => by
      rw [e]
      exact (spanL_iff hp S hS r).mpr ⟨hS r hr, fun x _ nx => nx r hr⟩
    exact ⟨fun nx s hs => ((spanL_iff hp R hR s).mp (b s hs)).2 x hx nx, fun nx s hs => ((spanL_iff hp S hS s).mp (a s hs)).2 x hx nx⟩
  · intro h
    refine codU (spanL_srt q n R) (spanL_srt q n S) fun v => ?_
    rw [spanL_iff hp R hR, spanL_iff hp S hS]
    exact ⟨fun z => ⟨z.1, fun x hx nx => z.2 x hx ((h x hx).mpr nx)⟩, fun z => ⟨z.1, fun x hx nx => z.2 x hx ((h x hx).mp nx)⟩⟩
theorem red_init {p : Int} {n : Nat} {R : List (List Int)} {r : List Int} (h : Red p n (R ++ [r])) : Red p n R :=
  ⟨fun s hs => h.vec s (by simp [hs]), fun s hs => h.ld s (by simp [hs]), (List.pairwise_append.mp h.ap).1⟩
theorem span_at {q n j : Nat} (hq : 0 < q) (h6 : q ≤ 64) (hj : j < n) (R : List (List Int)) : (∀ s ∈ R, Vec q n s) → (∀ s ∈ R, at_ s j = 0) → ∀ v ∈ spanL q n R, at_ v j = 0 := by
  refine rev_ind (P := fun R => (∀ s ∈ R, Vec (q : Int) n s) → (∀ s ∈ R, at_ s j = 0) → ∀ v ∈ spanL q n R, at_ v j = 0) ?_ ?_ R
  · intro _ _ v hv
    rw [spanL_nil, List.mem_singleton] at hv
    subst hv
    simp [at_, List.getD, List.getElem?_replicate]
    split <;> rfl
  · intro l a ih hV hz v hv
    have vl : ∀ s ∈ l, Vec (q : Int) n s := fun s hs => hV s (by simp [hs])
    have va := hV a (by simp)
    obtain ⟨f, _, o, ho, rfl⟩ := (spanL_step hq h6 vl va).mp hv
    have vo := spanL_vec hq l vl o ho
    rw [addR_at vo.len va.len hj, ih vl (fun s hs => hz s (by simp [hs])) o ho, hz a (by simp)]
    simp
theorem sortT_len {d : Nat} {l : List (List Int)} (h : ∀ m ∈ l, Un d m) (nd : l.Nodup) : (sortT l).length = l.length :=
  Nat.le_antisymm (nodup_le _ _ (srt_nodup (sortT_srt l)) fun v hv => sortT_sub hv) (nodup_le _ _ nd fun v hv => (sortT_mem h).mpr hv)
theorem spanS_len (q : Nat) (F : List (List Int)) (r : List Int) : (spanS q F r).length = q * F.length := by
  simp [spanS, List.length_flatMap, List.map_const', List.sum_replicate_nat]
theorem spanS_nd {q n j : Nat} {F : List (List Int)} {r : List Int} (hq : 1 < q) (hj : j < n) (hF : ∀ v ∈ F, Vec (q : Int) n v) (hr : Vec q n r) (h1 : at_ r j = 1) (hz : ∀ v ∈ F, at_ v j = 0) (nd : F.Nodup) : (spanS q F r).Nodup := by
  have q0 : (0 : Int) < q := by omega
  have aj : ∀ f : Nat, f < q → ∀ o ∈ F, at_ (addR q o r (f : Nat)) j = f := fun f hf o ho => by
    rw [addR_at (hF o ho).len hr.len hj, h1, hz o ho]
    simp
    exact Int.emod_eq_of_lt (by omega) (by omega)
  have one : ∀ f : Nat, ∀ o ∈ F, ∀ o' ∈ F, addR q o r (f : Nat) = addR q o' r (f : Nat) → o = o' := fun f o ho o' ho' e => by
    have b1 := add_back (f := (f : Int)) (g := -(f : Int)) q0 (hF o ho) hr (by rw [Int.add_right_neg, Int.zero_emod])
    have b2 := add_back (f := (f : Int)) (g := -(f : Int)) q0 (hF o' ho') hr (by rw [Int.add_right_neg, Int.zero_emod])
    rw [← b1, ← b2, e]
  unfold spanS List.Nodup
  rw [List.pairwise_flatMap]
  refine ⟨fun f _ => ?_, ?_⟩
  · rw [List.pairwise_map]
    refine List.pairwise_iff_forall_sublist.mpr fun {a b} hab e => ?_
    have pw := List.pairwise_iff_forall_sublist.mp nd hab
    exact pw (one f a (hab.mem (by simp)) b (hab.mem (by simp)) e)
  · refine List.pairwise_iff_forall_sublist.mpr fun {a b} hab x hx y hy e => ?_
    have pw := List.pairwise_iff_forall_sublist.mp (List.pairwise_lt_range (n := q)) hab
    have ma := List.mem_range.mp (hab.mem (by simp : a ∈ [a, b]))
    have mb := List.mem_range.mp (hab.mem (by simp : b ∈ [a, b]))
    rw [List.mem_map] at hx hy
    obtain ⟨o, ho, rfl⟩ := hx
    obtain ⟨o', ho', rfl⟩ := hy
    have z1 := aj a ma o ho
    have z2 := aj b mb o' ho'
    rw [e, z2] at z1
    omega
theorem span_red {q n : Nat} (hp : OkP q) (R : List (List Int)) : Red q n R → (spanL q n R).length = q ^ R.length := by
  have q1 := okp_b hp
  refine rev_ind (P := fun R => Red (q : Int) n R → (spanL q n R).length = q ^ R.length) ?_ ?_ R
  · intro _
    simp [spanL_nil]
  · intro l a ih h
    have hi := (red_init h)
    have va := h.vec a (by simp)
    have la := h.ld a (by simp)
    have az : ∀ s ∈ l, at_ s (leadR a) = 0 := fun s hs => ((List.pairwise_append.mp h.ap).2.2 s hs a (by simp)).2
    have vl := spanL_vec (show 0 < q by omega) l hi.vec
    have nd := spanS_nd (show 1 < q by omega) la.1 vl va la.2 (span_at (by omega) (by omega) la.1 l hi.vec az) (srt_nodup (spanL_srt q n l))
    rw [spanL_app, sortT_len (d := n) (fun v hv => un_of (by omega) (spanS_vec (by omega) vl va v hv)) nd, spanS_len, ih hi, List.length_append, List.length_singleton, Nat.pow_succ, Nat.mul_comm]
end rref
section spanw
open LA
theorem flat_rep (k : Nat) (d : D) : (List.replicate k [d]).flatten = List.replicate k d := by
  induction k with
  | zero => rfl
  | succ k ih => simp [List.replicate_succ, ih]
theorem mul_tup1 {k : Nat} (h1 : 1 ≤ k) (h2 : k ≤ 1000) (d : D) (m : Store) : mulD (.tup [d]) (.int k) m = .ok (.tup (List.replicate k d)) m := by
  have hc : (1 : Int) ≤ k ∧ (k : Int) ≤ 1000 := by omega
  simp [mulD, hc, flat_rep]
theorem mulX_int (i j : Int) (m : Store) : mulX (.int i) (.int j) m = mulD (.int i) (.int j) m := (rfl)
theorem mul_tupk {k : Nat} (h1 : 1 ≤ k) (h2 : k ≤ 1000) (d : D) (m : Store) : mulX (.tup [d]) (.int k) m = .ok (.tup (List.replicate k d)) m := mul_tup1 h1 h2 d m
theorem ils_rep (k : Nat) : List.replicate k (D.int 0) = ils (List.replicate k 0) := by simp [ils]
theorem okT_mk {d : Nat} {l : List (List Int)} (hne : l ≠ []) (hd : 1 ≤ d) (h : ∀ v ∈ l, Un d v) (hl : (sortT l).length + 1 < 64) : okT l = true := by
  cases l with
  | nil => exact absurd rfl hne
  | cons r R =>
    have hr := h r (by simp)
    show (decide (1 ≤ r.length) && (r :: R).all (fun v => decide (v.length = r.length) && v.all fun x => decide (0 ≤ x) && decide (x < 64)) && decide ((sortT (r :: R)).length + 1 < 64)) = true
    rw [Bool.and_eq_true_iff, Bool.and_eq_true_iff]
    refine ⟨⟨by simp [hr.len, hd], List.all_eq_true.mpr fun v hv => ?_⟩, by simpa using hl⟩
    rw [Bool.and_eq_true_iff]
    exact ⟨by simp [(h v hv).len, hr.len], List.all_eq_true.mpr fun x hx => by simpa using (h v hv).bd x hx⟩
theorem rowsD_tps : ∀ l : List (List Int), rowsD (tps l) = some l
  | [] => rfl
  | r :: l => by
    have ir : intsD (ils r) = some r := intsD_ints r
    show rowsD (.tup (ils r) :: tps l) = _
    simp [rowsD, ir, rowsD_tps l]
theorem sortTD_ok {l : List (List Int)} (h : okT l = true) (m : Store) : sortTD (.lst (tps l)) m = .ok (.lst (tps (sortT l))) m := by
  have e : tpsD (sortT l) = tps (sortT l) := rfl
  simp [sortTD, rowsD_tps, h, e]
variable {q n : Nat}
theorem sp_1 {r o : List Int} {f : Nat} (hq : 1 ≤ q ∧ q ≤ 7) (hr : Vec q n r) (ho : Vec q n o) (hn : n ≤ 90) (hf : f < q) (x0 x2 x3 x5 x8 x9 : Option D) (m : Store) :
    c_span_1 [x0, some (.int q), x2, x3, some (.tup (ils r)), x5, some (.int f), some (.tup (ils o)), x8, x9] m = .ok (.lst (ils (addR q o r f))) m := by
  have e : ils (addR q o r f) = (o.zip r).map fun z => D.int ((z.1 + (f : Int) * z.2) % q) := by simp [ils, addR]
  rw [e]
  refine eComp_on (h := fun z : Int × Int => D.tup [.int z.1, .int z.2]) ?_ (by simp [hr.len, ho.len]; omega) fun z hz => ⟨_, rfl, ?_⟩
  · rw [iZip_ap _ _ _ (x := .tup (ils o)) (y := .tup (ils r)) (m1 := m) (xs := ils o) (ys := ils r) (by simp) rfl rfl, zipT_ils]
  · have c : CM (f : Int) z.2 := .inl ⟨by omega, by omega⟩
    have mx : mulX (.int f) (.int z.2) m = .ok (.int ((f : Int) * z.2)) m := by rw [mulX_int, mul_int _ c]
    simp [wipeD, mx, mod_int _ (show (0 : Int) < q by omega)]
theorem sp_2 {r : List Int} {F : List (List Int)} {f : Nat} (hq : 1 ≤ q ∧ q ≤ 7) (hr : Vec q n r) (hF : ∀ o ∈ F, Vec q n o) (hn : n ≤ 90) (hf : f < q) (hl : F.length ≤ 100000) (x0 x2 x5 x7 x8 x9 : Option D) (m : Store) :
    c_span_2 [x0, some (.int q), x2, some (.lst (tps F)), some (.tup (ils r)), x5, some (.int f), x7, x8, x9] m = .ok (.lst (tps (F.map fun o => addR q o r f))) m := by
  have e : tps (F.map fun o => addR q o r f) = F.map fun o => D.tup (ils (addR q o r f)) := by simp [tps]
  rw [e]
  refine eComp_on (h := fun o => D.tup (ils o)) (by simp [tps]) hl fun o ho => ⟨_, rfl, ?_⟩
  have c := sp_1 hq hr (hF o ho) hn hf x0 x2 (some (.lst (tps F))) x5 x8 x9 m
  have hz : (addR (q : Int) o r f).length ≤ 100000 := by rw [(addR_vec (f := (f : Int)) (show (0 : Int) < q by omega) (hF o ho) hr).len]; omega
  have tp : tupleD [.lst (ils (addR (q : Int) o r f))] m = .ok (.tup (ils (addR q o r f))) m := tuple_Sq false _ m hz
  simp [wipeD, c, tp]
theorem range_flat {α : Type} (g : Nat → List α) (i : Nat) : (List.range (i + 1)).flatMap g = (List.range i).flatMap g ++ g i := by
  rw [List.range_succ, List.flatMap_append]
  simp
theorem sp_l1 {r : List Int} {F : List (List Int)} (hq : 1 ≤ q ∧ q ≤ 7) (hr : Vec q n r) (hF : ∀ o ∈ F, Vec q n o) (hn : n ≤ 90) (hl : F.length ≤ 100) (x0 x2 x6 x7 x8 x9 : Option D) (m : Store) :
    ∃ y6, l_span_1 [x0, some (.int q), x2, some (.lst (tps F)), some (.tup (ils r)), some (.lst []), x6, x7, x8, x9] m = .ok (.nx [x0, some (.int q), x2, some (.lst (tps F)), some (.tup (ils r)), some (.lst (tps (spanS q F r))), y6, x7, x8, x9]) m := by
  have hit : iRg1 (aCons (eVar 1) aNil) [x0, some (.int q), x2, some (.lst (tps F)), some (.tup (ils r)), some (.lst []), x6, x7, x8, x9] m = .ok ⟨rngI 0 q, []⟩ m := iRg1_nat (by omega) (by simp)
  obtain ⟨e', m', h1, ⟨y6, rfl⟩, rfl⟩ := forL_chg (src := rngI 0 q) (g := gNm 6) (b := lb_span_1)
    (fun i e m1 => (∃ y6, e = [x0, some (.int q), x2, some (.lst (tps F)), some (.tup (ils r)), some (.lst (tps ((List.range i).flatMap fun (f : Nat) => F.map fun o => addR q o r f))), y6, x7, x8, x9]) ∧ m1 = m) (rngI 0 q) [x0, some (.int q), x2, some (.lst (tps F)), some (.tup (ils r)), some (.lst []), x6, x7, x8, x9] m ⟨⟨x6, by simp [tps]⟩, rfl⟩ (by
    rintro i d e m1 hi ⟨⟨y6, rfl⟩, rfl⟩
    obtain ⟨hiq, rfl⟩ := rng_get hi
    have c := sp_2 hq hr hF hn hiq (by omega) x0 x2 (some (.lst (tps ((List.range i).flatMap fun (f : Nat) => F.map fun o => addR q o r f)))) x7 x8 x9 m1
    refine ⟨_, _, _, _, rfl, .inl ?_, ⟨some (.int i), rfl⟩, rfl⟩
    have hln : (tps (((List.range i).flatMap fun (f : Nat) => F.map fun o => addR q o r f) ++ F.map fun o => addR q o r (i : Nat))).length ≤ 100000 := by
      have e1 := spanS_len i F r
      have : (((List.range i).flatMap fun (f : Nat) => F.map fun o => addR (q : Int) o r f)).length = i * F.length := by simp [List.length_flatMap, List.map_const', List.sum_replicate_nat]
      rw [tps_length, List.length_append, this, List.length_map]
      have : i * F.length ≤ 7 * 100 := Nat.mul_le_mul (by omega) hl
      omega
    rw [range_flat]
    generalize (List.range i).flatMap (fun (f : Nat) => F.map fun o => addR (q : Int) o r f) = acc at c hln ⊢
    have he : tps acc ++ tps (F.map fun o => addR (q : Int) o r (i : Nat)) = tps (acc ++ F.map fun o => addR (q : Int) o r (i : Nat)) := by simp [tps]
    generalize (F.map fun o => addR (q : Int) o r (i : Nat)) = G at c hln he ⊢
    show lb_span_1 [x0, some (.int q), x2, some (.lst (tps F)), some (.tup (ils r)), some (.lst (tps acc)), some (.int i), x7, x8, x9] m1 = _
    simp only [lb_span_1, sSet_ap, eOp_ap, eVar_ap, getv_some m1 (i := 5) (e := [x0, some (.int q), x2, some (.lst (tps F)), some (.tup (ils r)), some (.lst (tps acc)), some (.int i), x7, x8, x9]) (d := .lst (tps acc)) rfl, thn_ok, c, add_lst, he, mkL_ap, hln, if_true]
    rfl)
  have hz : (rngI 0 q).length = q := by simp [rngI]
  rw [hz] at h1
  exact ⟨y6, fr_of hit h1⟩
theorem span_ok {R : List (List Int)} (hp : OkP q) (hR : ∀ r ∈ R, Vec q n r) (hn : 1 ≤ n ∧ n ≤ 90) (h49 : q ^ n ≤ 49) (hq7 : q ≤ 7) (m : Store) : d_span [.lst (tps R), .int q, .int n] m = .ok (.lst (tps (spanL q n R))) m := by
  have q1 := okp_b hp
  refine fn_pure ?_
  have mt := mul_tupk (k := n) hn.1 (by omega) (.int 0) m
  rw [ils_rep] at mt
  have hit : iSeqD (eVar 0) [some (.lst (tps R)), some (.int q), some (.int n), some (.lst (tps (spanL q n []))), none, none, none, none, none, none] m = .ok ⟨tps R, []⟩ m := by simp
  obtain ⟨e', m', h1, ⟨x4, x5, x6, x7, x8, x9, rfl⟩, rfl⟩ := forL_chg (src := tps R) (g := gNm 4) (b := lb_span_2)
    (fun i e m1 => (∃ x4 x5 x6 x7 x8 x9, e = [some (.lst (tps R)), some (.int q), some (.int n), some (.lst (tps (spanL q n (R.take i)))), x4, x5, x6, x7, x8, x9]) ∧ m1 = m) (tps R) [some (.lst (tps R)), some (.int q), some (.int n), some (.lst (tps (spanL q n []))), none, none, none, none, none, none] m ⟨⟨none, none, none, none, none, none, by simp⟩, rfl⟩ (by
    rintro i d e m1 hi ⟨⟨x4, x5, x6, x7, x8, x9, rfl⟩, rfl⟩
    rw [tps_get, Option.map_eq_some_iff] at hi
    obtain ⟨r, hr, rfl⟩ := hi
    have mr := List.mem_of_getElem? hr
    have tk : R.take (i + 1) = R.take i ++ [r] := by rw [List.take_succ, hr]; rfl
    have hT : ∀ s ∈ R.take i, Vec (q : Int) n s := fun s hs => hR s (List.mem_of_mem_take hs)
    have hF := spanL_vec (show 0 < q by omega) (R.take i) hT
    have lF := spanL_len (show 0 < q by omega) hT
    have hT' : ∀ s ∈ R.take i ++ [r], Vec (q : Int) n s := fun s hs => by rw [← tk] at hs; exact hR s (List.mem_of_mem_take hs)
    have lF' := spanL_len (show 0 < q by omega) hT'
    have z0 : List.replicate n 0 ∈ spanL q n (R.take i) := (spanL_iff hp _ hT _).mpr ⟨rep_vec (by omega), fun x _ _ => by
      unfold Nl
      rw [dot_zero (r := List.replicate n 0) fun i => by simp [at_, List.getD, List.getElem?_replicate]; split <;> rfl]
      rfl⟩
    obtain ⟨y6, w⟩ := sp_l1 ⟨by omega, hq7⟩ (hR r mr) hF (by omega) (by omega) (some (.lst (tps R))) (some (.int n)) x6 x7 x8 x9 m1
    have ne : spanS q (spanL q n (R.take i)) r ≠ [] := fun z => by
      have : addR q (List.replicate n 0) r (0 : Nat) ∈ spanS q (spanL q n (R.take i)) r := spanS_mem.mpr ⟨0, by omega, _, z0, rfl⟩
      rw [z] at this
      cases this
    rw [spanL_app] at lF'
    have ok := okT_mk (d := n) ne hn.1 (fun v hv => un_of (by omega) (spanS_vec (by omega) hF (hR r mr) v hv)) (by omega)
    have so := sortTD_ok ok m1
    rw [tk, spanL_app]
    refine ⟨_, _, _, _, rfl, .inl ?_, ⟨some (.tup (ils r)), some (.lst (tps (spanS q (spanL q n (R.take i)) r))), y6, x7, x8, x9, rfl⟩, rfl⟩
    generalize spanL q n (R.take i) = F at w so ⊢
    generalize spanS q F r = S at w so ⊢
    refine sq_of (e1 := [some (.lst (tps R)), some (.int q), some (.int n), some (.lst (tps F)), some (.tup (ils r)), some (.lst []), x6, x7, x8, x9]) (m1 := m1) (by simp) ?_
    refine sq_of w ?_
    simp [so])
  rw [tps_length, List.take_length] at h1
  refine sq_of (e1 := [some (.lst (tps R)), some (.int q), some (.int n), some (.lst (tps (spanL q n []))), none, none, none, none, none, none]) (m1 := m') (by simp [startD, mt, spanL_nil, tps]) ?_
  refine sq_of (fr_of hit h1) ?_
  simp
end spanw
section spw
open LA
theorem toPDs_tps : ∀ a : List (List Int), toPDs (tps a) = some (a.map fun r => .tuple (r.map .int))
  | [] => rfl
  | r :: a => by
    show toPDs (D.tup (ils r) :: tps a) = _
    simp [toPDs, toPD, toPDs_ints, toPDs_tps a]
theorem canLay_tps : ∀ a : List (List Int), PyData.canLayAll0 (a.map fun r => .tuple (r.map .int)) = true
  | [] => rfl
  | r :: a => by simp [PyData.canLayAll0, PyData.canLay0, canLay_ints, canLay_tps a]
theorem depth_tps : ∀ a : List (List Int), PyData.depthAll (a.map fun r => .tuple (r.map .int)) ≤ 1
  | [] => by simp [PyData.depthAll]
  | r :: a => by
    have := depth_tps a
    simp [PyData.depthAll, PyData.depth, depth_ints]
    omega
theorem eqvAll_tps : ∀ a b : List (List Int), PyData.eqvAll (a.map fun r => .tuple (r.map .int)) (b.map fun r => .tuple (r.map .int)) = decide (a = b)
  | [], [] => by simp [PyData.eqvAll]
  | [], _ :: _ => by simp [PyData.eqvAll]
  | _ :: _, [] => by simp [PyData.eqvAll]
  | a :: r, b :: t => by
    simp only [List.map_cons, PyData.eqvAll, PyData.eqv, PySem.W.ked_eqvAll, eqvAll_tps r t]
    by_cases h1 : a = b <;> by_cases h2 : r = t <;> simp [h1, h2]
theorem shp_tpsL (a : List (List Int)) : SeqAt.shaped (.list (a.map fun r => .tuple (r.map .int))) = true := by
  have := depth_tps a
  simp [SeqAt.shaped, PyData.canLay0, PyData.depth, canLay_tps]
  omega
theorem top_tpsL (a : List (List Int)) (m : Store) : topPD (.lst (tps a)) m = some (.list (a.map fun r => .tuple (r.map .int))) := by simp [topPD, toPD, toPDs_tps]
theorem eq_tpsL (a b : List (List Int)) (m : Store) : eqD (.lst (tps a)) (.lst (tps b)) m = .ok (.bl (decide (a = b))) m := by
  unfold eqD onPD
  simp only [top_tpsL, shp_tpsL, Bool.and_self, if_true, PyData.eqv, eqvAll_tps]
theorem in_tpsL (v : List Int) (F : List (List Int)) (m : Store) : inD false (.tup (ils v)) (.lst (tps F)) m = .ok (.bl (decide (v ∈ F))) m := by
  have t1 : topPD (.tup (ils v)) m = some (.tuple (v.map .int)) := by simp [topPD, toPD, toPDs_ints]
  have s1 : SeqAt.shaped (.tuple (v.map .int)) = true := by simp [SeqAt.shaped, PyData.canLay0, PyData.depth, canLay_ints, depth_ints]
  have t2 := top_tpsL F m
  have s2 := shp_tpsL F
  show (match topPD (.tup (ils v)) m, topPD (.lst (tps F)) m with
    | some a, some (.list bs) => if (SeqAt.shaped a && SeqAt.shaped (.list bs)) = true then Res.ok (D.bl (if false then !(bs.any fun z => PyData.eqv z a) else bs.any fun z => PyData.eqv z a)) m else .bad
    | _, _ => .bad) = _
  rw [t1, t2]
  simp only [s1, s2, Bool.and_self, if_true, Bool.false_eq_true, if_false]
  rw [List.any_map]
  congr 2
  rw [Bool.eq_iff_iff, List.any_eq_true, decide_eq_true_eq]
  constructor
  · rintro ⟨y, hy, z⟩
    simp only [Function.comp_apply, PyData.eqv, PySem.W.ked_eqvAll, decide_eq_true_eq] at z
    rw [← z]
    exact hy
  · intro hv
    exact ⟨v, hv, by simp [Function.comp_apply, PyData.eqv, PySem.W.ked_eqvAll]⟩
variable {p : Int} {n : Nat}
theorem pa0 (R : List (List Int)) (m : Store) : attrD [(1, .slot 0)] (Sp p n R) m = .ok (.lst (R.map (Sm p))) m := rfl
theorem pa1 (R : List (List Int)) (m : Store) : attrD [(1, .slot 1)] (Sp p n R) m = .ok (.int p) m := rfl
theorem pa2 (R : List (List Int)) (m : Store) : attrD [(1, .slot 2)] (Sp p n R) m = .ok (.int n) m := rfl
theorem pa3 (R : List (List Int)) (m : Store) : attrD [(1, .slot 3)] (Sp p n R) m = .ok (.lst (tps R)) m := rfl
theorem fac_ok (v : List Int) (m : Store) : attrD [(0, .prop d_Sum_factors)] (Sm p v) m = .ok (.tup (ils v)) m := at_prop (den := d_Sum_factors) (fn_pure rfl) rfl
def zeroB (t : List Int) : Bool := !((t.map (· != 0)).any id)
theorem zero_any (t : List Int) : zeroB t = true ↔ ∀ i, at_ t i = 0 := by
  unfold zeroB
  rw [Bool.not_eq_true', Bool.eq_false_iff]
  constructor
  · intro h i
    by_cases hi : i < t.length
    · rw [at_lt hi]
      refine Classical.byContradiction fun z => h ?_
      rw [List.any_map, List.any_eq_true]
      exact ⟨t[i], List.getElem_mem hi, by simpa using z⟩
    · exact at_ge (by omega)
  · intro h z
    rw [List.any_map, List.any_eq_true] at z
    obtain ⟨x, hx, z⟩ := z
    obtain ⟨i, hi, rfl⟩ := List.mem_iff_getElem.mp hx
    have := h i
    rw [at_lt hi] at this
    simp [this] at z
theorem has_row_ok {R : List (List Int)} {v : List Int} (hp : OkP p) (h : Red p n R) (hv : Vec p n v) (hn : n ≤ 90) (m : Store) : d_has_row [.lst (tps R), .tup (ils v), .int p] m = .ok (.bl (zeroB (restR p v R))) m := by
  have r := rest_ok (rows := .lst (tps R)) hp h hv hn (m := m) (src := ⟨tps R, []⟩) rfl rfl rfl
  refine fn_pure ?_
  have a := any_tup (restR p v R) m
  unfold zeroB
  simp [b_has_row, startD, r, a]
/-- the space's own `in` -/
theorem contains_ok {q : Nat} {R rows : List (List Int)} {v : List Int} (hp : OkP q) (h : Red q n R) (hr : ∀ r ∈ rows, Vec q n r) (nl : ∀ x, Nls q R x ↔ Nls q rows x) (hv : Vec q n v) (hn : n ≤ 90) (m : Store) : d_Space_contains [Sp q n R, Sm q v] m = .ok (.bl (decide (v ∈ spanL q n rows))) m := by
  have is := is_sum_ok hv m
  have hb := has_row_ok hp h hv hn m
  have e : zeroB (restR q v R) = decide (v ∈ spanL q n rows) := by
    rw [Bool.eq_iff_iff, zero_any, decide_eq_true_eq, rest_iff (okp_b hp).1 h hv, spanL_iff hp rows hr]
    exact ⟨fun z => ⟨hv, fun x hx nx => z x hx ((nl x).mpr nx)⟩, fun z x hx nx => z.2 x hx ((nl x).mp nx)⟩
  rw [e] at hb
  refine fn_pure ?_
  simp [b_Space_contains, startD, pa1, pa2, pa3, is, fac_ok, hb]
abbrev tCn : MTab := [(1, 2, d_Space_contains)]
theorem ownIn_sp {R : List (List Int)} {x : D} {b : Bool} {m : Store} (h : d_Space_contains [Sp p n R, x] m = .ok (.bl b) m) : ownIn tCn false x (Sp p n R) m = .ok (.bl b) m := by
  show (callN 2 d_Space_contains [Sp p n R, x] >>= inBk false) m = _
  have z : callN 2 d_Space_contains [Sp p n R, x] m = .ok (.bl b) m := (callN_ap m _ rfl).trans h
  rw [bind_ap, z]
  rfl
theorem Speq_ok (R S : List (List Int)) (m : Store) : d_Space_eq [Sp p n R, Sp p n S] m = .ok (.bl (decide (R = S))) m := by
  refine fn_pure ?_
  have i1 : isiD [0, 1] (.cls 1) (Sp p n S) m = .ok (.bl true) m := rfl
  have a1 : attrD [(0, .slot 0), (1, .slot 1)] (Sp p n S) m = .ok (.int p) m := rfl
  simp [b_Space_eq, startD, i1, a1, pa1, pa2, pa3, eq_tpsL]
abbrev tE : MTab := [(0, 2, d_Sum_eq), (1, 2, d_Space_eq)]
theorem flip_bl (neg b : Bool) (m : Store) : flipD neg (.bl b) m = .ok (.bl (neg != b)) m := by cases neg <;> cases b <;> rfl
theorem ownE_no {neg : Bool} {g0 : D → D → DL.M D} {x y : D} {m : Store} (h : clsD x m = none) : ownE [0, 1] tE neg g0 x y m = g0 x y m := by
  unfold ownE
  rw [h]
theorem ownE_Sp {neg : Bool} {g0 : D → D → DL.M D} (R S : List (List Int)) (m : Store) : ownE [0, 1] tE neg g0 (Sp p n R) (Sp p n S) m = .ok (.bl (neg != decide (R = S))) m := by
  have z : callN 2 d_Space_eq [Sp p n R, Sp p n S] m = _ := (callN_ap m _ rfl).trans (Speq_ok R S m)
  show (callN 2 d_Space_eq [Sp p n R, Sp p n S] >>= flipD neg) m = _
  rw [bind_ap, z]
  exact flip_bl neg _ m
theorem ownE_int {neg : Bool} {g0 : D → D → DL.M D} (i : Int) (y : D) (m : Store) : ownE [0, 1] tE neg g0 (.int i) y m = g0 (.int i) y m := ownE_no rfl
theorem ownE_bl {neg : Bool} {g0 : D → D → DL.M D} (b : Bool) (y : D) (m : Store) : ownE [0, 1] tE neg g0 (.bl b) y m = g0 (.bl b) y m := ownE_no rfl
end spw
section zas
open LA
def Zr (n : Nat) : List Int := List.replicate n 0
theorem zr_at (n i : Nat) : at_ (Zr n) i = 0 := by
  simp [Zr, at_, List.getD, List.getElem?_replicate]
  split <;> rfl
theorem dot_zr (n : Nat) (x : List Int) : dot (Zr n) x = 0 := dot_zero (zr_at n)
theorem dot_zr2 (n : Nat) (x : List Int) : dot x (Zr n) = 0 := by rw [dot_comm, dot_zr]
theorem zr_vec {q n : Nat} (hq : 0 < q) : Vec q n (Zr n) := rep_vec hq
theorem dot_app : ∀ {a y : List Int} (b z : List Int), a.length = y.length → dot (a ++ b) (y ++ z) = dot a y + dot b z
  | [], [], b, z, _ => by simp [dot]
  | a :: r, c :: y, b, z, h => by
    have := dot_app (a := r) (y := y) b z (by simpa using h)
    simp only [List.cons_append, dot, this]
    omega
  | [], _ :: _, _, _, h => by cases h
  | _ :: _, [], _, _, h => by cases h
theorem app_vec {p : Int} {n k : Nat} {a b : List Int} (h1 : Vec p n a) (h2 : Vec p k b) : Vec p (n + k) (a ++ b) := ⟨by rw [List.length_append, h1.len, h2.len], fun x hx => by
  rcases List.mem_append.mp hx with hx | hx
  · exact h1.inn x hx
  · exact h2.inn x hx⟩
theorem take_vec {p : Int} {n k : Nat} {a : List Int} (h : Vec p (n + k) a) : Vec p n (a.take n) := ⟨by rw [List.length_take, h.len]; omega, fun x hx => h.inn x (List.mem_of_mem_take hx)⟩
theorem drop_vec {p : Int} {n k : Nat} {a : List Int} (h : Vec p (n + k) a) : Vec p k (a.drop n) := ⟨by rw [List.length_drop, h.len]; omega, fun x hx => h.inn x (List.mem_of_mem_drop hx)⟩
theorem at_take {n i : Nat} {a : List Int} (h : i < n) : at_ (a.take n) i = at_ a i := by simp [at_, List.getD, List.getElem?_take, h]
theorem at_drop (n i : Nat) (a : List Int) : at_ (a.drop n) i = at_ a (n + i) := by simp [at_, List.getD]
theorem at_app1 {a b : List Int} {i : Nat} (h : i < a.length) : at_ (a ++ b) i = at_ a i := by simp [at_, List.getD, List.getElem?_append, h]
theorem at_app2 {a b : List Int} {n i : Nat} (h : a.length = n) : at_ (a ++ b) (n + i) = at_ b i := by
  simp [at_, List.getD, List.getElem?_append, h]
  rw [if_neg (by omega)]
def dbl (n : Nat) (R S : List (List Int)) : List (List Int) := R.map (fun r => r ++ r) ++ S.map fun s => s ++ Zr n
def lowR (n : Nat) (Z : List (List Int)) : List (List Int) := (Z.filter fun z => decide (n ≤ leadR z)).map (·.drop n)
def topR (n : Nat) (Z : List (List Int)) : List (List Int) := (Z.filter fun z => !decide (n ≤ leadR z)).map (·.take n)
variable {q n : Nat} {R S Z : List (List Int)}
theorem dbl_vec (hq : 0 < q) (hR : ∀ r ∈ R, Vec q n r) (hS : ∀ s ∈ S, Vec q n s) : ∀ d ∈ dbl n R S, Vec q (n + n) d := fun d hd => by
  rcases List.mem_append.mp hd with hd | hd
  · rw [List.mem_map] at hd
    obtain ⟨r, hr, rfl⟩ := hd
    exact app_vec (hR r hr) (hR r hr)
  · rw [List.mem_map] at hd
    obtain ⟨s, hs, rfl⟩ := hd
    exact app_vec (hS s hs) (zr_vec hq)
theorem dbl_nls {y z : List Int} (hR : ∀ r ∈ R, Vec q n r) (hS : ∀ s ∈ S, Vec q n s) (hy : y.length = n) : Nls q (dbl n R S) (y ++ z) ↔ (∀ r ∈ R, (dot r y + dot r z) % q = 0) ∧ ∀ s ∈ S, Nl q s y := by
  have e1 : ∀ r ∈ R, dot (r ++ r) (y ++ z) = dot r y + dot r z := fun r hr => dot_app _ _ (by rw [(hR r hr).len, hy])
  have e2 : ∀ s ∈ S, dot (s ++ Zr n) (y ++ z) = dot s y := fun s hs => by rw [dot_app _ _ (by rw [(hS s hs).len, hy]), dot_zr]; omega
  constructor
  · intro h
    refine ⟨fun r hr => ?_, fun s hs => ?_⟩
    · have := h (r ++ r) (List.mem_append_left _ (List.mem_map_of_mem (f := fun r => r ++ r) hr))
      unfold Nl at this
      rwa [e1 r hr] at this
    · have := h (s ++ Zr n) (List.mem_append_right _ (List.mem_map_of_mem (f := fun s => s ++ Zr n) hs))
      unfold Nl at this ⊢
      rwa [e2 s hs] at this
  · rintro ⟨h1, h2⟩ d hd
    rcases List.mem_append.mp hd with hd | hd
    · rw [List.mem_map] at hd
      obtain ⟨r, hr, rfl⟩ := hd
      unfold Nl
      rw [e1 r hr]
      exact h1 r hr
    · rw [List.mem_map] at hd
      obtain ⟨s, hs, rfl⟩ := hd
      unfold Nl
      rw [e2 s hs]
      exact h2 s hs
theorem low_form {z : List Int} (hz : Vec q (n + n) z) (hl : n ≤ leadR z) : z = Zr n ++ z.drop n := by
  have e : z.take n = Zr n := by
    refine ext_at (n := n) (by rw [List.length_take, hz.len]; omega) (by simp [Zr]) fun i hi => ?_
    rw [at_take hi, zr_at, lead_before (by omega)]
  conv => lhs; rw [← List.take_append_drop n z, e]
theorem low_dot {z y x : List Int} (hz : Vec q (n + n) z) (hl : n ≤ leadR z) (hy : y.length = n) : dot z (y ++ x) = dot (z.drop n) x := by
  conv => lhs; rw [low_form hz hl]
  rw [dot_app _ _ (by rw [hy]; simp [Zr]), dot_zr]
  omega
theorem low_mem {c : List Int} : c ∈ lowR n Z ↔ ∃ z ∈ Z, n ≤ leadR z ∧ c = z.drop n := by
  simp only [lowR, List.mem_map, List.mem_filter, decide_eq_true_eq]
  constructor
  · rintro ⟨z, ⟨h1, h2⟩, rfl⟩
    exact ⟨z, h1, h2, rfl⟩
  · rintro ⟨z, h1, h2, rfl⟩
    exact ⟨z, ⟨h1, h2⟩, rfl⟩
theorem top_mem {c : List Int} : c ∈ topR n Z ↔ ∃ z ∈ Z, leadR z < n ∧ c = z.take n := by
  simp only [topR, List.mem_map, List.mem_filter, Bool.not_eq_true', decide_eq_false_iff_not]
  constructor
  · rintro ⟨z, ⟨h1, h2⟩, rfl⟩
    exact ⟨z, h1, by omega, rfl⟩
  · rintro ⟨z, h1, h2, rfl⟩
    exact ⟨z, ⟨h1, by omega⟩, rfl⟩
theorem red_filter {p : Int} {k : Nat} {Z : List (List Int)} (P : List Int → Bool) (h : Red p k Z) : Red p k (Z.filter P) :=
  ⟨fun r hr => h.vec r (List.mem_filter.mp hr).1, fun r hr => h.ld r (List.mem_filter.mp hr).1, h.ap.filter _⟩
theorem low_red (h : Red q (n + n) Z) : Red q n (lowR n Z) := by
  have ld : ∀ z ∈ Z, n ≤ leadR z → leadR (z.drop n) = leadR z - n := fun z hz hl => by
    have l1 := h.ld z hz
    refine lead_is (by rw [(drop_vec (h.vec z hz)).len]; omega) ?_ fun j hj => ?_
    · rw [at_drop, show n + (leadR z - n) = leadR z by omega, l1.2]
      decide
    · rw [at_drop, lead_before (by omega)]
  refine ⟨fun c hc => ?_, fun c hc => ?_, ?_⟩
  · obtain ⟨z, hz, _, rfl⟩ := low_mem.mp hc
    exact drop_vec (h.vec z hz)
  · obtain ⟨z, hz, hl, rfl⟩ := low_mem.mp hc
    have l1 := h.ld z hz
    rw [ld z hz hl, at_drop, show n + (leadR z - n) = leadR z by omega]
    exact ⟨by omega, l1.2⟩
  · unfold lowR
    rw [List.pairwise_map]
    refine List.pairwise_iff_forall_sublist.mpr fun {a b} hab => ?_
    have ma := List.mem_filter.mp (hab.mem (by simp : a ∈ [a, b]))
    have mb := List.mem_filter.mp (hab.mem (by simp : b ∈ [a, b]))
    have pw := List.pairwise_iff_forall_sublist.mp (red_filter (fun z => decide (n ≤ leadR z)) h).ap hab
    have la := of_decide_eq_true ma.2
    have lb := of_decide_eq_true mb.2
    unfold Ap
    rw [ld a ma.1 la, ld b mb.1 lb, at_drop, at_drop, show n + (leadR a - n) = leadR a by omega, show n + (leadR b - n) = leadR b by omega]
    exact pw
theorem top_red (h : Red q (n + n) Z) : Red q n (topR n Z) := by
  have ld : ∀ z ∈ Z, leadR z < n → leadR (z.take n) = leadR z := fun z hz hl => by
    have l1 := h.ld z hz
    refine lead_is (by rw [(take_vec (h.vec z hz)).len]; omega) ?_ fun j hj => ?_
    · rw [at_take hl, l1.2]
      decide
    · rw [at_take (by omega), lead_before hj]
  refine ⟨fun c hc => ?_, fun c hc => ?_, ?_⟩
  · obtain ⟨z, hz, _, rfl⟩ := top_mem.mp hc
    exact take_vec (h.vec z hz)
  · obtain ⟨z, hz, hl, rfl⟩ := top_mem.mp hc
    rw [ld z hz hl, at_take hl]
    exact ⟨hl, (h.ld z hz).2⟩
  · unfold topR
    rw [List.pairwise_map]
    refine List.pairwise_iff_forall_sublist.mpr fun {a b} hab => ?_
    have ma := List.mem_filter.mp (hab.mem (by simp : a ∈ [a, b]))
    have mb := List.mem_filter.mp (hab.mem (by simp : b ∈ [a, b]))
    have pw := List.pairwise_iff_forall_sublist.mp (red_filter (fun z => !decide (n ≤ leadR z)) h).ap hab
    have la : leadR a < n := by simpa using ma.2
    have lb : leadR b < n := by simpa using mb.2
    unfold Ap
    rw [ld a ma.1 la, ld b mb.1 lb, at_take la, at_take lb]
    exact pw
theorem top_low_len (n : Nat) : ∀ Z : List (List Int), Z.length = (topR n Z).length + (lowR n Z).length
  | [] => rfl
  | z :: Z => by
    have ih := top_low_len n Z
    simp only [topR, lowR, List.length_map] at ih ⊢
    by_cases h : n ≤ leadR z
    · simp [List.filter_cons, h]
      omega
    · simp [List.filter_cons, h]
      omega
end zas
section zas2
open LA
variable {q n : Nat} {R S Z : List (List Int)}
theorem rest_flt {p : Int} {k : Nat} (P : List Int → Bool) (hp : 0 < p) : ∀ {Z : List (List Int)} {v : List Int}, Red p k Z → Vec p k v → (∀ z ∈ Z, P z = false → at_ v (leadR z) = 0) → restR p v Z = restR p v (Z.filter P)
  | [], v, _, _, _ => rfl
  | o :: Z, v, h, hv, hz => by
    have hpw := List.pairwise_cons.mp h.ap
    have hR : Red p k Z := ⟨fun r hr => h.vec r (by simp [hr]), fun r hr => h.ld r (by simp [hr]), hpw.2⟩
    have vo := h.vec o (by simp)
    have keep : ∀ f, ∀ z ∈ Z, P z = false → at_ (addR p v o f) (leadR z) = 0 := fun f z hz' hP => by
      rw [addR_at hv.len vo.len (h.ld z (by simp [hz'])).1, hz z (by simp [hz']) hP, (hpw.1 z hz').2]
      simp
    by_cases hP : P o = true
    · rw [List.filter_cons_of_pos hP]
      show restR p (addR p v o (-(at_ v (leadR o)))) Z = restR p (addR p v o (-(at_ v (leadR o)))) (Z.filter P)
      exact rest_flt P hp hR (addR_vec hp hv vo) (keep _)
    · have hP' : P o = false := by simpa using hP
      rw [List.filter_cons_of_neg hP]
      have e : addR p v o (-(at_ v (leadR o))) = v := by
        refine ext_at (addR_vec hp hv vo).len hv.len fun i hi => ?_
        rw [addR_at hv.len vo.len hi, hz o (by simp) hP']
        have b := at_in hv hp i
        simp [Int.emod_eq_of_lt b.1 b.2]
      show restR p (addR p v o (-(at_ v (leadR o)))) Z = _
      rw [e]
      exact rest_flt P hp hR hv fun z hz' hP => hz z (by simp [hz']) hP
theorem neg_dot (q : Nat) (w y : List Int) : dot w (sclR q y (-1)) % q = 0 ↔ dot w y % q = 0 := by
  obtain ⟨c, hc⟩ := dot_scl (q : Int) (-1) (r := y) (x := w)
  rw [dot_comm w, hc, dot_comm w]
  constructor
  · intro h
    obtain ⟨d, hd⟩ := Int.dvd_of_emod_eq_zero h
    have : dot y w = q * (c - d) := by grind
    rw [this, Int.mul_emod_right]
  · intro h
    obtain ⟨d, hd⟩ := Int.dvd_of_emod_eq_zero h
    have : -1 * dot y w + q * c = q * (c - d) := by grind
    rw [this, Int.mul_emod_right]
/-- the rows in common -/
theorem low_iff (hp : OkP q) (hR : ∀ r ∈ R, Vec q n r) (hS : ∀ s ∈ S, Vec q n s) (hZ : Red q (n + n) Z) (nl : ∀ x, Nls q Z x ↔ Nls q (dbl n R S) x) {w : List Int} (hw : Vec q n w) : InS q n (lowR n Z) w ↔ InS q n R w ∧ InS q n S w := by
  have q1 := okp_b hp
  have q0 : 0 < q := by omega
  have lowz : ∀ y x, y.length = n → Nls q Z (y ++ x) → Nls q (lowR n Z) x := fun y x hy h c hc => by
    obtain ⟨z, hz, hl, rfl⟩ := low_mem.mp hc
    have := h z hz
    unfold Nl at this ⊢
    rwa [low_dot (hZ.vec z hz) hl hy] at this
  constructor
  · intro h
    refine ⟨fun x hx nx => ?_, fun y hy ny => ?_⟩
    · refine h x hx (lowz (Zr n) x (by simp [Zr]) ((nl _).mpr ((dbl_nls hR hS (by simp [Zr])).mpr ⟨fun r hr => ?_, fun s hs => ?_⟩)))
      · rw [dot_zr2]
        have := nx r hr
        unfold Nl at this
        simpa using this
      · unfold Nl
        rw [dot_zr2]
        simp
    · have vy := sclR_vec (f := -1) (show (0 : Int) < q by omega) hy
      have := h _ vy (lowz y _ hy.len ((nl _).mpr ((dbl_nls hR hS hy.len).mpr ⟨fun r hr => ?_, ny⟩)))
      · exact (neg_dot q w y).mp this
      · obtain ⟨c, hc⟩ := dot_scl (q : Int) (-1) (r := y) (x := r)
        rw [dot_comm r (sclR _ _ _), hc, dot_comm r y, show dot y r + (-1 * dot y r + q * c) = q * c by omega, Int.mul_emod_right]
  · rintro ⟨h1, h2⟩
    have vv : Vec q (n + n) (Zr n ++ w) := app_vec (zr_vec q0) hw
    have zl : (Zr n).length = n := by simp [Zr]
    have iz : InS q (n + n) Z (Zr n ++ w) := fun x hx nx => by
      have ex := (List.take_append_drop n x).symm
      have vy := take_vec hx
      have vz := drop_vec hx
      rw [ex] at nx ⊢
      obtain ⟨a1, a2⟩ := (dbl_nls hR hS vy.len).mp ((nl _).mp nx)
      have wy := h2 _ vy a2
      have vs := addR_vec (f := 1) (show (0 : Int) < q by omega) vy vz
      have ws := h1 _ vs fun r hr => by
        unfold Nl
        rw [dot_add2 vy.len vz.len]
        have := a1 r hr
        rwa [show dot r (x.take n) + 1 * dot r (x.drop n) = dot r (x.take n) + dot r (x.drop n) by omega]
      unfold Nl at wy ws ⊢
      rw [dot_add2 vy.len vz.len, show dot w (x.take n) + 1 * dot w (x.drop n) = dot w (x.take n) + dot w (x.drop n) by omega, Int.add_emod, wy, Int.zero_add, Int.emod_emod_of_dvd _ (Int.dvd_refl _)] at ws
      rw [dot_app _ _ (by rw [zl, vy.len]), dot_zr, Int.zero_add]
      exact ws
    have rz := (rest_iff (by omega) hZ vv).mpr iz
    rw [rest_flt (fun z => decide (n ≤ leadR z)) (by omega) hZ vv fun z hz hP => by
      have : leadR z < n := by simpa using hP
      rw [at_app1 (by rw [zl]; exact this), zr_at]] at rz
    have ifl := (rest_iff (by omega) (red_filter (fun z => decide (n ≤ leadR z)) hZ) vv).mp rz
    intro x hx nx
    have := ifl (Zr n ++ x) (app_vec (zr_vec q0) hx) fun z hz => by
      obtain ⟨mz, lz⟩ := List.mem_filter.mp hz
      have lz := of_decide_eq_true lz
      unfold Nl
      rw [low_dot (hZ.vec z mz) lz zl]
      exact nx _ (low_mem.mpr ⟨z, mz, lz, rfl⟩)
    unfold Nl at this ⊢
    rwa [dot_app _ _ rfl, dot_zr, Int.zero_add] at this
theorem top_iff (hp : OkP q) (hR : ∀ r ∈ R, Vec q n r) (hS : ∀ s ∈ S, Vec q n s) (hZ : Red q (n + n) Z) (nl : ∀ x, Nls q Z x ↔ Nls q (dbl n R S) x) {y : List Int} (hy : Vec q n y) : Nls q (topR n Z) y ↔ Nls q R y ∧ Nls q S y := by
  have e : Nls q Z (y ++ Zr n) ↔ Nls q (topR n Z) y := by
    constructor
    · intro h c hc
      obtain ⟨z, hz, hl, rfl⟩ := top_mem.mp hc
      have := h z hz
      unfold Nl at this ⊢
      rw [← List.take_append_drop n z, dot_app _ _ (by rw [(take_vec (hZ.vec z hz)).len, hy.len]), dot_zr2] at this
      simpa using this
    · intro h z hz
      by_cases hl : n ≤ leadR z
      · unfold Nl
        rw [low_dot (hZ.vec z hz) hl hy.len, dot_zr2]
        simp
      · have := h _ (top_mem.mpr ⟨z, hz, by omega, rfl⟩)
        unfold Nl at this ⊢
        rw [← List.take_append_drop n z, dot_app _ _ (by rw [(take_vec (hZ.vec z hz)).len, hy.len]), dot_zr2]
        simpa using this
  rw [← e, nl, dbl_nls hR hS hy.len]
  constructor
  · rintro ⟨h1, h2⟩
    refine ⟨fun r hr => ?_, h2⟩
    have := h1 r hr
    rw [dot_zr2] at this
    unfold Nl
    simpa using this
  · rintro ⟨h1, h2⟩
    refine ⟨fun r hr => ?_, h2⟩
    have := h1 r hr
    unfold Nl at this
    rw [dot_zr2]
    simpa using this
inductive Tri (q n : Nat) : List (List Int) → Prop
  | nil : Tri q n []
  | snoc {L : List (List Int)} {r : List Int} {j : Nat} (h : Tri q n L) (hr : Vec q n r) (hj : j < n) (h1 : at_ r j = 1) (hz : ∀ s ∈ L, at_ s j = 0) : Tri q n (L ++ [r])
theorem tri_len (hp : OkP q) {L : List (List Int)} (h : Tri q n L) : (∀ r ∈ L, Vec q n r) ∧ (spanL q n L).length = q ^ L.length := by
  have q1 := okp_b hp
  induction h with
  | nil => exact ⟨fun r hr => (by cases hr), by simp [spanL_nil]⟩
  | @snoc L r j h hr hj h1 hz ih =>
    obtain ⟨vl, ih⟩ := ih
    have vs := spanL_vec (show 0 < q by omega) L vl
    have nd := spanS_nd (show 1 < q by omega) hj vs hr h1 (span_at (by omega) (by omega) hj L vl hz) (srt_nodup (spanL_srt q n L))
    refine ⟨fun s hs => ?_, ?_⟩
    · rcases List.mem_append.mp hs with hs | hs
      · exact vl s hs
      · rw [List.mem_singleton.mp hs]
        exact hr
    · rw [spanL_app, sortT_len (d := n) (fun v hv => un_of (by omega) (spanS_vec (by omega) vs hr v hv)) nd, spanS_len, ih, List.length_append, List.length_singleton, Nat.pow_succ, Nat.mul_comm]
theorem tri_dbl (hp : OkP q) (hR : Red q n R) (hS : Red q n S) : Tri q (n + n) (S.map (fun s => s ++ Zr n) ++ R.map fun r => r ++ r) := by
  have q1 := okp_b hp
  have tS : Tri q (n + n) (S.map fun s => s ++ Zr n) := by
    refine rev_ind (P := fun S => Red (q : Int) n S → Tri q (n + n) (S.map fun s => s ++ Zr n)) (fun _ => .nil) (fun l a ih h => ?_) S hS
    have va := h.vec a (by simp)
    have la := h.ld a (by simp)
    rw [List.map_append]
    refine .snoc (j := leadR a) (ih (red_init h)) (app_vec va (zr_vec (by omega))) (by omega) (by rw [at_app1 (by rw [va.len]; exact la.1)]; exact la.2) fun s hs => ?_
    rw [List.mem_map] at hs
    obtain ⟨s', ms, rfl⟩ := hs
    rw [at_app1 (by rw [(h.vec s' (by simp [ms])).len]; exact la.1)]
    exact ((List.pairwise_append.mp h.ap).2.2 s' ms a (by simp)).2
  refine rev_ind (P := fun R => Red (q : Int) n R → Tri q (n + n) (S.map (fun s => s ++ Zr n) ++ R.map fun r => r ++ r)) (fun _ => by simpa using tS) (fun l a ih h => ?_) R hR
  have va := h.vec a (by simp)
  have la := h.ld a (by simp)
  rw [List.map_append, ← List.append_assoc]
  refine .snoc (j := n + leadR a) (ih (red_init h)) (app_vec va va) (by omega) (by rw [at_app2 va.len]; exact la.2) fun s hs => ?_
  rcases List.mem_append.mp hs with hs | hs
  · rw [List.mem_map] at hs
    obtain ⟨s', ms, rfl⟩ := hs
    rw [at_app2 (hS.vec s' ms).len, zr_at]
  · rw [List.mem_map] at hs
    obtain ⟨s', ms, rfl⟩ := hs
    rw [at_app2 (h.vec s' (by simp [ms])).len]
    exact ((List.pairwise_append.mp h.ap).2.2 s' ms a (by simp)).2
theorem pow_inj {q a b : Nat} (hq : 1 < q) (h : q ^ a = q ^ b) : a = b := (Nat.pow_right_inj hq).mp h
theorem red_same (hp : OkP q) {A B : List (List Int)} (hA : Red q n A) (hB : Red q n B) (h : ∀ x, Vec q n x → (Nls q A x ↔ Nls q B x)) : A.length = B.length := by
  have q1 := okp_b hp
  refine pow_inj (q := q) (by omega) ?_
  rw [← span_red hp A hA, ← span_red hp B hB, (nls_self hp hA.vec hB.vec).mpr h]
theorem dbl_len (hp : OkP q) (hR : Red q n R) (hS : Red q n S) (hZ : Red q (n + n) Z) (nl : ∀ x, Nls q Z x ↔ Nls q (dbl n R S) x) : Z.length = R.length + S.length := by
  have q1 := okp_b hp
  obtain ⟨tv, tl⟩ := tri_len hp (tri_dbl hp hR hS)
  refine pow_inj (q := q) (by omega) ?_
  rw [← span_red hp Z hZ, (nls_self hp hZ.vec tv).mpr fun x _ => ?_, tl]
  · simp [Nat.add_comm]
  · rw [nl]
    unfold Nls dbl
    constructor
    · intro h r hr
      rcases List.mem_append.mp hr with hr | hr
      · exact h r (List.mem_append_right _ hr)
      · exact h r (List.mem_append_left _ hr)
    · intro h r hr
      rcases List.mem_append.mp hr with hr | hr
      · exact h r (List.mem_append_right _ hr)
      · exact h r (List.mem_append_left _ hr)
end zas2
section draws
open LA
theorem factors_ok {m : Store} {n : Nat} {p : Int} {k : Nat} (h : SrcAt m n) (hp : 0 < p) (hp2 : p < 2 ^ 100) (hk : k ≤ 1000) :
    ∃ ns m', d_factors [.loc n, .int p, .int k] m = .ok (.tup (ils ns)) m' ∧ Chg n m m' ∧ ns.length = k ∧ rowsIn p ns := by
  have hi : iRg1 (aCons (eVar 2) aNil) [some (.loc n), some (.int p), some (.int k), none] m = .ok ⟨rngI 0 k, []⟩ m := iRg1_nat (by omega) (by simp)
  obtain ⟨rs, m', hc, c, al⟩ := eComp_chg (vs := [3]) (g := gNm 3) (elt := eCallB (callN 2 d_draw) (aCons (eVar 0) (aCons (eVar 1) aNil))) (P := fun _ r => ∃ i, r = D.int i ∧ (0 ≤ i ∧ i < p)) hi (Chg.refl h) h (by simp; omega) (fun d hd m h => by
    obtain ⟨r, m1, e, c, r0, r1⟩ := draw_ok h hp hp2
    exact ⟨_, _, m1, rfl, by simp [wipeD, e], c, r, rfl, r0, r1⟩)
  obtain ⟨is, rfl, al2⟩ := al.ints
  have hl := al2.len
  simp only [rng_len] at hl
  refine ⟨is, m', fn_chg0 ?_ c, c, hl, fun x hx => ?_⟩
  · have hc' : c_factors_1 [some (.loc n), some (.int p), some (.int k), none] m = .ok (.lst (ils is)) m' := hc
    have : is.length ≤ 100000 := by omega
    simp [b_factors, startD, hc', this]
  · obtain ⟨_, _, q⟩ := al2.mem hx
    exact q
theorem sums_ok {m : Store} {n : Nat} {p : Int} {k most : Nat} (h : SrcAt m n) (hp : 0 < p) (hp2 : p < 2 ^ 100) (hk : k ≤ 1000) (hm : most ≤ 60) :
    ∃ R m', d_sums [.loc n, .int p, .int k, .int most] m = .ok (.lst (tps R)) m' ∧ Chg n m m' ∧ R.length ≤ most ∧ ∀ r ∈ R, Vec p k r := by
  obtain ⟨a, m1, e1, c1, r0, r1⟩ := draw_ok (k := (most : Int) + 1) h (by omega) (by omega)
  have h1 := c1.src h
  obtain ⟨s, rfl⟩ : ∃ s : Nat, a = s := ⟨a.toNat, by omega⟩
  have hi : iRg1 (aCons (eCallB (callN 2 d_draw) (aCons (eVar 0) (aCons (eOp addD (eVar 3) (eC (.int 1))) aNil))) aNil) [some (.loc n), some (.int p), some (.int k), some (.int most), none] m = .ok ⟨rngI 0 s, []⟩ m1 := iRg1_nat (by omega) (by simp [e1])
  obtain ⟨rs, m', hc, c, al⟩ := eComp_chg (vs := [4]) (g := gNm 4) (elt := eCallB (callN 3 d_factors) (aCons (eVar 0) (aCons (eVar 1) (aCons (eVar 2) aNil)))) (P := fun _ r => ∃ ns, r = D.tup (ils ns) ∧ (ns.length = k ∧ rowsIn p ns)) hi c1 h (by simp; omega) (fun d hd m h => by
    obtain ⟨ns, m1, e, c, q⟩ := factors_ok h hp hp2 hk
    exact ⟨_, _, m1, rfl, by simp [wipeD, e], c, ns, rfl, q⟩)
  obtain ⟨is, rfl, al2⟩ := al.sk
  have hl := al2.len
  simp only [rng_len] at hl
  refine ⟨is, m', fn_chg0 ?_ c, c, by omega, fun x hx => ?_⟩
  · have hc' : c_sums_1 [some (.loc n), some (.int p), some (.int k), some (.int most), none] m = .ok (.lst (tps is)) m' := hc
    simp [b_sums, startD, hc']
  · obtain ⟨_, _, q⟩ := al2.mem hx
    exact ⟨q.1, q.2⟩
variable {q n : Nat}
theorem made_ok {rows : List (List Int)} (fm : Fm q n) (hv : ∀ r ∈ rows, Vec q n r) (hl : rows.length ≤ 80) (m : Store) : ∃ R, d_made [.int q, .int n, .lst (tps rows)] m = .ok (Sp q n R) m ∧ Red q n R ∧ Srt R ∧ ∀ x, Nls q R x ↔ Nls q rows x := by
  obtain ⟨R, e, rd, so, nl⟩ := space_ok fm hv hl m
  refine ⟨R, fn_pure ?_, rd, so, nl⟩
  have c : c_made_1 [some (.int q), some (.int n), some (.lst (tps rows)), none] m = .ok (.lst (rows.map (Sm q))) m := by
    refine eComp_on (h := fun r => D.tup (ils r)) (f := Sm q) (by simp [tps]) (by omega) fun r hr => ⟨_, rfl, ?_⟩
    have z := sum_ok fm (hv r hr) m
    simp [wipeD, z]
  simp [b_made, startD, c, e]
/-- the sums of a cell: their space, their span -/
structure Made (q n : Nat) (rows R : List (List Int)) : Prop where
  vec : ∀ r ∈ rows, Vec q n r
  rd : Red q n R
  so : Srt R
  nl : ∀ x, Nls q R x ↔ Nls q rows x
theorem Made.span (hp : OkP q) {rows R : List (List Int)} (h : Made q n rows R) : spanL q n rows = spanL q n R := (nls_self hp h.vec h.rd.vec).mpr fun x _ => (h.nl x).symm
theorem made_iff (hp : OkP q) {rows R rows' R' : List (List Int)} (h : Made q n rows R) (h' : Made q n rows' R') : R = R' ↔ spanL q n rows' = spanL q n rows := by
  rw [nls_self hp h'.vec h.vec]
  constructor
  · rintro rfl x _
    rw [← h.nl, ← h'.nl]
  · intro z
    exact rref_uni (okp_b hp).1 h.rd h'.rd h.so h'.so fun x hx => by rw [h.nl, h'.nl, z x hx]
end draws
section orand
open LA
variable {q n : Nat} {R S : List (List Int)}
theorem expr_of {a : DEnv → DL.M D} {e : DEnv} {m : Store} {d : D} (h : a e m = .ok d m) : sExpr a e m = .ok (.nx e) m := by rw [sExpr_ap, h]; rfl
theorem spq (R : List (List Int)) (m : Store) : attrD [(0, .prop d_Sum_prime), (1, .prop d_Space_prime)] (Sp q n R) m = .ok (.int q) m := at_prop (den := d_Space_prime) (fn_pure rfl) rfl
theorem spn (R : List (List Int)) (m : Store) : attrD [(0, .prop d_Sum_size), (1, .prop d_Space_size)] (Sp q n R) m = .ok (.int n) m := at_prop (den := d_Space_size) (fn_pure rfl) rfl
theorem sreq_ok (R S : List (List Int)) (m : Store) : d_Space_require [Sp q n R, Sp q n S] m = .ok .non m := by
  have i1 : isiD [0, 1] (.cls 1) (Sp q n S) m = .ok (.bl true) m := rfl
  refine fn_pureN (e := [some (Sp q n R), some (Sp q n S)]) ?_
  simp [b_Space_require, startD, i1, spq, spn, pa1, pa2]
theorem meth_req (R S : List (List Int)) (e : DEnv) (m : Store) (h0 : e[0]? = some (some (Sp q n R))) (h1 : e[1]? = some (some (Sp q n S))) : eMeth [(1, 2, d_Space_require)] (eVar 0) (aCons (eVar 1) aNil) e m = .ok .non m := by
  have cl : clsM (Sp q n R) m = .ok 1 m := rfl
  have mm : methOf [(1, 2, d_Space_require)] 1 m = .ok (2, d_Space_require) m := rfl
  rw [eMeth_ap, eVar_ap, getv_some m h0, thn_ok, cl, thn_ok, mm, thn_ok, aCons_ap, eVar_ap, getv_some m h1, thn_ok, aNil_ap, thn_ok, thn_ok]
  exact (callN_ap m _ rfl).trans (sreq_ok R S m)
theorem or_ok (fm : Fm q n) (hR : Red q n R) (hS : Red q n S) (m : Store) : ∃ B, d_Space_or [Sp q n R, Sp q n S] m = .ok (Sp q n B) m ∧ Made q n (R ++ S) B := by
  have s6 := fm.s6
  have lR := red_len hR
  have lS := red_len hS
  have hv : ∀ r ∈ R ++ S, Vec q n r := fun r hr => by
    rcases List.mem_append.mp hr with hr | hr
    · exact hR.vec r hr
    · exact hS.vec r hr
  obtain ⟨B, e, rd, so, nl⟩ := space_ok fm hv (by simp; omega) m
  refine ⟨B, fn_pure ?_, hv, rd, so, nl⟩
  have rq := meth_req R S [some (Sp q n R), some (Sp q n S)] m rfl rfl
  have ls : eLst (aStar (eUn (attrD [(1, .slot 0)]) (eVar 0)) (aStar (eUn (attrD [(1, .slot 0)]) (eVar 1)) aNil)) [some (Sp q n R), some (Sp q n S)] m = .ok (.lst ((R ++ S).map (Sm q))) m := by
    have st : ∀ ds (m : Store), starD (.lst ds) m = .ok ds m := fun _ _ => rfl
    have lz : R.length + S.length ≤ 100000 := by omega
    simp [aStar, pa0, st, lz]
  refine sq_of (e1 := [some (Sp q n R), some (Sp q n S)]) (m1 := m) ?_ ?_
  · exact expr_of rq
  · show sRet _ _ _ = _
    rw [sRet_ap, eCallB_ap, aCons_ap, eUn_ap, eVar_ap, getv_some m (d := Sp q n R) rfl, thn_ok, pa1, thn_ok, aCons_ap, eUn_ap, eVar_ap, getv_some m (d := Sp q n R) rfl, thn_ok, pa2, thn_ok, aCons_ap, ls]
    simp only [thn_ok, aNil_ap, e]
theorem and_ok (fm : Fm q n) (hR : Red q n R) (hS : Red q n S) (m : Store) : ∃ L T, d_Space_and [Sp q n R, Sp q n S] m = .ok (Sp q n T) m ∧ Made q n L T ∧ (∀ w, w ∈ spanL q n L ↔ w ∈ spanL q n R ∧ w ∈ spanL q n S) ∧ ∀ B, Made q n (R ++ S) B → B.length + T.length = R.length + S.length := by
  have s6 := fm.s6
  have s1 := fm.s1
  have hp := fm.okp
  have q1 := okp_b hp
  have lR := red_len hR
  have lS := red_len hS
  obtain ⟨Z, ez, rz, sz, nz⟩ := reduced_ok (rows := dbl n R S) (n := n + n) hp (dbl_vec (by omega) hR.vec hS.vec) (by omega) (by simp [dbl]; omega) m
  have lZ := red_len rz
  have rl := low_red rz
  have ll := red_len rl
  obtain ⟨T, eT, rdT, soT, nlT⟩ := space_ok fm rl.vec (by omega) m
  have mT : Made q n (lowR n Z) T := ⟨rl.vec, rdT, soT, nlT⟩
  refine ⟨lowR n Z, T, fn_pure ?_, mT, fun w => ?_, fun B mB => ?_⟩
  · have rq := meth_req R S [some (Sp q n R), some (Sp q n S), none, none, none, none] m rfl rfl
    have mt := mul_tupk (k := n) s1 (by omega) (.int 0) m
    rw [ils_rep] at mt
    have c1 : c_Space_and_1 [some (Sp q n R), some (Sp q n S), some (.tup (ils (Zr n))), none, none, none] m = .ok (.lst (tps (R.map fun r => r ++ r))) m := by
      have e : tps (R.map fun r => r ++ r) = R.map fun r => D.tup (ils (r ++ r)) := by simp [tps]
      rw [e]
      refine eComp_on (h := fun r => D.tup (ils r)) (by simp [pa3, tps]) (by omega) fun r hr => ⟨_, rfl, ?_⟩
      have := (hR.vec r hr).len
      simp [wipeD, ils]
      omega
    have c2 : c_Space_and_2 [some (Sp q n R), some (Sp q n S), some (.tup (ils (Zr n))), none, none, none] m = .ok (.lst (tps (S.map fun s => s ++ Zr n))) m := by
      have e : tps (S.map fun s => s ++ Zr n) = S.map fun s => D.tup (ils (s ++ Zr n)) := by simp [tps]
      rw [e]
      refine eComp_on (h := fun r => D.tup (ils r)) (by simp [pa3, tps]) (by omega) fun s hs => ⟨_, rfl, ?_⟩
      have := (hS.vec s hs).len
      simp [wipeD, ils, Zr]
      omega
    have c3 : c_Space_and_3 [some (Sp q n R), some (Sp q n S), some (.tup (ils (Zr n))), some (.lst (tps (dbl n R S))), none, none] m = .ok (.lst (tps (lowR n Z))) m := by
      have e : tps (lowR n Z) = (Z.filter fun z => decide (n ≤ leadR z)).map fun z => D.tup (ils (z.drop n)) := by simp [tps, lowR]
      rw [e]
      refine eComp_flt (h := fun r => D.tup (ils r)) (by simp [pa1, ez]; rfl) (by omega) fun z hz => ⟨_, rfl, ?_, fun hP => ?_⟩
      · have vz := rz.vec z hz
        have ld := lead_ok (r := z) (by rw [vz.len]; omega) m
        simp [wipeD, ld, pa2]
      · have ct : cutD (ils z) (some (n : Int)) none = ils (z.drop n) := by rw [cut_from]; simp [ils, List.map_drop]
        have ps : ∀ e, e[0]? = some (some (Sp q n R)) → pSome (eUn (attrD [(1, .slot 2)]) (eVar 0)) e m = .ok (some (n : Int)) m := fun e h => pSome_int _ _ (by rw [eUn_ap, eVar_ap, getv_some m h, thn_ok, pa2])
        have p0 := ps (wipeD [some (Sp q n R), some (Sp q n S), some (.tup (ils (Zr n))), some (.lst (tps (dbl n R S))), none, none] [5] |>.set 5 (some (.tup (ils z)))) rfl
        show eSlice _ _ _ _ _ = _
        simp [wipeD] at p0 ⊢
        simp [p0, ct]
    have c4 : c_Space_and_4 [some (Sp q n R), some (Sp q n S), some (.tup (ils (Zr n))), some (.lst (tps (dbl n R S))), some (.lst (tps (lowR n Z))), none] m = .ok (.lst ((lowR n Z).map (Sm q))) m := by
      refine eComp_on (h := fun r => D.tup (ils r)) (f := Sm q) (by simp [tps]) (by omega) fun r hr => ⟨_, rfl, ?_⟩
      have z := sum_ok fm (rl.vec r hr) m
      simp [wipeD, pa1, z]
    refine sq_of (e1 := [some (Sp q n R), some (Sp q n S), none, none, none, none]) (m1 := m) ?_ ?_
    · exact expr_of rq
    refine sq_of (e1 := [some (Sp q n R), some (Sp q n S), some (.tup (ils (Zr n))), none, none, none]) (m1 := m) (by simp [pa2, mt, Zr]) ?_
    refine sq_of (e1 := [some (Sp q n R), some (Sp q n S), some (.tup (ils (Zr n))), some (.lst (tps (dbl n R S))), none, none]) (m1 := m) (by
      have ap : tps (R.map fun r => r ++ r) ++ tps (S.map fun s => s ++ Zr n) = tps (dbl n R S) := by simp [tps, dbl]
      have al : (tps (dbl n R S)).length ≤ 100000 := by simp [dbl]; omega
      generalize (R.map fun r => r ++ r) = A at *
      generalize (S.map fun s => s ++ Zr n) = A' at *
      simp only [sSet_ap, eOp_ap, c1, c2, thn_ok, add_lst, ap, mkL_ap, al, if_true]
      rfl) ?_
    refine sq_of (e1 := [some (Sp q n R), some (Sp q n S), some (.tup (ils (Zr n))), some (.lst (tps (dbl n R S))), some (.lst (tps (lowR n Z))), none]) (m1 := m) (by simp [c3]) ?_
    simp [pa1, pa2, c4, eT]
  · have hl := low_iff hp hR.vec hS.vec rz nz (w := w)
    rw [spanL_iff hp _ rl.vec, spanL_iff hp R hR.vec, spanL_iff hp S hS.vec]
    constructor
    · rintro ⟨hw, h⟩
      obtain ⟨a, b⟩ := (hl hw).mp h
      exact ⟨⟨hw, a⟩, hw, b⟩
    · rintro ⟨⟨hw, a⟩, _, b⟩
      exact ⟨hw, (hl hw).mpr ⟨a, b⟩⟩
  · have e1 := dbl_len hp hR hS rz nz
    have e2 := top_low_len n Z
    have e3 : T.length = (lowR n Z).length := red_same hp rdT rl fun x _ => nlT x
    have e4 : B.length = (topR n Z).length := red_same hp mB.rd (top_red rz) fun x hx => by
      rw [mB.nl, top_iff hp hR.vec hS.vec rz nz hx]
      unfold Nls
      exact ⟨fun h => ⟨fun r hr => h r (List.mem_append_left _ hr), fun r hr => h r (List.mem_append_right _ hr)⟩, fun h r hr => by
        rcases List.mem_append.mp hr with hr | hr
        · exact h.1 r hr
        · exact h.2 r hr⟩
    omega
theorem within_ok (hp : OkP q) (hn : n ≤ 90) (hR : Red q n R) (hS : Red q n S) (m : Store) : d_Space_within [Sp q n R, Sp q n S] m = .ok (.bl (R.all fun r => decide (r ∈ spanL q n S))) m := by
  have lR := red_len hR
  refine fn_pure ?_
  have rq := meth_req R S [some (Sp q n R), some (Sp q n S), none] m rfl rfl
  have c1 : c_Space_within_1 [some (Sp q n R), some (Sp q n S), none] m = .ok (.lst ((R.map fun r => decide (r ∈ spanL q n S)).map D.bl)) m := by
    have e : (R.map fun r => decide (r ∈ spanL q n S)).map D.bl = R.map fun r => D.bl (decide (r ∈ spanL q n S)) := by simp
    rw [e]
    refine eComp_on (h := fun r => D.tup (ils r)) (by simp [pa3, tps]) (by omega) fun r hr => ⟨_, rfl, ?_⟩
    have vr := hR.vec r hr
    have hb := has_row_ok hp hS vr hn m
    have e : zeroB (restR q r S) = decide (r ∈ spanL q n S) := by
      rw [Bool.eq_iff_iff, zero_any, decide_eq_true_eq, rest_iff (okp_b hp).1 hS vr, spanL_iff hp S hS.vec]
      exact ⟨fun z => ⟨vr, z⟩, fun z => z.2⟩
    rw [e] at hb
    simp [wipeD, pa1, pa3, hb]
  have al := all_bls (R.map fun r => decide (r ∈ spanL q n S)) m
  refine sq_of (e1 := [some (Sp q n R), some (Sp q n S), none]) (m1 := m) ?_ ?_
  · exact expr_of rq
  · show sRet _ _ _ = _
    simp only [sRet_ap, eCallB_ap, aCons_ap, c1, thn_ok, aNil_ap, al]
    rw [List.all_map]
    rfl
abbrev tL : MTab := [(1, 1, d_Space_len)]
theorem ownLen_lst (ds : List D) (m : Store) : ownLen tL [.lst ds] m = .ok (.int ds.length) m := rfl
theorem ownLen_Sp (p : Int) (h : R.length ≤ 90) (m : Store) : ownLen tL [Sp p n R] m = .ok (.int R.length) m := by
  have l : d_Space_len [Sp p n R] m = .ok (.int R.length) m := fn_pure (by simp [b_Space_len, startD, pa3])
  show (callN 1 d_Space_len [Sp p n R] >>= lenBk) m = _
  have z : callN 1 d_Space_len [Sp p n R] m = .ok (.int R.length) m := (callN_ap m _ rfl).trans l
  rw [bind_ap, z]
  simp only [thn_ok, lenBk]
  rw [if_pos (by omega)]
  rfl
end orand
section l05
open LA
variable {q n : Nat}
theorem sp_eq (hp : OkP q) {LA' LB A B : List (List Int)} (mA : Made q n LA' A) (mB : Made q n LB B) (h : ∀ v, v ∈ spanL q n LA' ↔ v ∈ spanL q n LB) : A = B := (made_iff hp mA mB).mpr (codU (spanL_srt q n LB) (spanL_srt q n LA') fun v => (h v).symm)
theorem span_idem (hp : OkP q) {L : List (List Int)} (hL : ∀ r ∈ L, Vec q n r) : spanL q n (spanL q n L) = spanL q n L := by
  have q1 := okp_b hp
  refine (nls_self hp (spanL_vec (by omega) L hL) hL).mpr fun x hx => ⟨fun h r hr => h r ((spanL_iff hp L hL r).mpr ⟨hL r hr, fun x _ nx => nx r hr⟩), fun h v hv => ((spanL_iff hp L hL v).mp hv).2 x hx h⟩
theorem span_app (hp : OkP q) {A B A' B' : List (List Int)} (hA : ∀ r ∈ A, Vec q n r) (hB : ∀ r ∈ B, Vec q n r) (hA' : ∀ r ∈ A', Vec q n r) (hB' : ∀ r ∈ B', Vec q n r) (h1 : ∀ x, Nls q A x ↔ Nls q A' x) (h2 : ∀ x, Nls q B x ↔ Nls q B' x) : spanL q n (A ++ B) = spanL q n (A' ++ B') := by
  have sp : ∀ (C D : List (List Int)) x, Nls q (C ++ D) x ↔ Nls q C x ∧ Nls q D x := fun C D x => ⟨fun h => ⟨fun r hr => h r (List.mem_append_left _ hr), fun r hr => h r (List.mem_append_right _ hr)⟩, fun h r hr => by
    rcases List.mem_append.mp hr with hr | hr
    · exact h.1 r hr
    · exact h.2 r hr⟩
  have vc : ∀ {C D : List (List Int)}, (∀ r ∈ C, Vec (q : Int) n r) → (∀ r ∈ D, Vec (q : Int) n r) → ∀ r ∈ C ++ D, Vec (q : Int) n r := fun hc hd r hr => by
    rcases List.mem_append.mp hr with hr | hr
    · exact hc r hr
    · exact hd r hr
  refine (nls_self hp (vc hA hB) (vc hA' hB')).mpr fun x _ => by rw [sp, sp, h1, h2]
theorem self_in (hp : OkP q) {L : List (List Int)} (hL : ∀ r ∈ L, Vec q n r) : ∀ r ∈ L, r ∈ spanL q n L := fun r hr => (spanL_iff hp L hL r).mpr ⟨hL r hr, fun _ _ nx => nx r hr⟩
theorem all_span (hp : OkP q) {R S : List (List Int)} (hR : ∀ r ∈ R, Vec q n r) (hS : ∀ r ∈ S, Vec q n r) : (spanL q n R).all (fun v => decide (v ∈ spanL q n S)) = R.all fun r => decide (r ∈ spanL q n S) := by
  rw [Bool.eq_iff_iff, List.all_eq_true, List.all_eq_true]
  constructor
  · intro h r hr
    exact h r (self_in hp hR r hr)
  · intro h v hv
    obtain ⟨vv, iv⟩ := (spanL_iff hp R hR v).mp hv
    refine decide_eq_true ((spanL_iff hp S hS v).mpr ⟨vv, fun x hx nx => iv x hx fun r hr => ?_⟩)
    exact ((spanL_iff hp S hS r).mp (of_decide_eq_true (h r hr))).2 x hx nx
abbrev E16 (x0 x1 x2 x3 x4 x5 x6 x7 x8 x9 x10 x11 x12 x13 x14 x15 : Option D) : DEnv := [x0, x1, x2, x3, x4, x5, x6, x7, x8, x9, x10, x11, x12, x13, x14, x15]
theorem ownB_or {R S B : List (List Int)} {m : Store} (h : d_Space_or [Sp q n R, Sp q n S] m = .ok (Sp q n B) m) : ownB [(1, 2, d_Space_or)] badB (Sp q n R) (Sp q n S) m = .ok (Sp q n B) m := (callN_ap m _ rfl).trans h
theorem ownB_and {R S B : List (List Int)} {m : Store} (h : d_Space_and [Sp q n R, Sp q n S] m = .ok (Sp q n B) m) : ownB [(1, 2, d_Space_and)] badB (Sp q n R) (Sp q n S) m = .ok (Sp q n B) m := (callN_ap m _ rfl).trans h
theorem law_1 {LB LC B C E F G : List (List Int)} (fm : Fm q n) (hq7 : q ≤ 7) (h49 : q ^ n ≤ 49) (mB : Made q n LB B) (mC : Made q n LC C) (hB : ∀ v, v ∈ spanL q n LB ↔ v ∈ E) (hC : ∀ v, v ∈ spanL q n LC ↔ v ∈ F ∧ v ∈ G) (x0 x1 x2 x4 x7 x8 x9 x10 x15 : Option D) (m : Store) :
    ∃ y4 y15, l_law_1 (E16 x0 x1 x2 (some (.lst (tps E))) x4 (some (.int q)) (some (.int n)) x7 x8 x9 x10 (some (.lst (tps F))) (some (.lst (tps G))) (some (Sp q n B)) (some (Sp q n C)) x15) m = .ok (.nx (E16 x0 x1 x2 (some (.lst (tps E))) y4 (some (.int q)) (some (.int n)) x7 x8 x9 x10 (some (.lst (tps F))) (some (.lst (tps G))) (some (Sp q n B)) (some (Sp q n C)) y15)) m := by
  have s6 := fm.s6
  have q1 := okp_b fm.okp
  have ad := all_data_ok (p := q) (s := n) (by omega) (by omega) hq7 s6 m
  have hit : iSeqD (eCallB (callN 2 d_all_data) (aCons (eVar 5) (aCons (eVar 6) aNil))) (E16 x0 x1 x2 (some (.lst (tps E))) x4 (some (.int q)) (some (.int n)) x7 x8 x9 x10 (some (.lst (tps F))) (some (.lst (tps G))) (some (Sp q n B)) (some (Sp q n C)) x15) m = .ok ⟨tps (allDt q n), []⟩ m := by simp [ad]
  obtain ⟨e', m', h1, ⟨y4, y15, rfl⟩, rfl⟩ := forL_chg (src := tps (allDt q n)) (g := gNm 4) (b := lb_law_1) (fun i e s => (∃ y4 y15, e = E16 x0 x1 x2 (some (.lst (tps E))) y4 (some (.int q)) (some (.int n)) x7 x8 x9 x10 (some (.lst (tps F))) (some (.lst (tps G))) (some (Sp q n B)) (some (Sp q n C)) y15) ∧ s = m) (tps (allDt q n)) (E16 x0 x1 x2 (some (.lst (tps E))) x4 (some (.int q)) (some (.int n)) x7 x8 x9 x10 (some (.lst (tps F))) (some (.lst (tps G))) (some (Sp q n B)) (some (Sp q n C)) x15) m ⟨⟨_, _, rfl⟩, rfl⟩ (by
    rintro i d e s hi ⟨⟨y4, y15, rfl⟩, rfl⟩
    rw [tps_get, Option.map_eq_some_iff] at hi
    obtain ⟨v, hv, rfl⟩ := hi
    have vv := allDt_vec.mp (List.mem_of_getElem? hv)
    refine ⟨_, _, _, _, rfl, .inl ?_, ⟨some (.tup (ils v)), some (Sm q v), rfl⟩, rfl⟩
    have z := sum_ok fm vv s
    have oB := ownIn_sp (contains_ok fm.okp mB.rd mB.vec mB.nl vv (by omega) s)
    have oC := ownIn_sp (contains_ok fm.okp mC.rd mC.vec mC.nl vv (by omega) s)
    have oE : ownIn tCn false (.tup (ils v)) (.lst (tps E)) s = .ok (.bl (decide (v ∈ E))) s := in_tpsL v E s
    have oF : ownIn tCn false (.tup (ils v)) (.lst (tps F)) s = .ok (.bl (decide (v ∈ F))) s := in_tpsL v F s
    have oG : ownIn tCn false (.tup (ils v)) (.lst (tps G)) s = .ok (.bl (decide (v ∈ G))) s := in_tpsL v G s
    have eB : decide (v ∈ spanL q n LB) = decide (v ∈ E) := by
      rw [Bool.eq_iff_iff, decide_eq_true_eq, decide_eq_true_eq]
      exact hB v
    have eC : decide (v ∈ spanL q n LC) = (decide (v ∈ F) && decide (v ∈ G)) := by
      rw [Bool.eq_iff_iff, Bool.and_eq_true_iff, decide_eq_true_eq, decide_eq_true_eq, decide_eq_true_eq]
      exact hC v
    rw [eB] at oB
    rw [eC] at oC
    generalize decide (v ∈ E) = b at oB oE
    generalize decide (v ∈ F) = c at oC oF
    generalize decide (v ∈ G) = d at oC oG
    have ne : ∀ b, ownE [0, 1] tE true neD (.bl b) (.bl b) s = .ok (.bl false) s := fun b => by rw [ownE_bl]; cases b <;> rfl
    show lb_law_1 (E16 x0 x1 x2 (some (.lst (tps E))) (some (.tup (ils v))) (some (.int q)) (some (.int n)) x7 x8 x9 x10 (some (.lst (tps F))) (some (.lst (tps G))) (some (Sp q n B)) (some (Sp q n C)) y15) s = _
    refine sq_of (e1 := E16 x0 x1 x2 (some (.lst (tps E))) (some (.tup (ils v))) (some (.int q)) (some (.int n)) x7 x8 x9 x10 (some (.lst (tps F))) (some (.lst (tps G))) (some (Sp q n B)) (some (Sp q n C)) (some (Sm q v))) (m1 := s) (by simp [z]) ?_
    cases c
    · simp only [Bool.false_and] at oC
      simp [oB, oC, oE, oF, oG, ne]
    · simp only [Bool.true_and] at oC
      simp [oB, oC, oE, oF, oG, ne])
  exact ⟨y4, y15, fr_of hit h1⟩
theorem oth_ok {p : Int} {k : Nat} {rows others : List (List Int)} {a : Nat} {m : Store} (h : SrcAt m a) (hp : 0 < p) (hp2 : p < 2 ^ 100) (hk : k ≤ 1000) (hr : ∀ r ∈ rows, Vec p k r) (lr : rows.length ≤ 4) (ho : ∀ r ∈ others, Vec p k r) (lo : others.length ≤ 4) (x0 x1 x3 x4 x9 x10 x11 x12 x13 x14 x15 : Option D) :
    ∃ os m', sIf (tB' (eOp (ownE [0, 1] tE false eqD) (eCallB (callN 2 d_draw) (aCons (eVar 2) (aCons (eC (.int 3)) aNil))) (eC (.int 0)))) (sSet 8 (eOp addD (eCallB (callN 4 d_sums) (aCons (eVar 2) (aCons (eVar 5) (aCons (eVar 6) (aCons (eC (.int 1)) aNil))))) (eSlice (eVar 7) (pSome (eC (.int 1))) pNone))) sNil (E16 x0 x1 (some (.loc a)) x3 x4 (some (.int p)) (some (.int k)) (some (.lst (tps rows))) (some (.lst (tps others))) x9 x10 x11 x12 x13 x14 x15) m
      = .ok (.nx (E16 x0 x1 (some (.loc a)) x3 x4 (some (.int p)) (some (.int k)) (some (.lst (tps rows))) (some (.lst (tps os))) x9 x10 x11 x12 x13 x14 x15)) m' ∧ Chg a m m' ∧ os.length ≤ 6 ∧ ∀ r ∈ os, Vec p k r := by
  obtain ⟨d, m1, e1, c1, r0, r1⟩ := draw_ok (k := 3) h (by decide) (by decide)
  have h1 := c1.src h
  have oq : ownE [0, 1] tE false eqD (.int d) (.int 0) m1 = .ok (.bl (d == 0)) m1 := by rw [ownE_int]; simp
  by_cases hd : d = 0
  · subst hd
    obtain ⟨os, m2, e2, c2, l2, v2⟩ := sums_ok (k := k) (most := 1) h1 hp hp2 hk (by decide)
    have e2' : d_sums [.loc a, .int p, .int k, .int 1] m1 = .ok (.lst (tps os)) m2 := e2
    have ct : cutD (tps rows) (some ((1 : Nat) : Int)) none = tps (rows.drop 1) := by rw [cut_from]; simp [tps, List.map_drop]
    have ps : ∀ e m, pSome (eC (.int 1)) e m = .ok (some ((1 : Nat) : Int)) m := fun e m => pSome_int _ _ (by simp)
    simp only [Int.natCast_one] at ct ps
    have ap : tps os ++ tps (rows.drop 1) = tps (os ++ rows.drop 1) := by simp [tps]
    have al : os.length + (rows.length - 1) ≤ 100000 := by omega
    refine ⟨os ++ rows.drop 1, m2, ?_, c1.trans c2, by simp; omega, fun r hr' => ?_⟩
    · simp [e1, oq, e2', ps, ct, ap, al]
    · rcases List.mem_append.mp hr' with z | z
      · exact v2 r z
      · exact hr r (List.mem_of_mem_drop z)
  · refine ⟨others, m1, ?_, c1, by omega, ho⟩
    simp [e1, oq, hd]
end l05
section l05b
open LA
theorem sq_if {t : DEnv → M Bool} {a : DEnv → M Out} {e : DEnv} {m : Store} (h : t e m = .ok false m) : sIf t a sNil e m = .ok (.nx e) m := by
  rw [sIf_ap, h]
  rfl
theorem meth_within {q n : Nat} {R S : List (List Int)} {b : Bool} {i j : Nat} {e : DEnv} {m : Store} (h : d_Space_within [Sp q n R, Sp q n S] m = .ok (.bl b) m) (h0 : e[i]? = some (some (Sp q n R))) (h1 : e[j]? = some (some (Sp q n S))) : eMeth [(1, 2, d_Space_within)] (eVar i) (aCons (eVar j) aNil) e m = .ok (.bl b) m := by
  have cl : clsM (Sp q n R) m = .ok 1 m := rfl
  have mm : methOf [(1, 2, d_Space_within)] 1 m = .ok (2, d_Space_within) m := rfl
  rw [eMeth_ap, eVar_ap, getv_some m h0, thn_ok, cl, thn_ok, mm, thn_ok, aCons_ap, eVar_ap, getv_some m h1, thn_ok, aNil_ap, thn_ok, thn_ok]
  exact (callN_ap m _ rfl).trans h
theorem turn_ok {ns : List Int} {t : Nat} {m : Store} {x2 x3 x4 x5 x6 x7 x8 x9 x10 x11 x12 x13 x14 x15 : Option D} : ∃ y2 y3 y4 y5 y6 y7 y8 y9 y10 y11 y12 y13 y14 y15 m', lb_law_2 (E16 (some (.lst (ils ns))) (some (.int t)) x2 x3 x4 x5 x6 x7 x8 x9 x10 x11 x12 x13 x14 x15) m = .ok (.nx (E16 (some (.lst (ils ns))) (some (.int t)) y2 y3 y4 y5 y6 y7 y8 y9 y10 y11 y12 y13 y14 y15)) m' := by
  obtain ⟨a, b, e0⟩ := source_ok (m := m) (ns := ns) (t := t)
  have h0 := src_new m a b
  generalize m ++ [some (Cell.lst [.int a, .int b])] = M at e0 h0
  obtain ⟨p, n, m1, e1, c1, fm, h49⟩ := form_ok h0
  have h1 := c1.src h0
  obtain ⟨q, rfl⟩ : ∃ q : Nat, p = q := ⟨p.toNat, by have := okp_b fm.okp; omega⟩
  have hp := fm.okp
  have q1 := okp_b fm.okp
  have h49' : q ^ n ≤ 49 := by
    rw [← Int.natCast_pow] at h49
    omega
  have hq7 : q ≤ 7 := by rcases fm.okp with h | h | h | h <;> omega
  have s6 := fm.s6
  have s1 := fm.s1
  obtain ⟨rows, m2, e2, c2, l5, v5⟩ := sums_ok (p := q) (k := n) (most := 4) h1 (by omega) (by omega) (by omega) (by decide)
  have h2 := c2.src h1
  obtain ⟨oth0, m3, e3, c3, l3, v3⟩ := sums_ok (p := q) (k := n) (most := 4) h2 (by omega) (by omega) (by omega) (by decide)
  have h3 := c3.src h2
  obtain ⟨others, m4, e4, c4, l4, v4⟩ := oth_ok (p := q) (k := n) h3 (by omega) (by omega) (by omega) v5 l5 v3 l3 (some (.lst (ils ns))) (some (.int t)) x3 x4 x9 x10 x11 x12 x13 x14 x15
  obtain ⟨R, eR, rd, so, nl⟩ := made_ok fm v5 (by omega) m4
  obtain ⟨S, eS, rdS, soS, nlS⟩ := made_ok fm v4 (by omega) m4
  have mR : Made q n rows R := ⟨v5, rd, so, nl⟩
  have mS : Made q n others S := ⟨v4, rdS, soS, nlS⟩
  have mRR : Made q n R R := ⟨rd.vec, rd, so, fun _ => Iff.rfl⟩
  have mSS : Made q n S S := ⟨rdS.vec, rdS, soS, fun _ => Iff.rfl⟩
  have lR := red_len rd
  have lS := red_len rdS
  have spR := span_ok hp v5 ⟨s1, by omega⟩ h49' hq7 m4
  have spS := span_ok hp v4 ⟨s1, by omega⟩ h49' hq7 m4
  have v9 : ∀ r ∈ rows ++ others, Vec q n r := fun r hr => by
    rcases List.mem_append.mp hr with hr | hr
    · exact v5 r hr
    · exact v4 r hr
  have spE := span_ok hp v9 ⟨s1, by omega⟩ h49' hq7 m4
  have lE := spanL_len (show 0 < q by omega) v9
  have vE := spanL_vec (show 0 < q by omega) _ v9
  have idE := span_idem hp v9
  obtain ⟨B, eB, mB⟩ := or_ok fm rd rdS m4
  obtain ⟨LC, C, eC, mC, hC, hlen⟩ := and_ok fm rd rdS m4
  have hl := hlen B mB
  have eE : spanL q n (R ++ S) = spanL q n (rows ++ others) := span_app hp rd.vec rdS.vec v5 v4 nl nlS
  have eF : spanL q n rows = spanL q n R := mR.span hp
  have eG : spanL q n others = spanL q n S := mS.span hp
  obtain ⟨T, eT, rdT, soT, nlT⟩ := made_ok fm vE (by omega) m4
  have mT : Made q n _ T := ⟨vE, rdT, soT, nlT⟩
  have BT : B = T := (made_iff hp mB mT).mpr (by rw [idE, eE])
  subst BT
  obtain ⟨y4, y15, w1⟩ := law_1 (E := spanL q n (rows ++ others)) (F := spanL q n rows) (G := spanL q n others) fm hq7 h49' mB mC (fun v => by rw [eE]) (fun v => by rw [eF, eG]; exact hC v) (some (.lst (ils ns))) (some (.int t)) (some (.loc m.length)) x4 (some (.lst (tps rows))) (some (.lst (tps others))) (some (Sp q n R)) (some (Sp q n S)) x15 m4
  -- within
  have wi1 := within_ok hp (by omega) rd rdS m4
  have wi2 := within_ok hp (by omega) rd mB.rd m4
  have wi3 := within_ok hp (by omega) mC.rd rdS m4
  have t2 : (R.all fun r => decide (r ∈ spanL q n B)) = true := List.all_eq_true.mpr fun r hr => decide_eq_true (by
    rw [← mB.span hp]
    exact self_in hp mB.vec r (List.mem_append_left _ hr))
  have t3 : (C.all fun r => decide (r ∈ spanL q n S)) = true := List.all_eq_true.mpr fun r hr => decide_eq_true (by
    have := self_in hp mC.rd.vec r hr
    rw [← mC.span hp] at this
    exact ((hC r).mp this).2)
  rw [t2] at wi2
  rw [t3] at wi3
  have al : (spanL q n rows).all (fun v => decide (v ∈ spanL q n others)) = R.all fun r => decide (r ∈ spanL q n S) := by
    rw [eF, eG]
    exact all_span hp rd.vec rdS.vec
  have cl1 : c_law_1 (E16 (some (.lst (ils ns))) (some (.int t)) (some (.loc m.length)) (some (.lst (tps (spanL q n (rows ++ others))))) y4 (some (.int q)) (some (.int n)) (some (.lst (tps rows))) (some (.lst (tps others))) (some (Sp q n R)) (some (Sp q n S)) (some (.lst (tps (spanL q n rows)))) (some (.lst (tps (spanL q n others)))) (some (Sp q n B)) (some (Sp q n C)) y15) m4 = .ok (.lst (((spanL q n rows).map fun v => decide (v ∈ spanL q n others)).map D.bl)) m4 := by
    have e : (((spanL q n rows).map fun v => decide (v ∈ spanL q n others)).map D.bl) = (spanL q n rows).map fun v => D.bl (decide (v ∈ spanL q n others)) := by simp
    have lF := spanL_len (show 0 < q by omega) v5
    rw [e]
    refine eComp_on (h := fun v => D.tup (ils v)) (by simp [tps]) (by omega) fun v hv => ⟨_, rfl, ?_⟩
    have oG : ownIn tCn false (.tup (ils v)) (.lst (tps (spanL q n others))) m4 = .ok (.bl (decide (v ∈ spanL q n others))) m4 := in_tpsL v _ m4
    simp [wipeD, oG]
  have ab := all_bls ((spanL q n rows).map fun v => decide (v ∈ spanL q n others)) m4
  rw [List.all_map] at ab
  have ab' : allD [.lst (((spanL q n rows).map fun v => decide (v ∈ spanL q n others)).map D.bl)] m4 = .ok (.bl (R.all fun r => decide (r ∈ spanL q n S))) m4 := by
    exact ab.trans (congrArg (fun b => Res.ok (D.bl b) m4) al)
  -- the last four
  obtain ⟨L1, C1, eC1, mC1, hC1, _⟩ := and_ok fm rd rd m4
  obtain ⟨B1, eB1, mB1⟩ := or_ok fm rd rd m4
  obtain ⟨L2, C2, eC2, mC2, hC2, _⟩ := and_ok fm rdS rd m4
  obtain ⟨B2, eB2, mB2⟩ := or_ok fm rdS rd m4
  have z1 : C1 = R := sp_eq hp mC1 mRR fun v => by rw [hC1]; exact and_self_iff
  have z2 : B1 = R := sp_eq hp mB1 mRR fun v => by
    have : spanL q n (R ++ R) = spanL q n R := (nls_self hp mB1.vec rd.vec).mpr fun x _ => ⟨fun h r hr => h r (List.mem_append_left _ hr), fun h r hr => by
      rcases List.mem_append.mp hr with hr | hr <;> exact h r hr⟩
    rw [this]
  have z3 : C2 = C := sp_eq hp mC2 mC fun v => by rw [hC2, hC]; exact and_comm
  have z4 : B2 = B := sp_eq hp mB2 mB fun v => by
    have : spanL q n (S ++ R) = spanL q n (R ++ S) := (nls_self hp mB2.vec mB.vec).mpr fun x _ => ⟨fun h r hr => by
      rcases List.mem_append.mp hr with hr | hr
      · exact h r (List.mem_append_right _ hr)
      · exact h r (List.mem_append_left _ hr), fun h r hr => by
      rcases List.mem_append.mp hr with hr | hr
      · exact h r (List.mem_append_right _ hr)
      · exact h r (List.mem_append_left _ hr)⟩
    rw [this]
  rw [z1] at eC1
  rw [z2] at eB1
  rw [z3] at eC2
  rw [z4] at eB2
  have oR := ownB_or eB
  have oA := ownB_and eC
  have oA1 := ownB_and eC1
  have oR1 := ownB_or eB1
  have oA2 := ownB_and eC2
  have oR2 := ownB_or eB2
  have nB := ownE_Sp (p := q) (n := n) (neg := true) (g0 := neD) B B m4
  have nR := ownE_Sp (p := q) (n := n) (neg := true) (g0 := neD) R R m4
  have nC := ownE_Sp (p := q) (n := n) (neg := true) (g0 := neD) C C m4
  rw [decide_eq_true rfl] at nB nR nC
  have lB := red_len mB.rd
  have lC := red_len mC.rd
  have lnB := ownLen_Sp (n := n) (R := B) q (by omega) m4
  have lnC := ownLen_Sp (n := n) (R := C) q (by omega) m4
  have lnR := ownLen_Sp (n := n) (R := R) q (by omega) m4
  have lnS := ownLen_Sp (n := n) (R := S) q (by omega) m4
  have nn : ownE [0, 1] tE true neD (.int ((B.length : Int) + C.length)) (.int ((R.length : Int) + S.length)) m4 = .ok (.bl false) m4 := by
    rw [ownE_int, show (B.length : Int) + C.length = (R.length : Int) + S.length by omega]
    simp
  have nb : ∀ b, ownE [0, 1] tE true neD (.bl b) (.bl b) m4 = .ok (.bl false) m4 := fun b => by rw [ownE_bl]; cases b <;> rfl
  generalize hW : (R.all fun r => decide (r ∈ spanL q n S)) = W at wi1 ab'
  generalize hFs : (((spanL q n rows).map fun v => decide (v ∈ spanL q n others)).map D.bl) = fs at cl1 ab'
  generalize spanL q n (rows ++ others) = E at *
  generalize spanL q n rows = F at *
  generalize spanL q n others = G at *
  have ap : tps rows ++ tps others = tps (rows ++ others) := by simp [tps]
  have all_ : rows.length + others.length ≤ 100000 := by omega
  refine ⟨some (.loc m.length), some (.lst (tps E)), y4, some (.int q), some (.int n), some (.lst (tps rows)), some (.lst (tps others)), some (Sp q n R), some (Sp q n S), some (.lst (tps F)), some (.lst (tps G)), some (Sp q n B), some (Sp q n C), y15, m4, sq_of (e1 := E16 (some (.lst (ils ns))) (some (.int t)) (some (.loc m.length)) x3 x4 x5 x6 x7 x8 x9 x10 x11 x12 x13 x14 x15) (m1 := M) (by simp [e0]) ?_⟩
  refine sq_of (e1 := E16 (some (.lst (ils ns))) (some (.int t)) (some (.loc m.length)) x3 x4 (some (.int q)) (some (.int n)) x7 x8 x9 x10 x11 x12 x13 x14 x15) (m1 := m1) (by simp [e1]) ?_
  refine sq_of (e1 := E16 (some (.lst (ils ns))) (some (.int t)) (some (.loc m.length)) x3 x4 (some (.int q)) (some (.int n)) (some (.lst (tps rows))) (some (.lst (tps oth0))) x9 x10 x11 x12 x13 x14 x15) (m1 := m3) (by
    have e2' : d_sums [.loc m.length, .int q, .int n, .int 4] m1 = _ := e2
    have e3' : d_sums [.loc m.length, .int q, .int n, .int 4] m2 = _ := e3
    simp [e2', e3', par2]) ?_
  refine sq_of e4 ?_
  refine sq_of (e1 := E16 (some (.lst (ils ns))) (some (.int t)) (some (.loc m.length)) x3 x4 (some (.int q)) (some (.int n)) (some (.lst (tps rows))) (some (.lst (tps others))) (some (Sp q n R)) (some (Sp q n S)) x11 x12 x13 x14 x15) (m1 := m4) (by
    simp [eR, eS, par2]) ?_
  refine sq_of (e1 := E16 (some (.lst (ils ns))) (some (.int t)) (some (.loc m.length)) x3 x4 (some (.int q)) (some (.int n)) (some (.lst (tps rows))) (some (.lst (tps others))) (some (Sp q n R)) (some (Sp q n S)) (some (.lst (tps F))) (some (.lst (tps G))) x13 x14 x15) (m1 := m4) (by
    simp [spR, spS]) ?_
  refine sq_of (e1 := E16 (some (.lst (ils ns))) (some (.int t)) (some (.loc m.length)) x3 x4 (some (.int q)) (some (.int n)) (some (.lst (tps rows))) (some (.lst (tps others))) (some (Sp q n R)) (some (Sp q n S)) (some (.lst (tps F))) (some (.lst (tps G))) (some (Sp q n B)) (some (Sp q n C)) x15) (m1 := m4) (by
    simp [oR, oA, par2]) ?_
  refine sq_of (e1 := E16 (some (.lst (ils ns))) (some (.int t)) (some (.loc m.length)) (some (.lst (tps E))) x4 (some (.int q)) (some (.int n)) (some (.lst (tps rows))) (some (.lst (tps others))) (some (Sp q n R)) (some (Sp q n S)) (some (.lst (tps F))) (some (.lst (tps G))) (some (Sp q n B)) (some (Sp q n C)) x15) (m1 := m4) (by
    simp [ap, all_, spE]) ?_
  refine sq_of (sq_if (by simp [eT, nB, lnB, lnC, lnR, lnS, nn])) ?_
  refine sq_of w1 ?_
  refine sq_of (sq_if (by
    have mw := meth_within (i := 9) (j := 10) (e := E16 (some (.lst (ils ns))) (some (.int t)) (some (.loc m.length)) (some (.lst (tps E))) y4 (some (.int q)) (some (.int n)) (some (.lst (tps rows))) (some (.lst (tps others))) (some (Sp q n R)) (some (Sp q n S)) (some (.lst (tps F))) (some (.lst (tps G))) (some (Sp q n B)) (some (Sp q n C)) y15) wi1 rfl rfl
    rw [tB_ap, eOp_ap, mw, thn_ok, eCallB_ap, aCons_ap, cl1, thn_ok, aNil_ap, thn_ok, thn_ok, ab', thn_ok, nb]
    rfl)) ?_
  refine sq_of (sq_if (by
    have mw := meth_within (i := 9) (j := 13) (e := E16 (some (.lst (ils ns))) (some (.int t)) (some (.loc m.length)) (some (.lst (tps E))) y4 (some (.int q)) (some (.int n)) (some (.lst (tps rows))) (some (.lst (tps others))) (some (Sp q n R)) (some (Sp q n S)) (some (.lst (tps F))) (some (.lst (tps G))) (some (Sp q n B)) (some (Sp q n C)) y15) wi2 rfl rfl
    have mw3 := meth_within (i := 14) (j := 10) (e := E16 (some (.lst (ils ns))) (some (.int t)) (some (.loc m.length)) (some (.lst (tps E))) y4 (some (.int q)) (some (.int n)) (some (.lst (tps rows))) (some (.lst (tps others))) (some (Sp q n R)) (some (Sp q n S)) (some (.lst (tps F))) (some (.lst (tps G))) (some (Sp q n B)) (some (Sp q n C)) y15) wi3 rfl rfl
    rw [tOr_ap, tNot_ap, tB_ap, mw]
    show (tNotD _ _ _ ) = _
    rw [tNot_ap, tB_ap, mw3]
    rfl)) ?_
  exact sq_if (by simp [oA1, oR1, oA2, oR2, nR, nC, nB])
theorem law_true : ∀ ns : List Int, ns.length ≤ 63 → ∃ m', d_law [.lst (ns.map .int)] [] = .ok (.bl true) m' := by
  intro ns hn
  have hr : iRg1 (aCons (eCallB maxD (aCons (eC (.int 1)) (aCons (eCallB minD (aCons (eCallB (ownLen tL) (aCons (eVar 0) aNil)) (aCons (eC (.int 12)) aNil))) aNil))) aNil) (E16 (some (.lst (ils ns))) none none none none none none none none none none none none none none none) [] = .ok ⟨rngI 0 (if (if (12 : Int) < ns.length then 12 else (ns.length : Int)) > 1 then (if (12 : Int) < ns.length then 12 else (ns.length : Int)) else 1).toNat, []⟩ [] := by
    have ol := ownLen_lst (ils ns) []
    rw [show (ils ns).length = ns.length by simp [ils]] at ol
    refine iRg1_ap _ _ _ (by simp [ol]) ?_ ?_
    · split <;> split <;> omega
    · split <;> split <;> omega
  generalize (if (if (12 : Int) < ns.length then 12 else (ns.length : Int)) > 1 then (if (12 : Int) < ns.length then 12 else (ns.length : Int)) else 1).toNat = k at hr
  obtain ⟨e', m', hf, y1, y2, y3, y4, y5, y6, y7, y8, y9, y10, y11, y12, y13, y14, y15, rfl⟩ := forL_chg (src := rngI 0 k) (g := gNm 1) (b := lb_law_2) (fun _ e _ => ∃ y1 y2 y3 y4 y5 y6 y7 y8 y9 y10 y11 y12 y13 y14 y15, e = E16 (some (.lst (ils ns))) y1 y2 y3 y4 y5 y6 y7 y8 y9 y10 y11 y12 y13 y14 y15) (rngI 0 k) (E16 (some (.lst (ils ns))) none none none none none none none none none none none none none none none) [] ⟨none, none, none, none, none, none, none, none, none, none, none, none, none, none, none, rfl⟩ (by
    rintro j d e m' hj ⟨y1, y2, y3, y4, y5, y6, y7, y8, y9, y10, y11, y12, y13, y14, y15, rfl⟩
    obtain ⟨hjl, rfl⟩ := rng_get hj
    obtain ⟨z2, z3, z4, z5, z6, z7, z8, z9, z10, z11, z12, z13, z14, z15, m2, hb⟩ := turn_ok (ns := ns) (t := j) (m := m') (x2 := y2) (x3 := y3) (x4 := y4) (x5 := y5) (x6 := y6) (x7 := y7) (x8 := y8) (x9 := y9) (x10 := y10) (x11 := y11) (x12 := y12) (x13 := y13) (x14 := y14) (x15 := y15)
    exact ⟨_, _, _, _, rfl, .inl hb, _, _, _, _, _, _, _, _, _, _, _, _, _, _, _, rfl⟩)
  have q := fr_of (b := lb_law_2) hr hf
  have hb : b_law (startD 16 [.lst (ils ns)]) [] = .ok (.rt (.bl true)) m' := sq_of q rfl
  have e : (ns.map D.int) = ils ns := rfl
  rw [e]
  by_cases ht : (trimOk [] m' && (D.bl true).und 0) = true
  · exact ⟨_, by simp only [d_law, fnD, scopeM, runB, bind_ap, hb, thn_ok, pure_ap]; exact if_pos ht⟩
  · exact ⟨_, by simp only [d_law, fnD, scopeM, runB, bind_ap, hb, thn_ok, pure_ap]; exact if_neg ht⟩
end l05b
end LW
namespace LW
open PySem L2 DL PyProof.Rows
def top (i : Nat) : Stmt := PySem.Challenge.pw_leastreads_k05_whole_spaces_joined_and_m.main.body.getD i (.Pass ⟨0, 0, 0, 0⟩)
abbrev s_Space_len : Stmt := (inClass (top 28) 6)
abbrev s_source : Stmt := (top 30)
abbrev s_draw : Stmt := (top 31)
abbrev s_pick : Stmt := (top 32)
abbrev s_form : Stmt := (top 36)
abbrev s_factors : Stmt := (top 35)
abbrev s_sums : Stmt := (top 37)
abbrev s_Space_eq : Stmt := (inClass (top 28) 9)
abbrev s_Sum_eq : Stmt := (inClass (top 25) 13)
abbrev s_is_integer : Stmt := (top 21)
abbrev s_is_prime : Stmt := (top 22)
abbrev s_is_between : Stmt := (top 20)
abbrev s_power : Stmt := (top 16)
abbrev s_is_size : Stmt := (top 23)
abbrev s_is_data : Stmt := (top 24)
abbrev s_Sum_init : Stmt := (inClass (top 25) 1)
abbrev s_Space_prime : Stmt := (inClass (top 28) 2)
abbrev s_Sum_prime : Stmt := (inClass (top 25) 3)
abbrev s_Space_size : Stmt := (inClass (top 28) 3)
abbrev s_Sum_size : Stmt := (inClass (top 25) 5)
abbrev s_is_sum : Stmt := (top 26)
abbrev s_Sum_factors : Stmt := (inClass (top 25) 4)
abbrev s_lead : Stmt := (top 11)
abbrev s_added : Stmt := (top 10)
abbrev s_rest_of : Stmt := (top 12)
abbrev s_inverse : Stmt := (top 8)
abbrev s_scaled : Stmt := (top 9)
abbrev s_reduced : Stmt := (top 13)
abbrev s_Space_init : Stmt := (inClass (top 28) 1)
abbrev s_made : Stmt := (top 39)
abbrev s_span : Stmt := (top 38)
abbrev s_Space_require : Stmt := (inClass (top 28) 10)
abbrev s_Space_or : Stmt := (inClass (top 28) 11)
abbrev s_Space_and : Stmt := (inClass (top 28) 12)
abbrev s_all_data : Stmt := (top 33)
abbrev s_has_row : Stmt := (top 14)
abbrev s_Space_contains : Stmt := (inClass (top 28) 8)
abbrev s_Space_within : Stmt := (inClass (top 28) 13)
abbrev s_law : Stmt := (top 40)
abbrev s_E3 : Stmt := (inClass (top 3) 0)
abbrev s_E5 : Stmt := (inClass (top 5) 0)
abbrev s_E6 : Stmt := (inClass (top 6) 0)
structure Txt (P : Program) (k : Kx) (ad ca ta : Nat → Addr) (K : PySem.W.Frag) (mg : Str → Option Value) : Prop where
  f_Space_len : FA K "__len__" "Space.__len__" s_Space_len ["self"] (ad 34)
  f_source : FA K "_law_source" "_law_source" s_source ["_law_script", "_law_turn"] (ad 44)
  m_source : mg "_law_source" = some (.ref (ad 44))
  f_draw : FA K "_law_draw" "_law_draw" s_draw ["_law_source_here", "_law_amount"] (ad 45)
  m_draw : mg "_law_draw" = some (.ref (ad 45))
  f_pick : FA K "_law_pick" "_law_pick" s_pick ["_law_source_here", "_law_items"] (ad 46)
  m_pick : mg "_law_pick" = some (.ref (ad 46))
  f_form : FA K "_law_form" "_law_form" s_form ["_law_source_here"] (ad 50)
  m_form : mg "_law_form" = some (.ref (ad 50))
  f_factors : FA K "_law_factors" "_law_factors" s_factors ["_law_source_here", "_law_prime", "_law_size"] (ad 49)
  m_factors : mg "_law_factors" = some (.ref (ad 49))
  f_sums : FA K "_law_sums" "_law_sums" s_sums ["_law_source_here", "_law_prime", "_law_size", "_law_most"] (ad 51)
  m_sums : mg "_law_sums" = some (.ref (ad 51))
  f_Space_eq : FA K "__eq__" "Space.__eq__" s_Space_eq ["self", "other"] (ad 37)
  f_Sum_eq : FA K "__eq__" "Sum.__eq__" s_Sum_eq ["self", "other"] (ad 27)
  f_is_integer : FA K "is_integer" "is_integer" s_is_integer ["value"] (ad 11)
  m_is_integer : mg "is_integer" = some (.ref (ad 11))
  f_is_prime : FA K "is_prime" "is_prime" s_is_prime ["value"] (ad 12)
  m_is_prime : mg "is_prime" = some (.ref (ad 12))
  f_is_between : FA K "is_between" "is_between" s_is_between ["value", "low", "high"] (ad 10)
  m_is_between : mg "is_between" = some (.ref (ad 10))
  f_power : FA K "power" "power" s_power ["base", "exponent"] (ad 9)
  m_power : mg "power" = some (.ref (ad 9))
  f_is_size : FA K "is_size" "is_size" s_is_size ["prime", "value"] (ad 13)
  m_is_size : mg "is_size" = some (.ref (ad 13))
  f_is_data : FA K "is_data" "is_data" s_is_data ["prime", "size", "value"] (ad 14)
  m_is_data : mg "is_data" = some (.ref (ad 14))
  f_Sum_init : FA K "__init__" "Sum.__init__" s_Sum_init ["self", "prime", "factors"] (ad 15)
  f_Space_prime : FA K "prime" "Space.prime" s_Space_prime ["self"] (ad 30)
  f_Sum_prime : FA K "prime" "Sum.prime" s_Sum_prime ["self"] (ad 17)
  f_Space_size : FA K "size" "Space.size" s_Space_size ["self"] (ad 31)
  f_Sum_size : FA K "size" "Sum.size" s_Sum_size ["self"] (ad 19)
  f_is_sum : FA K "is_sum" "is_sum" s_is_sum ["value", "prime", "size"] (ad 28)
  m_is_sum : mg "is_sum" = some (.ref (ad 28))
  f_Sum_factors : FA K "factors" "Sum.factors" s_Sum_factors ["self"] (ad 18)
  f_lead : FA K "lead" "lead" s_lead ["row"] (ad 4)
  m_lead : mg "lead" = some (.ref (ad 4))
  f_added : FA K "added" "added" s_added ["row", "other", "factor", "prime"] (ad 3)
  m_added : mg "added" = some (.ref (ad 3))
  f_rest_of : FA K "rest_of" "rest_of" s_rest_of ["row", "rows", "prime"] (ad 5)
  m_rest_of : mg "rest_of" = some (.ref (ad 5))
  f_inverse : FA K "inverse" "inverse" s_inverse ["number", "prime"] (ad 1)
  m_inverse : mg "inverse" = some (.ref (ad 1))
  f_scaled : FA K "scaled" "scaled" s_scaled ["row", "factor", "prime"] (ad 2)
  m_scaled : mg "scaled" = some (.ref (ad 2))
  f_reduced : FA K "reduced" "reduced" s_reduced ["rows", "prime"] (ad 6)
  m_reduced : mg "reduced" = some (.ref (ad 6))
  f_Space_init : FAD k K "__init__" "Space.__init__" s_Space_init ["self", "prime", "size", "sums"] [(.tup [])] (ad 29)
  f_made : FA K "_law_made" "_law_made" s_made ["_law_prime", "_law_size", "_law_rows"] (ad 53)
  m_made : mg "_law_made" = some (.ref (ad 53))
  f_span : FA K "_law_span" "_law_span" s_span ["_law_rows", "_law_prime", "_law_size"] (ad 52)
  m_span : mg "_law_span" = some (.ref (ad 52))
  f_Space_require : FA K "require" "Space.require" s_Space_require ["self", "other"] (ad 38)
  f_Space_or : FA K "__or__" "Space.__or__" s_Space_or ["self", "other"] (ad 39)
  f_Space_and : FA K "__and__" "Space.__and__" s_Space_and ["self", "other"] (ad 40)
  f_all_data : FA K "_law_all_data" "_law_all_data" s_all_data ["_law_prime", "_law_size"] (ad 47)
  m_all_data : mg "_law_all_data" = some (.ref (ad 47))
  f_has_row : FA K "has_row" "has_row" s_has_row ["rows", "row", "prime"] (ad 7)
  m_has_row : mg "has_row" = some (.ref (ad 7))
  f_Space_contains : FA K "__contains__" "Space.__contains__" s_Space_contains ["self", "item"] (ad 36)
  f_Space_within : FA K "within" "Space.within" s_Space_within ["self", "other"] (ad 41)
  f_law : FA K "law" "law" s_law ["_law_script"] (ad 54)
  m_law : mg "law" = some (.ref (ad 54))
  er_3 : ∃ fI, ErrC P K s_E3 "InvalidSum.__init__" "self" "value" "value" (k.cl 3) fI
  xf_3 : k.xf 3 = [("value" : Str)]
  ge_3 : mg "InvalidSum" = some (.ref (k.cl 3))
  er_5 : ∃ fI, ErrC P K s_E5 "InvalidNumber.__init__" "self" "value" "value" (k.cl 5) fI
  xf_5 : k.xf 5 = [("value" : Str)]
  ge_5 : mg "InvalidNumber" = some (.ref (k.cl 5))
  er_6 : ∃ fI, ErrC P K s_E6 "InvalidOperand.__init__" "self" "other" "other" (k.cl 6) fI
  xf_6 : k.xf 6 = [("other" : Str)]
  ge_6 : mg "InvalidOperand" = some (.ref (k.cl 6))
  cl_0 : SlX.SCls K (k.cl 0)
  cl_1 : SlX.SCls K (k.cl 1)
  g_MOST_DATA : GlD k K mg "MOST_DATA" (.int 4096)
  g_PRIMES : GlD k K mg "PRIMES" (.tup (([2, 3, 5, 7] : List Int).map .int))
  g_Space : mg "Space" = some (.ref (k.cl 1))
  g_Sum : mg "Sum" = some (.ref (k.cl 0))
  i1_1_BitAnd : ∃ fo, PySem.W.findIn K (.type "int") (PySem.dunder (Operator.BitAnd).info.2) = some fo
  i1_1_BitOr : ∃ fo, PySem.W.findIn K (.type "int") (PySem.dunder (Operator.BitOr).info.2) = some fo
  i2_1_BitAnd : ∃ fo, PySem.W.findIn K (.type "int") (dunderR (Operator.BitAnd).info.2) = some fo
  i2_1_BitOr : ∃ fo, PySem.W.findIn K (.type "int") (dunderR (Operator.BitOr).info.2) = some fo
  i3_1 : PySem.W.subIn K (.type "int") (.ref (k.cl 1)) = some false
  is_0 : SlX.SIsi K (k.cl 0)
  is_1 : SlX.SIsi K (k.cl 1)
  kas_0 : PySem.W.kitAny K (.ref (k.cl 0)) [.type "list", .type "tuple"] = some false
  kas_1 : PySem.W.kitAny K (.ref (k.cl 1)) [.type "list", .type "tuple"] = some false
  kb_0 : ∀ kd, (∀ c, kd ≠ .obj c) → PySem.W.kitOne K (.type (nmK kd)) (.ref (k.cl 0)) = some (isK (.cls 0) kd)
  kb_1 : ∀ kd, (∀ c, kd ≠ .obj c) → PySem.W.kitOne K (.type (nmK kd)) (.ref (k.cl 1)) = some (isK (.cls 1) kd)
  ki_0_0 : PySem.W.kitOne K (.ref (k.cl 0)) (.ref (k.cl 0)) = some true
  ki_0_1 : PySem.W.kitOne K (.ref (k.cl 0)) (.ref (k.cl 1)) = some false
  ki_0_bool : PySem.W.kitOne K (.ref (k.cl 0)) (.type "bool") = some false
  ki_0_int : PySem.W.kitOne K (.ref (k.cl 0)) (.type "int") = some false
  ki_1_0 : PySem.W.kitOne K (.ref (k.cl 1)) (.ref (k.cl 0)) = some false
  ki_1_1 : PySem.W.kitOne K (.ref (k.cl 1)) (.ref (k.cl 1)) = some true
  ki_1_bool : PySem.W.kitOne K (.ref (k.cl 1)) (.type "bool") = some false
  ki_1_int : PySem.W.kitOne K (.ref (k.cl 1)) (.type "int") = some false
  me_0_eq : Meth K (k.cl 0) "__eq__" (ad 27)
  me_1_and : Meth K (k.cl 1) "__and__" (ad 40)
  me_1_contains : Meth K (k.cl 1) "__contains__" (ad 36)
  me_1_eq : Meth K (k.cl 1) "__eq__" (ad 37)
  me_1_len : Meth K (k.cl 1) "__len__" (ad 34)
  me_1_or : Meth K (k.cl 1) "__or__" (ad 39)
  me_1_require : Meth K (k.cl 1) "require" (ad 38)
  me_1_within : Meth K (k.cl 1) "within" (ad 41)
  mk_0 : Mk K (k.cl 0) (ad 15)
  mk_1 : Mk K (k.cl 1) (ad 29)
  nb_0 : ∀ kd, (∀ c, kd ≠ .obj c) → PySem.W.notFirst K (k.cl 0) (.type (nmK kd)) = true
  nb_1 : ∀ kd, (∀ c, kd ≠ .obj c) → PySem.W.notFirst K (k.cl 1) (.type (nmK kd)) = true
  ne_0 : PySem.W.findIn K (.ref (k.cl 0)) "__ne__" = some (some (.builtin "object.__ne__"))
  ne_1 : PySem.W.findIn K (.ref (k.cl 1)) "__ne__" = some (some (.builtin "object.__ne__"))
  nf_0_0 : PySem.W.notFirst K (k.cl 0) (.ref (k.cl 0)) = true
  nf_0_1 : PySem.W.notFirst K (k.cl 0) (.ref (k.cl 1)) = true
  nf_1_0 : PySem.W.notFirst K (k.cl 1) (.ref (k.cl 0)) = true
  nf_1_1 : PySem.W.notFirst K (k.cl 1) (.ref (k.cl 1)) = true
  pr_0_factors : PrA K (k.cl 0) "factors" (ad 18)
  pr_0_prime : PrA K (k.cl 0) "prime" (ad 17)
  pr_0_size : PrA K (k.cl 0) "size" (ad 19)
  pr_1_prime : PrA K (k.cl 1) "prime" (ad 30)
  pr_1_size : PrA K (k.cl 1) "size" (ad 31)
  rc_1_BitAnd : PySem.W.findIn K (.ref (k.cl 1)) (dunderR (Operator.BitAnd).info.2) = some none
  rc_1_BitOr : PySem.W.findIn K (.ref (k.cl 1)) (dunderR (Operator.BitOr).info.2) = some none
  sf_1 : PySem.W.selfFirst K (k.cl 1) = true
  sl_0_own_prime : ∃ p, SlX.Slot1 K (k.cl 0) "own_prime" p 0
  sl_0_row : ∃ p, SlX.Slot1 K (k.cl 0) "row" p 1
  sl_1_listed : ∃ p, SlX.Slot1 K (k.cl 1) "listed" p 0
  sl_1_own_prime : ∃ p, SlX.Slot1 K (k.cl 1) "own_prime" p 1
  sl_1_own_size : ∃ p, SlX.Slot1 K (k.cl 1) "own_size" p 2
  sl_1_rows : ∃ p, SlX.Slot1 K (k.cl 1) "rows" p 3
  z_all : mg "all" = none
  z_any : mg "any" = none
  z_bool : mg "bool" = none
  z_int : mg "int" = none
  z_isinstance : mg "isinstance" = none
  z_len : mg "len" = none
  z_list : mg "list" = none
  z_max : mg "max" = none
  z_min : mg "min" = none
  z_range : mg "range" = none
  z_set : mg "set" = none
  z_sorted : mg "sorted" = none
  z_tuple : mg "tuple" = none
  z_zip : mg "zip" = none
def TBs (ca ta : Nat → Addr) (base : Heap) (mg : Str → Option Value) : Prop := SysD base ∧ ∀ i ∈ ([] : List Nat), LamX.TabB base mg (ca i) (ta i)
section
variable {P : Program} {w : World} {k : Kx} {ad ca ta : Nat → Addr} {K : PySem.W.Frag} {mg : Str → Option Value} {base : Heap}
theorem sc_Space_len : FnScope ["self"] ["self"] (defScope s_Space_len) := ⟨rfl, rfl, rfl, by decide +kernel, rfl, by decide +kernel, by decide +kernel⟩
theorem ok_Space_len (T : Txt P k ad ca ta K mg) : FnR P w K mg base (L2.CX P w) 1 (ad 34) (spD k K 1 d_Space_len) :=
  fnr_ok (N := ["self"]) (ps := ["self"]) (lvl := 0) (m := b_Space_len) T.f_Space_len sc_Space_len (fun cdv A outer s H E hr =>
  (jb_one (js_ret (j_callB f_len rfl T.z_len (by decide +kernel) (ja_cons (j_attr (tab := [(1, .slot 3)]) ⟨⟨T.cl_1, T.sl_1_rows⟩, trivial⟩ (j_var 0)) ja_nil)))))
theorem sc_source : FnScope ["_law_script", "_law_turn", "_law_cell", "_law_number", "_law_seed"] ["_law_script", "_law_turn"] (defScope s_source) := ⟨rfl, rfl, rfl, by decide +kernel, rfl, by decide +kernel, by decide +kernel⟩
theorem ok_source (T : Txt P k ad ca ta K mg) : FnR P w K mg base (L2.CX P w) 1 (ad 44) (spD k K 2 d_source) :=
  fnr_ok (N := ["_law_script", "_law_turn", "_law_cell", "_law_number", "_law_seed"]) (ps := ["_law_script", "_law_turn"]) (lvl := 0) (m := b_source) T.f_source sc_source (fun cdv A outer s H E hr =>
  (jb_cons (js_set 2 sc_source.nd rfl (by first | exact Or.inl rfl | exact Or.inr rfl) j_int)
  (jb_cons (js_if (jt_cmp (b_lt hr.units0) (j_var 1) (j_callB f_len rfl T.z_len (by decide +kernel) (ja_cons (j_var 0) ja_nil)) (nomark _)) (jb_one (js_set 2 sc_source.nd rfl (by first | exact Or.inl rfl | exact Or.inr rfl) (j_ix (j_var 0) (j_var 1) (fun _ _ => rfl)))) jb_nil)
  (jb_cons (js_set 3 sc_source.nd rfl (by first | exact Or.inl rfl | exact Or.inr rfl) (j_callB (f_max rfl) rfl T.z_max (by decide +kernel) (ja_cons (j_var 2) (ja_cons (j_op b_sub (j_un u_neg j_int) (j_var 2)) ja_nil))))
  (jb_cons (js_set 4 sc_source.nd rfl (by first | exact Or.inl rfl | exact Or.inr rfl) (j_op b_mod (j_callTy f_int rfl T.z_int (by decide +kernel) (ja_cons (j_op b_add (j_op b_add (j_op b_mul (j_op b_mod (j_callTy f_int rfl T.z_int (by decide +kernel) (ja_cons (j_var 3) ja_nil)) j_int) j_int) (j_op b_mul j_int (j_var 1))) j_int) ja_nil)) j_int))
  (jb_cons (js_if (jt_cmp (b_lt hr.units0) (j_var 3) (j_op b_pow j_int j_int) (nomark _)) (jb_one (js_set 3 sc_source.nd rfl (by first | exact Or.inl rfl | exact Or.inr rfl) j_int)) jb_nil)
  (jb_one (js_ret (j_lstM (ja_cons (j_var 3) (ja_cons (j_var 4) ja_nil)))))))))))
theorem sc_draw : FnScope ["_law_source_here", "_law_amount", "_law_digit"] ["_law_source_here", "_law_amount"] (defScope s_draw) := ⟨rfl, rfl, rfl, by decide +kernel, rfl, by decide +kernel, by decide +kernel⟩
theorem ok_draw (T : Txt P k ad ca ta K mg) : FnR P w K mg base (L2.CX P w) 1 (ad 45) (spD k K 2 d_draw) :=
  fnr_ok (N := ["_law_source_here", "_law_amount", "_law_digit"]) (ps := ["_law_source_here", "_law_amount"]) (lvl := 0) (m := b_draw) T.f_draw sc_draw (fun cdv A outer s H E hr =>
  (jb_cons (js_if (jt_cmp b_gt (j_ix (j_var 0) j_int (fun _ _ => rfl)) j_int (nomark _)) (jb_cons (js_set 2 sc_draw.nd rfl (by first | exact Or.inl rfl | exact Or.inr rfl) (j_op b_mod (j_callTy f_int rfl T.z_int (by decide +kernel) (ja_cons (j_ix (j_var 0) j_int (fun _ _ => rfl)) ja_nil)) (j_var 1)))
  (jb_cons (js_setIx (j_op b_fdv (j_ix (j_var 0) j_int (fun _ _ => rfl)) (j_var 1)) (j_var 0) j_int)
  (jb_one (js_ret (j_var 2))))) jb_nil)
  (jb_cons (js_setIx (j_op b_mod (j_callTy f_int rfl T.z_int (by decide +kernel) (ja_cons (j_op b_add (j_op b_mul (j_ix (j_var 0) j_int (fun _ _ => rfl)) j_int) j_int) ja_nil)) j_int) (j_var 0) j_int)
  (jb_one (js_ret (j_op b_mod (j_callTy f_int rfl T.z_int (by decide +kernel) (ja_cons (j_op b_fdv (j_op b_mod (j_callTy f_int rfl T.z_int (by decide +kernel) (ja_cons (j_op b_mul (j_ix (j_var 0) j_int (fun _ _ => rfl)) (j_ix (j_var 0) j_int (fun _ _ => rfl))) ja_nil)) j_int) j_int) ja_nil)) (j_var 1)))))))
theorem sc_pick : FnScope ["_law_source_here", "_law_items"] ["_law_source_here", "_law_items"] (defScope s_pick) := ⟨rfl, rfl, rfl, by decide +kernel, rfl, by decide +kernel, by decide +kernel⟩
theorem ok_pick (T : Txt P k ad ca ta K mg) : FnR P w K mg base (L2.CX P w) 2 (ad 46) (spD k K 2 d_pick) :=
  fnr_ok (N := ["_law_source_here", "_law_items"]) (ps := ["_law_source_here", "_law_items"]) (lvl := 1) (m := b_pick) T.f_pick sc_pick (fun cdv A outer s H E hr =>
  (jb_one (js_ret (j_ix (j_var 1) (j_call (ok_draw (P := P) (w := w) (base := base) T) (hr.mono (by decide)) pass_def rfl T.m_draw T.f_draw.kp (ja_cons (j_var 0) (ja_cons (j_callB f_len rfl T.z_len (by decide +kernel) (ja_cons (j_var 1) ja_nil)) ja_nil))) (fun _ _ => rfl)))))
theorem sc_form : FnScope ["_law_source_here"] ["_law_source_here"] (defScope s_form) := ⟨rfl, rfl, rfl, by decide +kernel, rfl, by decide +kernel, by decide +kernel⟩
theorem ok_form (T : Txt P k ad ca ta K mg) : FnR P w K mg base (L2.CX P w) 3 (ad 50) (spD k K 1 d_form) :=
  fnr_ok (N := ["_law_source_here"]) (ps := ["_law_source_here"]) (lvl := 2) (m := b_form) T.f_form sc_form (fun cdv A outer s H E hr =>
  (jb_one (js_ret (j_call (ok_pick (P := P) (w := w) (base := base) T) (hr.mono (by decide)) pass_def rfl T.m_pick T.f_pick.kp (ja_cons (j_var 0) (ja_cons (j_lst (ja_cons (j_tup (ja_cons j_int (ja_cons j_int ja_nil))) (ja_cons (j_tup (ja_cons j_int (ja_cons j_int ja_nil))) (ja_cons (j_tup (ja_cons j_int (ja_cons j_int ja_nil))) (ja_cons (j_tup (ja_cons j_int (ja_cons j_int ja_nil))) (ja_cons (j_tup (ja_cons j_int (ja_cons j_int ja_nil))) (ja_cons (j_tup (ja_cons j_int (ja_cons j_int ja_nil))) (ja_cons (j_tup (ja_cons j_int (ja_cons j_int ja_nil))) (ja_cons (j_tup (ja_cons j_int (ja_cons j_int ja_nil))) (ja_cons (j_tup (ja_cons j_int (ja_cons j_int ja_nil))) ja_nil)))))))))) ja_nil))))))
theorem sc_factors : FnScope ["_law_source_here", "_law_prime", "_law_size", "_law_place"] ["_law_source_here", "_law_prime", "_law_size"] (defScope s_factors) := ⟨rfl, rfl, rfl, by decide +kernel, rfl, by decide +kernel, by decide +kernel⟩
theorem ok_factors (T : Txt P k ad ca ta K mg) : FnR P w K mg base (L2.CX P w) 2 (ad 49) (spD k K 3 d_factors) :=
  fnr_ok (N := ["_law_source_here", "_law_prime", "_law_size", "_law_place"]) (ps := ["_law_source_here", "_law_prime", "_law_size"]) (lvl := 1) (m := b_factors) T.f_factors sc_factors (fun cdv A outer s H E hr =>
  (jb_one (js_ret (j_callTy f_tuple rfl T.z_tuple (by decide +kernel) (ja_cons (j_comp (own := [("_law_place", 3)]) (by decide) rfl sc_factors.nd (ji_range1 rfl T.z_range (ja_cons (j_var 2) ja_nil)) (blkOk_by (N := ["_law_source_here", "_law_prime", "_law_size", "_law_place"]) (sc := defScope s_factors) (by decide +kernel)) (fun _ _ _ _ _ => (jg_name 3 sc_factors.nd rfl (by first | exact Or.inl rfl | exact Or.inr rfl))) (fun _ _ _ _ _ => jts_nil) (fun _ _ _ _ _ => (j_call (ok_draw (P := P) (w := w) (base := base) T) (hr.mono (by decide)) passL rfl T.m_draw T.f_draw.kp (ja_cons (j_var 0) (ja_cons (j_var 1) ja_nil))))) ja_nil)))))
theorem sc_sums : FnScope ["_law_source_here", "_law_prime", "_law_size", "_law_most", "_law_index"] ["_law_source_here", "_law_prime", "_law_size", "_law_most"] (defScope s_sums) := ⟨rfl, rfl, rfl, by decide +kernel, rfl, by decide +kernel, by decide +kernel⟩
theorem ok_sums (T : Txt P k ad ca ta K mg) : FnR P w K mg base (L2.CX P w) 3 (ad 51) (spD k K 4 d_sums) :=
  fnr_ok (N := ["_law_source_here", "_law_prime", "_law_size", "_law_most", "_law_index"]) (ps := ["_law_source_here", "_law_prime", "_law_size", "_law_most"]) (lvl := 2) (m := b_sums) T.f_sums sc_sums (fun cdv A outer s H E hr =>
  (jb_one (js_ret (j_comp (own := [("_law_index", 4)]) (by decide) rfl sc_sums.nd (ji_range1 rfl T.z_range (ja_cons (j_call (ok_draw (P := P) (w := w) (base := base) T) (hr.mono (by decide)) pass_def rfl T.m_draw T.f_draw.kp (ja_cons (j_var 0) (ja_cons (j_op b_add (j_var 3) j_int) ja_nil))) ja_nil)) (blkOk_by (N := ["_law_source_here", "_law_prime", "_law_size", "_law_most", "_law_index"]) (sc := defScope s_sums) (by decide +kernel)) (fun _ _ _ _ _ => (jg_name 4 sc_sums.nd rfl (by first | exact Or.inl rfl | exact Or.inr rfl))) (fun _ _ _ _ _ => jts_nil) (fun _ _ _ _ _ => (j_call (ok_factors (P := P) (w := w) (base := base) T) (hr.mono (by decide)) passL rfl T.m_factors T.f_factors.kp (ja_cons (j_var 0) (ja_cons (j_var 1) (ja_cons (j_var 2) ja_nil)))))))))
theorem sc_Space_eq : FnScope ["self", "other"] ["self", "other"] (defScope s_Space_eq) := ⟨rfl, rfl, rfl, by decide +kernel, rfl, by decide +kernel, by decide +kernel⟩
theorem ok_Space_eq (T : Txt P k ad ca ta K mg) : FnR P w K mg base (L2.CX P w) 1 (ad 37) (spD k K 2 d_Space_eq) :=
  fnr_ok (N := ["self", "other"]) (ps := ["self", "other"]) (lvl := 0) (m := b_Space_eq) T.f_Space_eq sc_Space_eq (fun cdv A outer s H E hr =>
  (jb_one (js_ret (j_and (j_isi (cs := [0, 1]) (t := .cls 1) (u := .ref (k.cl 1)) (c := .ref (k.cl 1)) (te := tC (.ref (k.cl 1))) ⟨(in_cons ⟨T.cl_0, T.is_0, T.ki_0_1⟩ (in_cons ⟨T.cl_1, T.is_1, T.ki_1_1⟩ in_nil)), T.kb_1⟩ rfl (fun _ h => h) (.own _) rfl T.z_isinstance (j_var 1) (pe_glob rfl T.g_Space rfl)) (j_and (j_cmp (b_eq hr.units) (j_attr (tab := [(1, .slot 1)]) ⟨⟨T.cl_1, T.sl_1_own_prime⟩, trivial⟩ (j_var 0)) (j_attr (tab := [(0, .slot 0), (1, .slot 1)]) ⟨⟨T.cl_0, T.sl_0_own_prime⟩, ⟨⟨T.cl_1, T.sl_1_own_prime⟩, trivial⟩⟩ (j_var 1)) (nomark _)) (j_and (j_cmp (b_eq hr.units) (j_attr (tab := [(1, .slot 2)]) ⟨⟨T.cl_1, T.sl_1_own_size⟩, trivial⟩ (j_var 0)) (j_attr (tab := [(1, .slot 2)]) ⟨⟨T.cl_1, T.sl_1_own_size⟩, trivial⟩ (j_var 1)) (nomark _)) (j_one (j_cmp (b_eq hr.units) (j_attr (tab := [(1, .slot 3)]) ⟨⟨T.cl_1, T.sl_1_rows⟩, trivial⟩ (j_var 0)) (j_attr (tab := [(1, .slot 3)]) ⟨⟨T.cl_1, T.sl_1_rows⟩, trivial⟩ (j_var 1)) (nomark _)))))))))
theorem sc_Sum_eq : FnScope ["self", "other"] ["self", "other"] (defScope s_Sum_eq) := ⟨rfl, rfl, rfl, by decide +kernel, rfl, by decide +kernel, by decide +kernel⟩
theorem ok_Sum_eq (T : Txt P k ad ca ta K mg) : FnR P w K mg base (L2.CX P w) 1 (ad 27) (spD k K 2 d_Sum_eq) :=
  fnr_ok (N := ["self", "other"]) (ps := ["self", "other"]) (lvl := 0) (m := b_Sum_eq) T.f_Sum_eq sc_Sum_eq (fun cdv A outer s H E hr =>
  (jb_one (js_ret (j_and (j_isi (cs := [0, 1]) (t := .cls 0) (u := .ref (k.cl 0)) (c := .ref (k.cl 0)) (te := tC (.ref (k.cl 0))) ⟨(in_cons ⟨T.cl_0, T.is_0, T.ki_0_0⟩ (in_cons ⟨T.cl_1, T.is_1, T.ki_1_0⟩ in_nil)), T.kb_0⟩ rfl (fun _ h => h) (.own _) rfl T.z_isinstance (j_var 1) (pe_glob rfl T.g_Sum rfl)) (j_and (j_cmp (b_eq hr.units) (j_attr (tab := [(0, .slot 0)]) ⟨⟨T.cl_0, T.sl_0_own_prime⟩, trivial⟩ (j_var 0)) (j_attr (tab := [(0, .slot 0), (1, .slot 1)]) ⟨⟨T.cl_0, T.sl_0_own_prime⟩, ⟨⟨T.cl_1, T.sl_1_own_prime⟩, trivial⟩⟩ (j_var 1)) (nomark _)) (j_one (j_cmp (b_eq hr.units) (j_attr (tab := [(0, .slot 1)]) ⟨⟨T.cl_0, T.sl_0_row⟩, trivial⟩ (j_var 0)) (j_attr (tab := [(0, .slot 1)]) ⟨⟨T.cl_0, T.sl_0_row⟩, trivial⟩ (j_var 1)) (nomark _))))))))
theorem sc_is_integer : FnScope ["value"] ["value"] (defScope s_is_integer) := ⟨rfl, rfl, rfl, by decide +kernel, rfl, by decide +kernel, by decide +kernel⟩
theorem ok_is_integer (T : Txt P k ad ca ta K mg) : FnR P w K mg base (L2.CX P w) 1 (ad 11) (spD k K 1 d_is_integer) :=
  fnr_ok (N := ["value"]) (ps := ["value"]) (lvl := 0) (m := b_is_integer) T.f_is_integer sc_is_integer (fun cdv A outer s H E hr =>
  (jb_one (js_ret (j_and (j_isi (cs := [0, 1]) (t := .int) (u := .type "int") (c := .ty "int") (te := tC (.ty "int")) ⟨(in_cons ⟨T.cl_0, T.is_0, T.ki_0_int⟩ (in_cons ⟨T.cl_1, T.is_1, T.ki_1_int⟩ in_nil)), kit_bu .int (by simp)⟩ rfl (fun _ h => h) (.ty _) rfl T.z_isinstance (j_var 0) (pe_bltn rfl T.z_int (by decide +kernel) rfl)) (j_one (j_not (j_isi (cs := [0, 1]) (t := .bool) (u := .type "bool") (c := .ty "bool") (te := tC (.ty "bool")) ⟨(in_cons ⟨T.cl_0, T.is_0, T.ki_0_bool⟩ (in_cons ⟨T.cl_1, T.is_1, T.ki_1_bool⟩ in_nil)), kit_bu .bool (by simp)⟩ rfl (fun _ h => h) (.ty _) rfl T.z_isinstance (j_var 0) (pe_bltn rfl T.z_bool (by decide +kernel) rfl))))))))
theorem sc_is_prime : FnScope ["value"] ["value"] (defScope s_is_prime) := ⟨rfl, rfl, rfl, by decide +kernel, rfl, by decide +kernel, by decide +kernel⟩
theorem ok_is_prime (T : Txt P k ad ca ta K mg) : FnR P w K mg base (L2.CX P w) 2 (ad 12) (spD k K 1 d_is_prime) :=
  fnr_ok (N := ["value"]) (ps := ["value"]) (lvl := 1) (m := b_is_prime) T.f_is_prime sc_is_prime (fun cdv A outer s H E hr =>
  (jb_one (js_ret (j_and (j_call (ok_is_integer (P := P) (w := w) (base := base) T) (hr.mono (by decide)) pass_def rfl T.m_is_integer T.f_is_integer.kp (ja_cons (j_var 0) ja_nil)) (j_one (j_cmp (b_in (hr_un65 hr)) (j_var 0) (j_globD T.g_PRIMES rfl) (by with_unfolding_all rfl)))))))
theorem sc_is_between : FnScope ["value", "low", "high"] ["value", "low", "high"] (defScope s_is_between) := ⟨rfl, rfl, rfl, by decide +kernel, rfl, by decide +kernel, by decide +kernel⟩
theorem ok_is_between (T : Txt P k ad ca ta K mg) : FnR P w K mg base (L2.CX P w) 1 (ad 10) (spD k K 3 d_is_between) :=
  fnr_ok (N := ["value", "low", "high"]) (ps := ["value", "low", "high"]) (lvl := 0) (m := b_is_between) T.f_is_between sc_is_between (fun cdv A outer s H E hr =>
  (jb_one (js_ret (j_and (j_isi (cs := [0, 1]) (t := .int) (u := .type "int") (c := .ty "int") (te := tC (.ty "int")) ⟨(in_cons ⟨T.cl_0, T.is_0, T.ki_0_int⟩ (in_cons ⟨T.cl_1, T.is_1, T.ki_1_int⟩ in_nil)), kit_bu .int (by simp)⟩ rfl (fun _ h => h) (.ty _) rfl T.z_isinstance (j_var 0) (pe_bltn rfl T.z_int (by decide +kernel) rfl)) (j_and (j_not (j_isi (cs := [0, 1]) (t := .bool) (u := .type "bool") (c := .ty "bool") (te := tC (.ty "bool")) ⟨(in_cons ⟨T.cl_0, T.is_0, T.ki_0_bool⟩ (in_cons ⟨T.cl_1, T.is_1, T.ki_1_bool⟩ in_nil)), kit_bu .bool (by simp)⟩ rfl (fun _ h => h) (.ty _) rfl T.z_isinstance (j_var 0) (pe_bltn rfl T.z_bool (by decide +kernel) rfl))) (j_one (j_chain b_le b_le (j_var 1) (j_var 0) (j_var 2))))))))
theorem sc_power : FnScope ["base", "exponent", "found", "index"] ["base", "exponent"] (defScope s_power) := ⟨rfl, rfl, rfl, by decide +kernel, rfl, by decide +kernel, by decide +kernel⟩
theorem ok_power (T : Txt P k ad ca ta K mg) : FnR P w K mg base (L2.CX P w) 1 (ad 9) (spD k K 2 d_power) :=
  fnr_ok (N := ["base", "exponent", "found", "index"]) (ps := ["base", "exponent"]) (lvl := 0) (m := b_power) T.f_power sc_power (fun cdv A outer s H E hr =>
  (jb_cons (js_set 2 sc_power.nd rfl (by first | exact Or.inl rfl | exact Or.inr rfl) j_int)
  (jb_cons (js_for (passes_of rfl) rfl (ji_range1 rfl T.z_range (ja_cons (j_var 1) ja_nil)) (jg_name 3 sc_power.nd rfl (by first | exact Or.inl rfl | exact Or.inr rfl))
  (jb_one (js_set 2 sc_power.nd rfl (by first | exact Or.inl rfl | exact Or.inr rfl) (j_op b_mul (j_var 2) (j_var 0)))))
  (jb_one (js_ret (j_var 2))))))
theorem sc_is_size : FnScope ["prime", "value"] ["prime", "value"] (defScope s_is_size) := ⟨rfl, rfl, rfl, by decide +kernel, rfl, by decide +kernel, by decide +kernel⟩
theorem ok_is_size (T : Txt P k ad ca ta K mg) : FnR P w K mg base (L2.CX P w) 3 (ad 13) (spD k K 2 d_is_size) :=
  fnr_ok (N := ["prime", "value"]) (ps := ["prime", "value"]) (lvl := 2) (m := b_is_size) T.f_is_size sc_is_size (fun cdv A outer s H E hr =>
  (jb_one (js_ret (j_and (j_call (ok_is_prime (P := P) (w := w) (base := base) T) (hr.mono (by decide)) pass_def rfl T.m_is_prime T.f_is_prime.kp (ja_cons (j_var 0) ja_nil)) (j_and (j_call (ok_is_between (P := P) (w := w) (base := base) T) (hr.mono (by decide)) pass_def rfl T.m_is_between T.f_is_between.kp (ja_cons (j_var 1) (ja_cons j_int (ja_cons j_int ja_nil)))) (j_one (j_cmp b_le (j_call (ok_power (P := P) (w := w) (base := base) T) (hr.mono (by decide)) pass_def rfl T.m_power T.f_power.kp (ja_cons (j_var 0) (ja_cons (j_var 1) ja_nil))) (j_globD T.g_MOST_DATA rfl) (nomark _))))))))
theorem sc_is_data : FnScope ["prime", "size", "value", "number"] ["prime", "size", "value"] (defScope s_is_data) := ⟨rfl, rfl, rfl, by decide +kernel, rfl, by decide +kernel, by decide +kernel⟩
theorem ok_is_data (T : Txt P k ad ca ta K mg) : FnR P w K mg base (L2.CX P w) 4 (ad 14) (spD k K 3 d_is_data) :=
  fnr_ok (N := ["prime", "size", "value", "number"]) (ps := ["prime", "size", "value"]) (lvl := 3) (m := b_is_data) T.f_is_data sc_is_data (fun cdv A outer s H E hr =>
  (jb_cons (js_if (jt_w (jw_or (jt_not (jt_val (j_call (ok_is_size (P := P) (w := w) (base := base) T) (hr.mono (by decide)) pass_def rfl T.m_is_size T.f_is_size.kp (ja_cons (j_var 0) (ja_cons (j_var 1) ja_nil))))) (jw_or (jt_not (jt_val (j_isiS (cs := [0, 1]) ⟨(in_cons ⟨T.cl_0, T.is_0, T.kas_0⟩ (in_cons ⟨T.cl_1, T.is_1, T.kas_1⟩ in_nil))⟩ rfl T.z_isinstance rfl T.z_list rfl T.z_tuple (j_var 2)))) (jw_or1 (jt_cmp (b_ne hr.units) (j_callB f_len rfl T.z_len (by decide +kernel) (ja_cons (j_var 2) ja_nil)) (j_var 1) (nomark _)))))) (jb_one (js_ret j_bl)) jb_nil)
  (jb_one (js_ret (j_callB (f_all rfl) rfl T.z_all (by decide +kernel) (ja_cons (j_comp (own := [("number", 3)]) (by decide) rfl sc_is_data.nd (ji_seq (j_var 2)) (blkOk_by (N := ["prime", "size", "value", "number"]) (sc := defScope s_is_data) (by decide +kernel)) (fun _ _ _ _ _ => (jg_name 3 sc_is_data.nd rfl (by first | exact Or.inl rfl | exact Or.inr rfl))) (fun _ _ _ _ _ => jts_nil) (fun _ _ _ _ _ => (j_call (ok_is_between (P := P) (w := w) (base := base) T) (hr.mono (by decide)) passL rfl T.m_is_between T.f_is_between.kp (ja_cons (j_var 3) (ja_cons j_int (ja_cons (j_op b_sub (j_var 0) j_int) ja_nil)))))) ja_nil))))))
theorem sc_Sum_init : FnScope ["self", "prime", "factors"] ["self", "prime", "factors"] (defScope s_Sum_init) := ⟨rfl, rfl, rfl, by decide +kernel, rfl, by decide +kernel, by decide +kernel⟩
theorem ok_Sum_init (T : Txt P k ad ca ta K mg) : FnR P w K mg base (L2.CX P w) 5 (ad 15) (spD k K 3 d_Sum_init) :=
  fnr_ok (N := ["self", "prime", "factors"]) (ps := ["self", "prime", "factors"]) (lvl := 4) (m := b_Sum_init) T.f_Sum_init sc_Sum_init (fun cdv A outer s H E hr =>
  (jb_cons (js_if (jt_not (jt_val (j_call (ok_is_prime (P := P) (w := w) (base := base) T) (hr.mono (by decide)) pass_def rfl T.m_is_prime T.f_is_prime.kp (ja_cons (j_var 1) ja_nil)))) (jb_one (js_raise (lvl := 0) T.er_3.choose_spec T.xf_3 rfl take_def (hr.mono (by decide)) rfl T.ge_3 (j_var 1))) jb_nil)
  (jb_cons (js_if (jt_w (jw_or (jt_not (jt_val (j_isiS (cs := [0, 1]) ⟨(in_cons ⟨T.cl_0, T.is_0, T.kas_0⟩ (in_cons ⟨T.cl_1, T.is_1, T.kas_1⟩ in_nil))⟩ rfl T.z_isinstance rfl T.z_list rfl T.z_tuple (j_var 2)))) (jw_or1 (jt_not (jt_val (j_call (ok_is_data (P := P) (w := w) (base := base) T) (hr.mono (by decide)) pass_def rfl T.m_is_data T.f_is_data.kp (ja_cons (j_var 1) (ja_cons (j_callB f_len rfl T.z_len (by decide +kernel) (ja_cons (j_var 2) ja_nil)) (ja_cons (j_var 2) ja_nil))))))))) (jb_one (js_raise (lvl := 0) T.er_3.choose_spec T.xf_3 rfl take_def (hr.mono (by decide)) rfl T.ge_3 (j_var 2))) jb_nil)
  (jb_cons (js_attr (tab := [(0, 0)]) ⟨⟨T.cl_0, T.sl_0_own_prime⟩, trivial⟩ (j_var 0) (j_var 1))
  (jb_one (js_attr (tab := [(0, 1)]) ⟨⟨T.cl_0, T.sl_0_row⟩, trivial⟩ (j_var 0) (j_callTy f_tuple rfl T.z_tuple (by decide +kernel) (ja_cons (j_var 2) ja_nil))))))))
theorem sc_Space_prime : FnScope ["self"] ["self"] (defScope s_Space_prime) := ⟨rfl, rfl, rfl, by decide +kernel, rfl, by decide +kernel, by decide +kernel⟩
theorem ok_Space_prime (T : Txt P k ad ca ta K mg) : FnR P w K mg base (L2.CX P w) 1 (ad 30) (spD k K 1 d_Space_prime) :=
  fnr_ok (N := ["self"]) (ps := ["self"]) (lvl := 0) (m := b_Space_prime) T.f_Space_prime sc_Space_prime (fun cdv A outer s H E hr =>
  (jb_one (js_ret (j_attr (tab := [(1, .slot 1)]) ⟨⟨T.cl_1, T.sl_1_own_prime⟩, trivial⟩ (j_var 0)))))
theorem sc_Sum_prime : FnScope ["self"] ["self"] (defScope s_Sum_prime) := ⟨rfl, rfl, rfl, by decide +kernel, rfl, by decide +kernel, by decide +kernel⟩
theorem ok_Sum_prime (T : Txt P k ad ca ta K mg) : FnR P w K mg base (L2.CX P w) 1 (ad 17) (spD k K 1 d_Sum_prime) :=
  fnr_ok (N := ["self"]) (ps := ["self"]) (lvl := 0) (m := b_Sum_prime) T.f_Sum_prime sc_Sum_prime (fun cdv A outer s H E hr =>
  (jb_one (js_ret (j_attr (tab := [(0, .slot 0)]) ⟨⟨T.cl_0, T.sl_0_own_prime⟩, trivial⟩ (j_var 0)))))
theorem sc_Space_size : FnScope ["self"] ["self"] (defScope s_Space_size) := ⟨rfl, rfl, rfl, by decide +kernel, rfl, by decide +kernel, by decide +kernel⟩
theorem ok_Space_size (T : Txt P k ad ca ta K mg) : FnR P w K mg base (L2.CX P w) 1 (ad 31) (spD k K 1 d_Space_size) :=
  fnr_ok (N := ["self"]) (ps := ["self"]) (lvl := 0) (m := b_Space_size) T.f_Space_size sc_Space_size (fun cdv A outer s H E hr =>
  (jb_one (js_ret (j_attr (tab := [(1, .slot 2)]) ⟨⟨T.cl_1, T.sl_1_own_size⟩, trivial⟩ (j_var 0)))))
theorem sc_Sum_size : FnScope ["self"] ["self"] (defScope s_Sum_size) := ⟨rfl, rfl, rfl, by decide +kernel, rfl, by decide +kernel, by decide +kernel⟩
theorem ok_Sum_size (T : Txt P k ad ca ta K mg) : FnR P w K mg base (L2.CX P w) 1 (ad 19) (spD k K 1 d_Sum_size) :=
  fnr_ok (N := ["self"]) (ps := ["self"]) (lvl := 0) (m := b_Sum_size) T.f_Sum_size sc_Sum_size (fun cdv A outer s H E hr =>
  (jb_one (js_ret (j_callB f_len rfl T.z_len (by decide +kernel) (ja_cons (j_attr (tab := [(0, .slot 1)]) ⟨⟨T.cl_0, T.sl_0_row⟩, trivial⟩ (j_var 0)) ja_nil)))))
theorem sc_is_sum : FnScope ["value", "prime", "size"] ["value", "prime", "size"] (defScope s_is_sum) := ⟨rfl, rfl, rfl, by decide +kernel, rfl, by decide +kernel, by decide +kernel⟩
theorem ok_is_sum (T : Txt P k ad ca ta K mg) : FnR P w K mg base (L2.CX P w) 3 (ad 28) (spD k K 3 d_is_sum) :=
  fnr_ok (N := ["value", "prime", "size"]) (ps := ["value", "prime", "size"]) (lvl := 2) (m := b_is_sum) T.f_is_sum sc_is_sum (fun cdv A outer s H E hr =>
  (jb_one (js_ret (j_and (j_isi (cs := [0, 1]) (t := .cls 0) (u := .ref (k.cl 0)) (c := .ref (k.cl 0)) (te := tC (.ref (k.cl 0))) ⟨(in_cons ⟨T.cl_0, T.is_0, T.ki_0_0⟩ (in_cons ⟨T.cl_1, T.is_1, T.ki_1_0⟩ in_nil)), T.kb_0⟩ rfl (fun _ h => h) (.own _) rfl T.z_isinstance (j_var 0) (pe_glob rfl T.g_Sum rfl)) (j_and (j_cmp (b_eq hr.units) (j_attr (tab := [(0, .prop d_Sum_prime), (1, .prop d_Space_prime)]) ⟨prop_at (T.cl_0) T.pr_0_prime (ok_Sum_prime (P := P) (w := w) (base := base) T) (hr.mono (by decide)), ⟨prop_at (T.cl_1) T.pr_1_prime (ok_Space_prime (P := P) (w := w) (base := base) T) (hr.mono (by decide)), trivial⟩⟩ (j_var 0)) (j_var 1) (nomark _)) (j_one (j_cmp (b_eq hr.units) (j_attr (tab := [(0, .prop d_Sum_size), (1, .prop d_Space_size)]) ⟨prop_at (T.cl_0) T.pr_0_size (ok_Sum_size (P := P) (w := w) (base := base) T) (hr.mono (by decide)), ⟨prop_at (T.cl_1) T.pr_1_size (ok_Space_size (P := P) (w := w) (base := base) T) (hr.mono (by decide)), trivial⟩⟩ (j_var 0)) (j_var 2) (nomark _))))))))
theorem sc_Sum_factors : FnScope ["self"] ["self"] (defScope s_Sum_factors) := ⟨rfl, rfl, rfl, by decide +kernel, rfl, by decide +kernel, by decide +kernel⟩
theorem ok_Sum_factors (T : Txt P k ad ca ta K mg) : FnR P w K mg base (L2.CX P w) 1 (ad 18) (spD k K 1 d_Sum_factors) :=
  fnr_ok (N := ["self"]) (ps := ["self"]) (lvl := 0) (m := b_Sum_factors) T.f_Sum_factors sc_Sum_factors (fun cdv A outer s H E hr =>
  (jb_one (js_ret (j_attr (tab := [(0, .slot 1)]) ⟨⟨T.cl_0, T.sl_0_row⟩, trivial⟩ (j_var 0)))))
theorem sc_lead : FnScope ["row", "place"] ["row"] (defScope s_lead) := ⟨rfl, rfl, rfl, by decide +kernel, rfl, by decide +kernel, by decide +kernel⟩
theorem ok_lead (T : Txt P k ad ca ta K mg) : FnR P w K mg base (L2.CX P w) 1 (ad 4) (spD k K 1 d_lead) :=
  fnr_ok (N := ["row", "place"]) (ps := ["row"]) (lvl := 0) (m := b_lead) T.f_lead sc_lead (fun cdv A outer s H E hr =>
  (jb_cons (js_set 1 sc_lead.nd rfl (by first | exact Or.inl rfl | exact Or.inr rfl) j_int)
  (jb_cons (js_while 100 (passes_of rfl) (jt_w (jw_and (jt_cmp (b_lt hr.units0) (j_var 1) (j_callB f_len rfl T.z_len (by decide +kernel) (ja_cons (j_var 0) ja_nil)) (nomark _)) (jw_and1 (jt_cmp (b_eq hr.units) (j_ix (j_var 0) (j_var 1) (fun _ _ => rfl)) j_int (nomark _)))))
  (jb_one (js_aug 1 sc_lead.nd rfl (by first | exact Or.inl rfl | exact Or.inr rfl) j_int)))
  (jb_one (js_ret (j_var 1))))))
theorem sc_added : FnScope ["row", "other", "factor", "prime", "one", "two"] ["row", "other", "factor", "prime"] (defScope s_added) := ⟨rfl, rfl, rfl, by decide +kernel, rfl, by decide +kernel, by decide +kernel⟩
theorem ok_added (T : Txt P k ad ca ta K mg) : FnR P w K mg base (L2.CX P w) 1 (ad 3) (spD k K 4 d_added) :=
  fnr_ok (N := ["row", "other", "factor", "prime", "one", "two"]) (ps := ["row", "other", "factor", "prime"]) (lvl := 0) (m := b_added) T.f_added sc_added (fun cdv A outer s H E hr =>
  (jb_one (js_ret (j_callTy f_tuple rfl T.z_tuple (by decide +kernel) (ja_cons (j_comp (own := [("one", 4), ("two", 5)]) (by decide) rfl sc_added.nd (ji_zipK rfl T.z_zip (ja_cons (j_var 0) (ja_cons (j_var 1) ja_nil))) (blkOk_by (N := ["row", "other", "factor", "prime", "one", "two"]) (sc := defScope s_added) (by decide +kernel)) (fun _ _ _ _ _ => (jg_tup rfl (jgs_cons (jg_name 4 sc_added.nd rfl (by first | exact Or.inl rfl | exact Or.inr rfl)) (jgs_cons (jg_name 5 sc_added.nd rfl (by first | exact Or.inl rfl | exact Or.inr rfl)) jgs_nil)))) (fun _ _ _ _ _ => jts_nil) (fun _ _ _ _ _ => (j_op b_mod (j_op b_add (j_var 4) (j_op b_mul (j_var 2) (j_var 5))) (j_var 3)))) ja_nil)))))
theorem sc_rest_of : FnScope ["row", "rows", "prime", "other"] ["row", "rows", "prime"] (defScope s_rest_of) := ⟨rfl, rfl, rfl, by decide +kernel, rfl, by decide +kernel, by decide +kernel⟩
theorem ok_rest_of (T : Txt P k ad ca ta K mg) : FnR P w K mg base (L2.CX P w) 2 (ad 5) (spD k K 3 d_rest_of) :=
  fnr_ok (N := ["row", "rows", "prime", "other"]) (ps := ["row", "rows", "prime"]) (lvl := 1) (m := b_rest_of) T.f_rest_of sc_rest_of (fun cdv A outer s H E hr =>
  (jb_cons (js_for (passes_of rfl) rfl (ji_seq (j_var 1)) (jg_name 3 sc_rest_of.nd rfl (by first | exact Or.inl rfl | exact Or.inr rfl))
  (jb_one (js_set 0 sc_rest_of.nd rfl (by first | exact Or.inl rfl | exact Or.inr rfl) (j_call (ok_added (P := P) (w := w) (base := base) T) (hr.mono (by decide)) pass_def rfl T.m_added T.f_added.kp (ja_cons (j_var 0) (ja_cons (j_var 3) (ja_cons (j_un u_neg (j_ix (j_var 0) (j_call (ok_lead (P := P) (w := w) (base := base) T) (hr.mono (by decide)) pass_def rfl T.m_lead T.f_lead.kp (ja_cons (j_var 3) ja_nil)) (fun _ _ => rfl))) (ja_cons (j_var 2) ja_nil))))))))
  (jb_one (js_ret (j_var 0)))))
theorem sc_inverse : FnScope ["number", "prime", "found"] ["number", "prime"] (defScope s_inverse) := ⟨rfl, rfl, rfl, by decide +kernel, rfl, by decide +kernel, by decide +kernel⟩
theorem ok_inverse (T : Txt P k ad ca ta K mg) : FnR P w K mg base (L2.CX P w) 1 (ad 1) (spD k K 2 d_inverse) :=
  fnr_ok (N := ["number", "prime", "found"]) (ps := ["number", "prime"]) (lvl := 0) (m := b_inverse) T.f_inverse sc_inverse (fun cdv A outer s H E hr =>
  (jb_cons (js_set 2 sc_inverse.nd rfl (by first | exact Or.inl rfl | exact Or.inr rfl) j_int)
  (jb_cons (js_while 100 (passes_of rfl) (jt_cmp (b_ne hr.units) (j_op b_mod (j_op b_mul (j_var 2) (j_var 0)) (j_var 1)) j_int (nomark _))
  (jb_one (js_aug 2 sc_inverse.nd rfl (by first | exact Or.inl rfl | exact Or.inr rfl) j_int)))
  (jb_one (js_ret (j_var 2))))))
theorem sc_scaled : FnScope ["row", "factor", "prime", "number"] ["row", "factor", "prime"] (defScope s_scaled) := ⟨rfl, rfl, rfl, by decide +kernel, rfl, by decide +kernel, by decide +kernel⟩
theorem ok_scaled (T : Txt P k ad ca ta K mg) : FnR P w K mg base (L2.CX P w) 1 (ad 2) (spD k K 3 d_scaled) :=
  fnr_ok (N := ["row", "factor", "prime", "number"]) (ps := ["row", "factor", "prime"]) (lvl := 0) (m := b_scaled) T.f_scaled sc_scaled (fun cdv A outer s H E hr =>
  (jb_one (js_ret (j_callTy f_tuple rfl T.z_tuple (by decide +kernel) (ja_cons (j_comp (own := [("number", 3)]) (by decide) rfl sc_scaled.nd (ji_seq (j_var 0)) (blkOk_by (N := ["row", "factor", "prime", "number"]) (sc := defScope s_scaled) (by decide +kernel)) (fun _ _ _ _ _ => (jg_name 3 sc_scaled.nd rfl (by first | exact Or.inl rfl | exact Or.inr rfl))) (fun _ _ _ _ _ => jts_nil) (fun _ _ _ _ _ => (j_op b_mod (j_op b_mul (j_var 3) (j_var 1)) (j_var 2)))) ja_nil)))))
theorem sc_reduced : FnScope ["rows", "prime", "found", "row", "place", "other"] ["rows", "prime"] (defScope s_reduced) := ⟨rfl, rfl, rfl, by decide +kernel, rfl, by decide +kernel, by decide +kernel⟩
theorem ok_reduced (T : Txt P k ad ca ta K mg) : FnR P w K mg base (L2.CX P w) 4 (ad 6) (spD k K 2 d_reduced) :=
  fnr_ok (N := ["rows", "prime", "found", "row", "place", "other"]) (ps := ["rows", "prime"]) (lvl := 3) (m := b_reduced) T.f_reduced sc_reduced (fun cdv A outer s H E hr =>
  (jb_cons (js_set 2 sc_reduced.nd rfl (by first | exact Or.inl rfl | exact Or.inr rfl) (j_lstM ja_nil))
  (jb_cons (js_for (passes_of rfl) rfl (ji_seq (j_var 0)) (jg_name 3 sc_reduced.nd rfl (by first | exact Or.inl rfl | exact Or.inr rfl))
  (jb_cons (js_set 3 sc_reduced.nd rfl (by first | exact Or.inl rfl | exact Or.inr rfl) (j_call (ok_rest_of (P := P) (w := w) (base := base) T) (hr.mono (by decide)) pass_def rfl T.m_rest_of T.f_rest_of.kp (ja_cons (j_var 3) (ja_cons (j_var 2) (ja_cons (j_var 1) ja_nil)))))
  (jb_cons (js_set 4 sc_reduced.nd rfl (by first | exact Or.inl rfl | exact Or.inr rfl) (j_call (ok_lead (P := P) (w := w) (base := base) T) (hr.mono (by decide)) pass_def rfl T.m_lead T.f_lead.kp (ja_cons (j_var 3) ja_nil)))
  (jb_one (js_if (jt_cmp (b_lt hr.units0) (j_var 4) (j_callB f_len rfl T.z_len (by decide +kernel) (ja_cons (j_var 3) ja_nil)) (nomark _)) (jb_cons (js_set 3 sc_reduced.nd rfl (by first | exact Or.inl rfl | exact Or.inr rfl) (j_call (ok_scaled (P := P) (w := w) (base := base) T) (hr.mono (by decide)) pass_def rfl T.m_scaled T.f_scaled.kp (ja_cons (j_var 3) (ja_cons (j_call (ok_inverse (P := P) (w := w) (base := base) T) (hr.mono (by decide)) pass_def rfl T.m_inverse T.f_inverse.kp (ja_cons (j_ix (j_var 3) (j_var 4) (fun _ _ => rfl)) (ja_cons (j_var 1) ja_nil))) (ja_cons (j_var 1) ja_nil)))))
  (jb_cons (js_setC (i := 2) (own := [("other", 5)]) fin_loc (by decide) rfl sc_reduced.nd rfl rfl rfl (ji_seq (j_var 2)) (blkOk_by (N := ["rows", "prime", "found", "row", "place", "other"]) (sc := defScope s_reduced) (by decide +kernel)) (fun _ _ _ _ _ => (jg_name 5 sc_reduced.nd rfl (by first | exact Or.inl rfl | exact Or.inr rfl))) (fun _ _ _ _ _ => jts_nil) (fun _ _ _ _ _ => (j_call (ok_added (P := P) (w := w) (base := base) T) (hr.mono (by decide)) passL rfl T.m_added T.f_added.kp (ja_cons (j_var 5) (ja_cons (j_var 3) (ja_cons (j_un u_neg (j_ix (j_var 5) (j_var 4) (fun _ _ => rfl))) (ja_cons (j_var 1) ja_nil)))))))
  (jb_one (js_expr (j_app (j_var 2) (j_var 3)))))) jb_nil)))))
  (jb_one (js_ret (j_sortK (ok_lead (P := P) (w := w) (base := base) T) (hr.mono (by decide)) rfl T.z_sorted rfl T.m_lead (j_var 2)))))))
theorem sc_Space_init : FnScope ["self", "prime", "size", "sums", "item", "row"] ["self", "prime", "size", "sums"] (defScope s_Space_init) := ⟨rfl, rfl, rfl, by decide +kernel, rfl, by decide +kernel, by decide +kernel⟩
theorem jb_Space_init (T : Txt P k ad ca ta K mg) (cdv : Value) (A : Around) (outer : List Env) (s : Shared) (H : Hp) (E : XK) (hr : Room 6 (A.deeper (envOfC "Space.__init__" (defScope s_Space_init) s.heap.objs.size (ad 29) cdv))) : JB k (cxOf (L2.CX P w) P w K mg base ["self", "prime", "size", "sums", "item", "row"] "Space.__init__" (defScope s_Space_init) (ad 29) cdv A outer s H E) E (defBody s_Space_init) b_Space_init :=
  (jb_cons (js_if (jt_not (jt_val (j_call (ok_is_prime (P := P) (w := w) (base := base) T) (hr.mono (by decide)) pass_def rfl T.m_is_prime T.f_is_prime.kp (ja_cons (j_var 1) ja_nil)))) (jb_one (js_raise (lvl := 0) T.er_5.choose_spec T.xf_5 rfl take_def (hr.mono (by decide)) rfl T.ge_5 (j_var 1))) jb_nil)
  (jb_cons (js_if (jt_not (jt_val (j_call (ok_is_size (P := P) (w := w) (base := base) T) (hr.mono (by decide)) pass_def rfl T.m_is_size T.f_is_size.kp (ja_cons (j_var 1) (ja_cons (j_var 2) ja_nil))))) (jb_one (js_raise (lvl := 0) T.er_5.choose_spec T.xf_5 rfl take_def (hr.mono (by decide)) rfl T.ge_5 (j_var 2))) jb_nil)
  (jb_cons (js_if (jt_not (jt_val (j_isiS (cs := [0, 1]) ⟨(in_cons ⟨T.cl_0, T.is_0, T.kas_0⟩ (in_cons ⟨T.cl_1, T.is_1, T.kas_1⟩ in_nil))⟩ rfl T.z_isinstance rfl T.z_list rfl T.z_tuple (j_var 3)))) (jb_one (js_raise (lvl := 0) T.er_3.choose_spec T.xf_3 rfl take_def (hr.mono (by decide)) rfl T.ge_3 (j_var 3))) jb_nil)
  (jb_cons (js_for (passes_of rfl) rfl (ji_seq (j_var 3)) (jg_name 4 sc_Space_init.nd rfl (by first | exact Or.inl rfl | exact Or.inr rfl))
  (jb_one (js_if (jt_not (jt_val (j_call (ok_is_sum (P := P) (w := w) (base := base) T) (hr.mono (by decide)) pass_def rfl T.m_is_sum T.f_is_sum.kp (ja_cons (j_var 4) (ja_cons (j_var 1) (ja_cons (j_var 2) ja_nil)))))) (jb_one (js_raise (lvl := 0) T.er_3.choose_spec T.xf_3 rfl take_def (hr.mono (by decide)) rfl T.ge_3 (j_var 4))) jb_nil)))
  (jb_cons (js_asg (j_tup (ja_cons (j_var 1) (ja_cons (j_var 2) ja_nil))) (jg_tup rfl (jgs_cons (jg_attr (tab := [(1, 1)]) ⟨⟨T.cl_1, T.sl_1_own_prime⟩, trivial⟩ (j_var 0)) (jgs_cons (jg_attr (tab := [(1, 2)]) ⟨⟨T.cl_1, T.sl_1_own_size⟩, trivial⟩ (j_var 0)) jgs_nil))))
  (jb_cons (js_attr (tab := [(1, 3)]) ⟨⟨T.cl_1, T.sl_1_rows⟩, trivial⟩ (j_var 0) (j_call (ok_reduced (P := P) (w := w) (base := base) T) (hr.mono (by decide)) pass_def rfl T.m_reduced T.f_reduced.kp (ja_cons (j_comp (own := [("item", 4)]) (by decide) rfl sc_Space_init.nd (ji_seq (j_var 3)) (blkOk_by (N := ["self", "prime", "size", "sums", "item", "row"]) (sc := defScope s_Space_init) (by decide +kernel)) (fun _ _ _ _ _ => (jg_name 4 sc_Space_init.nd rfl (by first | exact Or.inl rfl | exact Or.inr rfl))) (fun _ _ _ _ _ => jts_nil) (fun _ _ _ _ _ => (j_attr (tab := [(0, .prop d_Sum_factors)]) ⟨prop_at (T.cl_0) T.pr_0_factors (ok_Sum_factors (P := P) (w := w) (base := base) T) (hr.mono (by decide)), trivial⟩ (j_var 4)))) (ja_cons (j_var 1) ja_nil))))
  (jb_one (js_attr (tab := [(1, 0)]) ⟨⟨T.cl_1, T.sl_1_listed⟩, trivial⟩ (j_var 0) (j_comp (own := [("row", 5)]) (by decide) rfl sc_Space_init.nd (ji_seq (j_attr (tab := [(1, .slot 3)]) ⟨⟨T.cl_1, T.sl_1_rows⟩, trivial⟩ (j_var 0))) (blkOk_by (N := ["self", "prime", "size", "sums", "item", "row"]) (sc := defScope s_Space_init) (by decide +kernel)) (fun _ _ _ _ _ => (jg_name 5 sc_Space_init.nd rfl (by first | exact Or.inl rfl | exact Or.inr rfl))) (fun _ _ _ _ _ => jts_nil) (fun _ _ _ _ _ => (j_make T.mk_0 (ok_Sum_init (P := P) (w := w) (base := base) T) (hr.mono (by decide)) passL rfl T.g_Sum (ja_cons (j_var 1) (ja_cons (j_var 5) ja_nil)))))))))))))
theorem ok_Space_init (T : Txt P k ad ca ta K mg) : FnR P w K mg base (L2.CX P w) 7 (ad 29) (spD k K 4 d_Space_init) :=
  fnr_okD0 (N := ["self", "prime", "size", "sums", "item", "row"]) (ps := ["self", "prime", "size", "sums"]) (lvl := 6) (m := b_Space_init) T.f_Space_init sc_Space_init (fun _ _ _ _ _ _ _ us its hl hi => match us, hl, its, hi with | [_, _, _, _], _, [_], _ => ⟨_, rfl, rfl⟩) (jb_Space_init T)
theorem sc_made : FnScope ["_law_prime", "_law_size", "_law_rows", "_law_row"] ["_law_prime", "_law_size", "_law_rows"] (defScope s_made) := ⟨rfl, rfl, rfl, by decide +kernel, rfl, by decide +kernel, by decide +kernel⟩
theorem ok_made (T : Txt P k ad ca ta K mg) : FnR P w K mg base (L2.CX P w) 9 (ad 53) (spD k K 3 d_made) :=
  fnr_ok (N := ["_law_prime", "_law_size", "_law_rows", "_law_row"]) (ps := ["_law_prime", "_law_size", "_law_rows"]) (lvl := 8) (m := b_made) T.f_made sc_made (fun cdv A outer s H E hr =>
  (jb_one (js_ret (j_make T.mk_1 (ok_Space_init (P := P) (w := w) (base := base) T) (hr.mono (by decide)) pass_def rfl T.g_Space (ja_cons (j_var 0) (ja_cons (j_var 1) (ja_cons (j_comp (own := [("_law_row", 3)]) (by decide) rfl sc_made.nd (ji_seq (j_var 2)) (blkOk_by (N := ["_law_prime", "_law_size", "_law_rows", "_law_row"]) (sc := defScope s_made) (by decide +kernel)) (fun _ _ _ _ _ => (jg_name 3 sc_made.nd rfl (by first | exact Or.inl rfl | exact Or.inr rfl))) (fun _ _ _ _ _ => jts_nil) (fun _ _ _ _ _ => (j_make T.mk_0 (ok_Sum_init (P := P) (w := w) (base := base) T) (hr.mono (by decide)) passL rfl T.g_Sum (ja_cons (j_var 0) (ja_cons (j_var 3) ja_nil))))) ja_nil)))))))
theorem sc_span : FnScope ["_law_rows", "_law_prime", "_law_size", "_law_found", "_law_row", "_law_longer", "_law_factor", "_law_old", "_law_one", "_law_two"] ["_law_rows", "_law_prime", "_law_size"] (defScope s_span) := ⟨rfl, rfl, rfl, by decide +kernel, rfl, by decide +kernel, by decide +kernel⟩
theorem ok_span (T : Txt P k ad ca ta K mg) : FnR P w K mg base (L2.CX P w) 1 (ad 52) (spD k K 3 d_span) :=
  fnr_ok (N := ["_law_rows", "_law_prime", "_law_size", "_law_found", "_law_row", "_law_longer", "_law_factor", "_law_old", "_law_one", "_law_two"]) (ps := ["_law_rows", "_law_prime", "_law_size"]) (lvl := 0) (m := b_span) T.f_span sc_span (fun cdv A outer s H E hr =>
  (jb_cons (js_set 3 sc_span.nd rfl (by first | exact Or.inl rfl | exact Or.inr rfl) (j_lst (ja_cons (j_op b_mulX (j_tup (ja_cons j_int ja_nil)) (j_var 2)) ja_nil)))
  (jb_cons (js_for (passes_of rfl) rfl (ji_seq (j_var 0)) (jg_name 4 sc_span.nd rfl (by first | exact Or.inl rfl | exact Or.inr rfl))
  (jb_cons (js_set 5 sc_span.nd rfl (by first | exact Or.inl rfl | exact Or.inr rfl) (j_lst ja_nil))
  (jb_cons (js_for (passes_of rfl) rfl (ji_range1 rfl T.z_range (ja_cons (j_var 1) ja_nil)) (jg_name 6 sc_span.nd rfl (by first | exact Or.inl rfl | exact Or.inr rfl))
  (jb_one (js_set 5 sc_span.nd rfl (by first | exact Or.inl rfl | exact Or.inr rfl) (j_op b_add (j_var 5) (j_comp (own := [("_law_old", 7)]) (by decide) rfl sc_span.nd (ji_seq (j_var 3)) (blkOk_by (N := ["_law_rows", "_law_prime", "_law_size", "_law_found", "_law_row", "_law_longer", "_law_factor", "_law_old", "_law_one", "_law_two"]) (sc := defScope s_span) (by decide +kernel)) (fun _ _ _ _ _ => (jg_name 7 sc_span.nd rfl (by first | exact Or.inl rfl | exact Or.inr rfl))) (fun _ _ _ _ _ => jts_nil) (fun _ _ _ _ _ => (j_callTy f_tuple rfl T.z_tuple (by decide +kernel) (ja_cons (j_comp (own := [("_law_one", 8), ("_law_two", 9)]) (by decide) rfl sc_span.nd (ji_zipK rfl T.z_zip (ja_cons (j_var 7) (ja_cons (j_var 4) ja_nil))) (blkOk_nest (N := ["_law_rows", "_law_prime", "_law_size", "_law_found", "_law_row", "_law_longer", "_law_factor", "_law_old", "_law_one", "_law_two"]) (by decide +kernel)) (fun _ _ _ _ _ => (jg_tup rfl (jgs_cons (jg_name 8 sc_span.nd rfl (by first | exact Or.inl rfl | exact Or.inr rfl)) (jgs_cons (jg_name 9 sc_span.nd rfl (by first | exact Or.inl rfl | exact Or.inr rfl)) jgs_nil)))) (fun _ _ _ _ _ => jts_nil) (fun _ _ _ _ _ => (j_op b_mod (j_callTy f_int rfl T.z_int (by decide +kernel) (ja_cons (j_op b_add (j_var 8) (j_op b_mulX (j_var 6) (j_var 9))) ja_nil)) (j_var 1)))) ja_nil))))))))
  (jb_one (js_set 3 sc_span.nd rfl (by first | exact Or.inl rfl | exact Or.inr rfl) (j_sortT hr.units rfl T.z_sorted rfl T.z_set (j_var 5)))))))
  (jb_one (js_ret (j_var 3))))))
theorem sc_Space_require : FnScope ["self", "other"] ["self", "other"] (defScope s_Space_require) := ⟨rfl, rfl, rfl, by decide +kernel, rfl, by decide +kernel, by decide +kernel⟩
theorem ok_Space_require (T : Txt P k ad ca ta K mg) : FnR P w K mg base (L2.CX P w) 3 (ad 38) (spD k K 2 d_Space_require) :=
  fnr_ok (N := ["self", "other"]) (ps := ["self", "other"]) (lvl := 2) (m := b_Space_require) T.f_Space_require sc_Space_require (fun cdv A outer s H E hr =>
  (jb_one (js_if (jt_w (jw_or (jt_not (jt_val (j_isi (cs := [0, 1]) (t := .cls 1) (u := .ref (k.cl 1)) (c := .ref (k.cl 1)) (te := tC (.ref (k.cl 1))) ⟨(in_cons ⟨T.cl_0, T.is_0, T.ki_0_1⟩ (in_cons ⟨T.cl_1, T.is_1, T.ki_1_1⟩ in_nil)), T.kb_1⟩ rfl (fun _ h => h) (.own _) rfl T.z_isinstance (j_var 1) (pe_glob rfl T.g_Space rfl)))) (jw_or (jt_cmp (b_ne hr.units) (j_attr (tab := [(0, .prop d_Sum_prime), (1, .prop d_Space_prime)]) ⟨prop_at (T.cl_0) T.pr_0_prime (ok_Sum_prime (P := P) (w := w) (base := base) T) (hr.mono (by decide)), ⟨prop_at (T.cl_1) T.pr_1_prime (ok_Space_prime (P := P) (w := w) (base := base) T) (hr.mono (by decide)), trivial⟩⟩ (j_var 1)) (j_attr (tab := [(1, .slot 1)]) ⟨⟨T.cl_1, T.sl_1_own_prime⟩, trivial⟩ (j_var 0)) (nomark _)) (jw_or1 (jt_cmp (b_ne hr.units) (j_attr (tab := [(0, .prop d_Sum_size), (1, .prop d_Space_size)]) ⟨prop_at (T.cl_0) T.pr_0_size (ok_Sum_size (P := P) (w := w) (base := base) T) (hr.mono (by decide)), ⟨prop_at (T.cl_1) T.pr_1_size (ok_Space_size (P := P) (w := w) (base := base) T) (hr.mono (by decide)), trivial⟩⟩ (j_var 1)) (j_attr (tab := [(1, .slot 2)]) ⟨⟨T.cl_1, T.sl_1_own_size⟩, trivial⟩ (j_var 0)) (nomark _)))))) (jb_one (js_raise (lvl := 0) T.er_6.choose_spec T.xf_6 rfl take_def (hr.mono (by decide)) rfl T.ge_6 (j_var 1))) jb_nil)))
theorem sc_Space_or : FnScope ["self", "other"] ["self", "other"] (defScope s_Space_or) := ⟨rfl, rfl, rfl, by decide +kernel, rfl, by decide +kernel, by decide +kernel⟩
theorem ok_Space_or (T : Txt P k ad ca ta K mg) : FnR P w K mg base (L2.CX P w) 9 (ad 39) (spD k K 2 d_Space_or) :=
  fnr_ok (N := ["self", "other"]) (ps := ["self", "other"]) (lvl := 8) (m := b_Space_or) T.f_Space_or sc_Space_or (fun cdv A outer s H E hr =>
  (jb_cons (js_expr (j_meth (tab := [(1, 2, d_Space_require)]) ⟨⟨T.cl_1, _, _, T.me_1_require, (ok_Space_require (P := P) (w := w) (base := base) T), (hr.mono (by decide))⟩, trivial⟩ pass_def (j_var 0) (ja_cons (j_var 1) ja_nil)))
  (jb_one (js_ret (j_make T.mk_1 (ok_Space_init (P := P) (w := w) (base := base) T) (hr.mono (by decide)) pass_def rfl T.g_Space (ja_cons (j_attr (tab := [(1, .slot 1)]) ⟨⟨T.cl_1, T.sl_1_own_prime⟩, trivial⟩ (j_var 0)) (ja_cons (j_attr (tab := [(1, .slot 2)]) ⟨⟨T.cl_1, T.sl_1_own_size⟩, trivial⟩ (j_var 0)) (ja_cons (j_lst (ja_star (j_attr (tab := [(1, .slot 0)]) ⟨⟨T.cl_1, T.sl_1_listed⟩, trivial⟩ (j_var 0)) (ja_star (j_attr (tab := [(1, .slot 0)]) ⟨⟨T.cl_1, T.sl_1_listed⟩, trivial⟩ (j_var 1)) ja_nil))) ja_nil))))))))
theorem sc_Space_and : FnScope ["self", "other", "blank", "double", "both", "row"] ["self", "other"] (defScope s_Space_and) := ⟨rfl, rfl, rfl, by decide +kernel, rfl, by decide +kernel, by decide +kernel⟩
theorem ok_Space_and (T : Txt P k ad ca ta K mg) : FnR P w K mg base (L2.CX P w) 9 (ad 40) (spD k K 2 d_Space_and) :=
  fnr_ok (N := ["self", "other", "blank", "double", "both", "row"]) (ps := ["self", "other"]) (lvl := 8) (m := b_Space_and) T.f_Space_and sc_Space_and (fun cdv A outer s H E hr =>
  (jb_cons (js_expr (j_meth (tab := [(1, 2, d_Space_require)]) ⟨⟨T.cl_1, _, _, T.me_1_require, (ok_Space_require (P := P) (w := w) (base := base) T), (hr.mono (by decide))⟩, trivial⟩ pass_def (j_var 0) (ja_cons (j_var 1) ja_nil)))
  (jb_cons (js_set 2 sc_Space_and.nd rfl (by first | exact Or.inl rfl | exact Or.inr rfl) (j_op b_mulX (j_tup (ja_cons j_int ja_nil)) (j_attr (tab := [(1, .slot 2)]) ⟨⟨T.cl_1, T.sl_1_own_size⟩, trivial⟩ (j_var 0))))
  (jb_cons (js_set 3 sc_Space_and.nd rfl (by first | exact Or.inl rfl | exact Or.inr rfl) (j_op b_add (j_comp (own := [("row", 5)]) (by decide) rfl sc_Space_and.nd (ji_seq (j_attr (tab := [(1, .slot 3)]) ⟨⟨T.cl_1, T.sl_1_rows⟩, trivial⟩ (j_var 0))) (blkOk_by (N := ["self", "other", "blank", "double", "both", "row"]) (sc := defScope s_Space_and) (by decide +kernel)) (fun _ _ _ _ _ => (jg_name 5 sc_Space_and.nd rfl (by first | exact Or.inl rfl | exact Or.inr rfl))) (fun _ _ _ _ _ => jts_nil) (fun _ _ _ _ _ => (j_op b_add (j_var 5) (j_var 5)))) (j_comp (own := [("row", 5)]) (by decide) rfl sc_Space_and.nd (ji_seq (j_attr (tab := [(1, .slot 3)]) ⟨⟨T.cl_1, T.sl_1_rows⟩, trivial⟩ (j_var 1))) (blkOk_by (N := ["self", "other", "blank", "double", "both", "row"]) (sc := defScope s_Space_and) (by decide +kernel)) (fun _ _ _ _ _ => (jg_name 5 sc_Space_and.nd rfl (by first | exact Or.inl rfl | exact Or.inr rfl))) (fun _ _ _ _ _ => jts_nil) (fun _ _ _ _ _ => (j_op b_add (j_var 5) (j_var 2))))))
  (jb_cons (js_setC (i := 4) (own := [("row", 5)]) fin_lst (by decide) rfl sc_Space_and.nd rfl rfl rfl (ji_seq (j_call (ok_reduced (P := P) (w := w) (base := base) T) (hr.mono (by decide)) pass_def rfl T.m_reduced T.f_reduced.kp (ja_cons (j_var 3) (ja_cons (j_attr (tab := [(1, .slot 1)]) ⟨⟨T.cl_1, T.sl_1_own_prime⟩, trivial⟩ (j_var 0)) ja_nil)))) (blkOk_by (N := ["self", "other", "blank", "double", "both", "row"]) (sc := defScope s_Space_and) (by decide +kernel)) (fun _ _ _ _ _ => (jg_name 5 sc_Space_and.nd rfl (by first | exact Or.inl rfl | exact Or.inr rfl))) (fun _ _ _ _ _ => (jts_one (jt_cmp b_ge (j_call (ok_lead (P := P) (w := w) (base := base) T) (hr.mono (by decide)) passL rfl T.m_lead T.f_lead.kp (ja_cons (j_var 5) ja_nil)) (j_attr (tab := [(1, .slot 2)]) ⟨⟨T.cl_1, T.sl_1_own_size⟩, trivial⟩ (j_var 0)) (nomark _)))) (fun _ _ _ _ _ => (j_slice (j_var 5) (jo_some (j_attr (tab := [(1, .slot 2)]) ⟨⟨T.cl_1, T.sl_1_own_size⟩, trivial⟩ (j_var 0))) jo_none)))
  (jb_one (js_ret (j_make T.mk_1 (ok_Space_init (P := P) (w := w) (base := base) T) (hr.mono (by decide)) pass_def rfl T.g_Space (ja_cons (j_attr (tab := [(1, .slot 1)]) ⟨⟨T.cl_1, T.sl_1_own_prime⟩, trivial⟩ (j_var 0)) (ja_cons (j_attr (tab := [(1, .slot 2)]) ⟨⟨T.cl_1, T.sl_1_own_size⟩, trivial⟩ (j_var 0)) (ja_cons (j_comp (own := [("row", 5)]) (by decide) rfl sc_Space_and.nd (ji_seq (j_var 4)) (blkOk_by (N := ["self", "other", "blank", "double", "both", "row"]) (sc := defScope s_Space_and) (by decide +kernel)) (fun _ _ _ _ _ => (jg_name 5 sc_Space_and.nd rfl (by first | exact Or.inl rfl | exact Or.inr rfl))) (fun _ _ _ _ _ => jts_nil) (fun _ _ _ _ _ => (j_make T.mk_0 (ok_Sum_init (P := P) (w := w) (base := base) T) (hr.mono (by decide)) passL rfl T.g_Sum (ja_cons (j_attr (tab := [(1, .slot 1)]) ⟨⟨T.cl_1, T.sl_1_own_prime⟩, trivial⟩ (j_var 0)) (ja_cons (j_var 5) ja_nil))))) ja_nil)))))))))))
theorem sc_all_data : FnScope ["_law_prime", "_law_size", "_law_found", "_law_place", "_law_longer", "_law_data", "_law_value_here"] ["_law_prime", "_law_size"] (defScope s_all_data) := ⟨rfl, rfl, rfl, by decide +kernel, rfl, by decide +kernel, by decide +kernel⟩
theorem ok_all_data (T : Txt P k ad ca ta K mg) : FnR P w K mg base (L2.CX P w) 1 (ad 47) (spD k K 2 d_all_data) :=
  fnr_ok (N := ["_law_prime", "_law_size", "_law_found", "_law_place", "_law_longer", "_law_data", "_law_value_here"]) (ps := ["_law_prime", "_law_size"]) (lvl := 0) (m := b_all_data) T.f_all_data sc_all_data (fun cdv A outer s H E hr =>
  (jb_cons (js_set 2 sc_all_data.nd rfl (by first | exact Or.inl rfl | exact Or.inr rfl) (j_lst (ja_cons (j_tup ja_nil) ja_nil)))
  (jb_cons (js_for (passes_of rfl) rfl (ji_range1 rfl T.z_range (ja_cons (j_var 1) ja_nil)) (jg_name 3 sc_all_data.nd rfl (by first | exact Or.inl rfl | exact Or.inr rfl))
  (jb_cons (js_set 4 sc_all_data.nd rfl (by first | exact Or.inl rfl | exact Or.inr rfl) (j_lst ja_nil))
  (jb_cons (js_for (passes_of rfl) rfl (ji_seq (j_var 2)) (jg_name 5 sc_all_data.nd rfl (by first | exact Or.inl rfl | exact Or.inr rfl))
  (jb_one (js_set 4 sc_all_data.nd rfl (by first | exact Or.inl rfl | exact Or.inr rfl) (j_op b_add (j_var 4) (j_comp (own := [("_law_value_here", 6)]) (by decide) rfl sc_all_data.nd (ji_range1 rfl T.z_range (ja_cons (j_var 0) ja_nil)) (blkOk_by (N := ["_law_prime", "_law_size", "_law_found", "_law_place", "_law_longer", "_law_data", "_law_value_here"]) (sc := defScope s_all_data) (by decide +kernel)) (fun _ _ _ _ _ => (jg_name 6 sc_all_data.nd rfl (by first | exact Or.inl rfl | exact Or.inr rfl))) (fun _ _ _ _ _ => jts_nil) (fun _ _ _ _ _ => (j_op b_add (j_var 5) (j_tup (ja_cons (j_var 6) ja_nil)))))))))
  (jb_one (js_set 2 sc_all_data.nd rfl (by first | exact Or.inl rfl | exact Or.inr rfl) (j_var 4))))))
  (jb_one (js_ret (j_var 2))))))
theorem sc_has_row : FnScope ["rows", "row", "prime"] ["rows", "row", "prime"] (defScope s_has_row) := ⟨rfl, rfl, rfl, by decide +kernel, rfl, by decide +kernel, by decide +kernel⟩
theorem ok_has_row (T : Txt P k ad ca ta K mg) : FnR P w K mg base (L2.CX P w) 3 (ad 7) (spD k K 3 d_has_row) :=
  fnr_ok (N := ["rows", "row", "prime"]) (ps := ["rows", "row", "prime"]) (lvl := 2) (m := b_has_row) T.f_has_row sc_has_row (fun cdv A outer s H E hr =>
  (jb_one (js_ret (j_not (j_callB (f_any rfl) rfl T.z_any (by decide +kernel) (ja_cons (j_call (ok_rest_of (P := P) (w := w) (base := base) T) (hr.mono (by decide)) pass_def rfl T.m_rest_of T.f_rest_of.kp (ja_cons (j_var 1) (ja_cons (j_var 0) (ja_cons (j_var 2) ja_nil)))) ja_nil))))))
theorem sc_Space_contains : FnScope ["self", "item"] ["self", "item"] (defScope s_Space_contains) := ⟨rfl, rfl, rfl, by decide +kernel, rfl, by decide +kernel, by decide +kernel⟩
theorem ok_Space_contains (T : Txt P k ad ca ta K mg) : FnR P w K mg base (L2.CX P w) 4 (ad 36) (spD k K 2 d_Space_contains) :=
  fnr_ok (N := ["self", "item"]) (ps := ["self", "item"]) (lvl := 3) (m := b_Space_contains) T.f_Space_contains sc_Space_contains (fun cdv A outer s H E hr =>
  (jb_one (js_ret (j_and (j_call (ok_is_sum (P := P) (w := w) (base := base) T) (hr.mono (by decide)) pass_def rfl T.m_is_sum T.f_is_sum.kp (ja_cons (j_var 1) (ja_cons (j_attr (tab := [(1, .slot 1)]) ⟨⟨T.cl_1, T.sl_1_own_prime⟩, trivial⟩ (j_var 0)) (ja_cons (j_attr (tab := [(1, .slot 2)]) ⟨⟨T.cl_1, T.sl_1_own_size⟩, trivial⟩ (j_var 0)) ja_nil)))) (j_one (j_call (ok_has_row (P := P) (w := w) (base := base) T) (hr.mono (by decide)) pass_def rfl T.m_has_row T.f_has_row.kp (ja_cons (j_attr (tab := [(1, .slot 3)]) ⟨⟨T.cl_1, T.sl_1_rows⟩, trivial⟩ (j_var 0)) (ja_cons (j_attr (tab := [(0, .prop d_Sum_factors)]) ⟨prop_at (T.cl_0) T.pr_0_factors (ok_Sum_factors (P := P) (w := w) (base := base) T) (hr.mono (by decide)), trivial⟩ (j_var 1)) (ja_cons (j_attr (tab := [(1, .slot 1)]) ⟨⟨T.cl_1, T.sl_1_own_prime⟩, trivial⟩ (j_var 0)) ja_nil)))))))))
theorem sc_Space_within : FnScope ["self", "other", "row"] ["self", "other"] (defScope s_Space_within) := ⟨rfl, rfl, rfl, by decide +kernel, rfl, by decide +kernel, by decide +kernel⟩
theorem ok_Space_within (T : Txt P k ad ca ta K mg) : FnR P w K mg base (L2.CX P w) 4 (ad 41) (spD k K 2 d_Space_within) :=
  fnr_ok (N := ["self", "other", "row"]) (ps := ["self", "other"]) (lvl := 3) (m := b_Space_within) T.f_Space_within sc_Space_within (fun cdv A outer s H E hr =>
  (jb_cons (js_expr (j_meth (tab := [(1, 2, d_Space_require)]) ⟨⟨T.cl_1, _, _, T.me_1_require, (ok_Space_require (P := P) (w := w) (base := base) T), (hr.mono (by decide))⟩, trivial⟩ pass_def (j_var 0) (ja_cons (j_var 1) ja_nil)))
  (jb_one (js_ret (j_callB (f_all rfl) rfl T.z_all (by decide +kernel) (ja_cons (j_comp (own := [("row", 2)]) (by decide) rfl sc_Space_within.nd (ji_seq (j_attr (tab := [(1, .slot 3)]) ⟨⟨T.cl_1, T.sl_1_rows⟩, trivial⟩ (j_var 0))) (blkOk_by (N := ["self", "other", "row"]) (sc := defScope s_Space_within) (by decide +kernel)) (fun _ _ _ _ _ => (jg_name 2 sc_Space_within.nd rfl (by first | exact Or.inl rfl | exact Or.inr rfl))) (fun _ _ _ _ _ => jts_nil) (fun _ _ _ _ _ => (j_call (ok_has_row (P := P) (w := w) (base := base) T) (hr.mono (by decide)) passL rfl T.m_has_row T.f_has_row.kp (ja_cons (j_attr (tab := [(1, .slot 3)]) ⟨⟨T.cl_1, T.sl_1_rows⟩, trivial⟩ (j_var 1)) (ja_cons (j_var 2) (ja_cons (j_attr (tab := [(1, .slot 1)]) ⟨⟨T.cl_1, T.sl_1_own_prime⟩, trivial⟩ (j_var 0)) ja_nil)))))) ja_nil))))))
theorem sc_law : FnScope ["_law_script", "_law_turn", "_law_source_here", "_law_every", "_law_data", "_law_prime", "_law_size", "_law_rows", "_law_others", "_law_one", "_law_other", "_law_first", "_law_second", "_law_both", "_law_common", "_law_item"] ["_law_script"] (defScope s_law) := ⟨rfl, rfl, rfl, by decide +kernel, rfl, by decide +kernel, by decide +kernel⟩
theorem ok_law (T : Txt P k ad ca ta K mg) (TB : TBs ca ta base mg) : FnG P w K mg base 10 (ad 54) (spD k K 1 d_law) :=
  fng_any (N := ["_law_script", "_law_turn", "_law_source_here", "_law_every", "_law_data", "_law_prime", "_law_size", "_law_rows", "_law_others", "_law_one", "_law_other", "_law_first", "_law_second", "_law_both", "_law_common", "_law_item"]) (ps := ["_law_script"]) (lvl := 9) (m := b_law) T.f_law sc_law (fun cdv A outer s H E hgd hr =>
  (jb_cons (js_for (passes_of rfl) rfl (ji_range1 rfl T.z_range (ja_cons (j_callB (f_max rfl) rfl T.z_max (by decide +kernel) (ja_cons j_int (ja_cons (j_callB (f_min rfl) rfl T.z_min (by decide +kernel) (ja_cons (j_callB (f_ownLen (tab := [(1, 1, d_Space_len)]) ⟨⟨_, _, T.me_1_len.at_, T.me_1_len.fn, (ok_Space_len (P := P) (w := w) (base := base) T), (hr.mono (by decide))⟩, trivial⟩ pass_def) rfl T.z_len (by decide +kernel) (ja_cons (j_var 0) ja_nil)) (ja_cons j_int ja_nil))) ja_nil))) ja_nil)) (jg_name 1 sc_law.nd rfl (by first | exact Or.inl rfl | exact Or.inr rfl))
  (jb_cons (js_set 2 sc_law.nd rfl (by first | exact Or.inl rfl | exact Or.inr rfl) (j_call (ok_source (P := P) (w := w) (base := base) T) (hr.mono (by decide)) pass_def rfl T.m_source T.f_source.kp (ja_cons (j_var 0) (ja_cons (j_var 1) ja_nil))))
  (jb_cons (js_asg (j_call (ok_form (P := P) (w := w) (base := base) T) (hr.mono (by decide)) pass_def rfl T.m_form T.f_form.kp (ja_cons (j_var 2) ja_nil)) (jg_tup rfl (jgs_cons (jg_name 5 sc_law.nd rfl (by first | exact Or.inl rfl | exact Or.inr rfl)) (jgs_cons (jg_name 6 sc_law.nd rfl (by first | exact Or.inl rfl | exact Or.inr rfl)) jgs_nil))))
  (jb_cons (js_par 7 8 rfl sc_law.nd rfl rfl (by decide) rfl rfl (ja_cons (j_call (ok_sums (P := P) (w := w) (base := base) T) (hr.mono (by decide)) pass_def rfl T.m_sums T.f_sums.kp (ja_cons (j_var 2) (ja_cons (j_var 5) (ja_cons (j_var 6) (ja_cons j_int ja_nil))))) (ja_cons (j_call (ok_sums (P := P) (w := w) (base := base) T) (hr.mono (by decide)) pass_def rfl T.m_sums T.f_sums.kp (ja_cons (j_var 2) (ja_cons (j_var 5) (ja_cons (j_var 6) (ja_cons j_int ja_nil))))) ja_nil)) rfl)
  (jb_cons (js_if (jt_cmp (b_eqO (tab := [(0, 2, d_Sum_eq), (1, 2, d_Space_eq)]) (cs := [0, 1]) ⟨⟨⟨_, _, T.me_0_eq.at_, T.me_0_eq.fn, (ok_Sum_eq (P := P) (w := w) (base := base) T), (hr.mono (by decide))⟩, T.ne_0, T.is_0.cm, T.nb_0, (in_cons T.nf_0_0 (in_cons T.nf_0_1 in_nil))⟩, ⟨⟨⟨_, _, T.me_1_eq.at_, T.me_1_eq.fn, (ok_Space_eq (P := P) (w := w) (base := base) T), (hr.mono (by decide))⟩, T.ne_1, T.is_1.cm, T.nb_1, (in_cons T.nf_1_0 (in_cons T.nf_1_1 in_nil))⟩, trivial⟩⟩ pass_def hr.units) (j_call (ok_draw (P := P) (w := w) (base := base) T) (hr.mono (by decide)) pass_def rfl T.m_draw T.f_draw.kp (ja_cons (j_var 2) (ja_cons j_int ja_nil))) j_int (nomark _)) (jb_one (js_set 8 sc_law.nd rfl (by first | exact Or.inl rfl | exact Or.inr rfl) (j_op b_add (j_call (ok_sums (P := P) (w := w) (base := base) T) (hr.mono (by decide)) pass_def rfl T.m_sums T.f_sums.kp (ja_cons (j_var 2) (ja_cons (j_var 5) (ja_cons (j_var 6) (ja_cons j_int ja_nil))))) (j_slice (j_var 7) (jo_some j_int) jo_none)))) jb_nil)
  (jb_cons (js_par 9 10 rfl sc_law.nd rfl rfl (by decide) rfl rfl (ja_cons (j_call (ok_made (P := P) (w := w) (base := base) T) (hr.mono (by decide)) pass_def rfl T.m_made T.f_made.kp (ja_cons (j_var 5) (ja_cons (j_var 6) (ja_cons (j_var 7) ja_nil)))) (ja_cons (j_call (ok_made (P := P) (w := w) (base := base) T) (hr.mono (by decide)) pass_def rfl T.m_made T.f_made.kp (ja_cons (j_var 5) (ja_cons (j_var 6) (ja_cons (j_var 8) ja_nil)))) ja_nil)) rfl)
  (jb_cons (js_asg (j_tup (ja_cons (j_call (ok_span (P := P) (w := w) (base := base) T) (hr.mono (by decide)) pass_def rfl T.m_span T.f_span.kp (ja_cons (j_var 7) (ja_cons (j_var 5) (ja_cons (j_var 6) ja_nil)))) (ja_cons (j_call (ok_span (P := P) (w := w) (base := base) T) (hr.mono (by decide)) pass_def rfl T.m_span T.f_span.kp (ja_cons (j_var 8) (ja_cons (j_var 5) (ja_cons (j_var 6) ja_nil)))) ja_nil))) (jg_tup rfl (jgs_cons (jg_name 11 sc_law.nd rfl (by first | exact Or.inl rfl | exact Or.inr rfl)) (jgs_cons (jg_name 12 sc_law.nd rfl (by first | exact Or.inl rfl | exact Or.inr rfl)) jgs_nil))))
  (jb_cons (js_par 13 14 rfl sc_law.nd rfl rfl (by decide) rfl rfl (ja_cons (j_op (b_own (op := .BitOr) (tab := [(1, 2, d_Space_or)]) ⟨⟨T.sf_1, ⟨_, _, T.me_1_or.at_, T.me_1_or.fn, (ok_Space_or (P := P) (w := w) (base := base) T), (hr.mono (by decide))⟩, T.rc_1_BitOr, T.i1_1_BitOr, T.i2_1_BitOr, T.i3_1⟩, trivial⟩ pass_def b_bad) (j_var 9) (j_var 10)) (ja_cons (j_op (b_own (op := .BitAnd) (tab := [(1, 2, d_Space_and)]) ⟨⟨T.sf_1, ⟨_, _, T.me_1_and.at_, T.me_1_and.fn, (ok_Space_and (P := P) (w := w) (base := base) T), (hr.mono (by decide))⟩, T.rc_1_BitAnd, T.i1_1_BitAnd, T.i2_1_BitAnd, T.i3_1⟩, trivial⟩ pass_def b_bad) (j_var 9) (j_var 10)) ja_nil)) rfl)
  (jb_cons (js_set 3 sc_law.nd rfl (by first | exact Or.inl rfl | exact Or.inr rfl) (j_call (ok_span (P := P) (w := w) (base := base) T) (hr.mono (by decide)) pass_def rfl T.m_span T.f_span.kp (ja_cons (j_op b_add (j_var 7) (j_var 8)) (ja_cons (j_var 5) (ja_cons (j_var 6) ja_nil)))))
  (jb_cons (js_if (jt_w (jw_or (jt_cmp (b_neO (tab := [(0, 2, d_Sum_eq), (1, 2, d_Space_eq)]) (cs := [0, 1]) ⟨⟨⟨_, _, T.me_0_eq.at_, T.me_0_eq.fn, (ok_Sum_eq (P := P) (w := w) (base := base) T), (hr.mono (by decide))⟩, T.ne_0, T.is_0.cm, T.nb_0, (in_cons T.nf_0_0 (in_cons T.nf_0_1 in_nil))⟩, ⟨⟨⟨_, _, T.me_1_eq.at_, T.me_1_eq.fn, (ok_Space_eq (P := P) (w := w) (base := base) T), (hr.mono (by decide))⟩, T.ne_1, T.is_1.cm, T.nb_1, (in_cons T.nf_1_0 (in_cons T.nf_1_1 in_nil))⟩, trivial⟩⟩ pass_def hr.units) (j_var 13) (j_call (ok_made (P := P) (w := w) (base := base) T) (hr.mono (by decide)) pass_def rfl T.m_made T.f_made.kp (ja_cons (j_var 5) (ja_cons (j_var 6) (ja_cons (j_var 3) ja_nil)))) (nomark _)) (jw_or1 (jt_cmp (b_neO (tab := [(0, 2, d_Sum_eq), (1, 2, d_Space_eq)]) (cs := [0, 1]) ⟨⟨⟨_, _, T.me_0_eq.at_, T.me_0_eq.fn, (ok_Sum_eq (P := P) (w := w) (base := base) T), (hr.mono (by decide))⟩, T.ne_0, T.is_0.cm, T.nb_0, (in_cons T.nf_0_0 (in_cons T.nf_0_1 in_nil))⟩, ⟨⟨⟨_, _, T.me_1_eq.at_, T.me_1_eq.fn, (ok_Space_eq (P := P) (w := w) (base := base) T), (hr.mono (by decide))⟩, T.ne_1, T.is_1.cm, T.nb_1, (in_cons T.nf_1_0 (in_cons T.nf_1_1 in_nil))⟩, trivial⟩⟩ pass_def hr.units) (j_op b_add (j_callB (f_ownLen (tab := [(1, 1, d_Space_len)]) ⟨⟨_, _, T.me_1_len.at_, T.me_1_len.fn, (ok_Space_len (P := P) (w := w) (base := base) T), (hr.mono (by decide))⟩, trivial⟩ pass_def) rfl T.z_len (by decide +kernel) (ja_cons (j_var 13) ja_nil)) (j_callB (f_ownLen (tab := [(1, 1, d_Space_len)]) ⟨⟨_, _, T.me_1_len.at_, T.me_1_len.fn, (ok_Space_len (P := P) (w := w) (base := base) T), (hr.mono (by decide))⟩, trivial⟩ pass_def) rfl T.z_len (by decide +kernel) (ja_cons (j_var 14) ja_nil))) (j_op b_add (j_callB (f_ownLen (tab := [(1, 1, d_Space_len)]) ⟨⟨_, _, T.me_1_len.at_, T.me_1_len.fn, (ok_Space_len (P := P) (w := w) (base := base) T), (hr.mono (by decide))⟩, trivial⟩ pass_def) rfl T.z_len (by decide +kernel) (ja_cons (j_var 9) ja_nil)) (j_callB (f_ownLen (tab := [(1, 1, d_Space_len)]) ⟨⟨_, _, T.me_1_len.at_, T.me_1_len.fn, (ok_Space_len (P := P) (w := w) (base := base) T), (hr.mono (by decide))⟩, trivial⟩ pass_def) rfl T.z_len (by decide +kernel) (ja_cons (j_var 10) ja_nil))) (nomark _))))) (jb_one (js_ret j_bl)) jb_nil)
  (jb_cons (js_for (passes_of rfl) rfl (ji_seq (j_call (ok_all_data (P := P) (w := w) (base := base) T) (hr.mono (by decide)) pass_def rfl T.m_all_data T.f_all_data.kp (ja_cons (j_var 5) (ja_cons (j_var 6) ja_nil)))) (jg_name 4 sc_law.nd rfl (by first | exact Or.inl rfl | exact Or.inr rfl))
  (jb_cons (js_set 15 sc_law.nd rfl (by first | exact Or.inl rfl | exact Or.inr rfl) (j_make T.mk_0 (ok_Sum_init (P := P) (w := w) (base := base) T) (hr.mono (by decide)) pass_def rfl T.g_Sum (ja_cons (j_var 5) (ja_cons (j_var 4) ja_nil))))
  (jb_one (js_if (jt_w (jw_or (jt_cmp (b_neO (tab := [(0, 2, d_Sum_eq), (1, 2, d_Space_eq)]) (cs := [0, 1]) ⟨⟨⟨_, _, T.me_0_eq.at_, T.me_0_eq.fn, (ok_Sum_eq (P := P) (w := w) (base := base) T), (hr.mono (by decide))⟩, T.ne_0, T.is_0.cm, T.nb_0, (in_cons T.nf_0_0 (in_cons T.nf_0_1 in_nil))⟩, ⟨⟨⟨_, _, T.me_1_eq.at_, T.me_1_eq.fn, (ok_Space_eq (P := P) (w := w) (base := base) T), (hr.mono (by decide))⟩, T.ne_1, T.is_1.cm, T.nb_1, (in_cons T.nf_1_0 (in_cons T.nf_1_1 in_nil))⟩, trivial⟩⟩ pass_def hr.units) (j_cmp (b_ownIn (tab := [(1, 2, d_Space_contains)]) ⟨⟨_, _, T.me_1_contains.at_, T.me_1_contains.fn, (ok_Space_contains (P := P) (w := w) (base := base) T), (hr.mono (by decide))⟩, trivial⟩ pass_def (hr_un65 hr)) (j_var 15) (j_var 13) (by with_unfolding_all rfl)) (j_cmp (b_ownIn (tab := [(1, 2, d_Space_contains)]) ⟨⟨_, _, T.me_1_contains.at_, T.me_1_contains.fn, (ok_Space_contains (P := P) (w := w) (base := base) T), (hr.mono (by decide))⟩, trivial⟩ pass_def (hr_un65 hr)) (j_var 4) (j_var 3) (by with_unfolding_all rfl)) (nomark _)) (jw_or1 (jt_cmp (b_neO (tab := [(0, 2, d_Sum_eq), (1, 2, d_Space_eq)]) (cs := [0, 1]) ⟨⟨⟨_, _, T.me_0_eq.at_, T.me_0_eq.fn, (ok_Sum_eq (P := P) (w := w) (base := base) T), (hr.mono (by decide))⟩, T.ne_0, T.is_0.cm, T.nb_0, (in_cons T.nf_0_0 (in_cons T.nf_0_1 in_nil))⟩, ⟨⟨⟨_, _, T.me_1_eq.at_, T.me_1_eq.fn, (ok_Space_eq (P := P) (w := w) (base := base) T), (hr.mono (by decide))⟩, T.ne_1, T.is_1.cm, T.nb_1, (in_cons T.nf_1_0 (in_cons T.nf_1_1 in_nil))⟩, trivial⟩⟩ pass_def hr.units) (j_cmp (b_ownIn (tab := [(1, 2, d_Space_contains)]) ⟨⟨_, _, T.me_1_contains.at_, T.me_1_contains.fn, (ok_Space_contains (P := P) (w := w) (base := base) T), (hr.mono (by decide))⟩, trivial⟩ pass_def (hr_un65 hr)) (j_var 15) (j_var 14) (by with_unfolding_all rfl)) (j_and (j_cmp (b_ownIn (tab := [(1, 2, d_Space_contains)]) ⟨⟨_, _, T.me_1_contains.at_, T.me_1_contains.fn, (ok_Space_contains (P := P) (w := w) (base := base) T), (hr.mono (by decide))⟩, trivial⟩ pass_def (hr_un65 hr)) (j_var 4) (j_var 11) (by with_unfolding_all rfl)) (j_one (j_cmp (b_ownIn (tab := [(1, 2, d_Space_contains)]) ⟨⟨_, _, T.me_1_contains.at_, T.me_1_contains.fn, (ok_Space_contains (P := P) (w := w) (base := base) T), (hr.mono (by decide))⟩, trivial⟩ pass_def (hr_un65 hr)) (j_var 4) (j_var 12) (by with_unfolding_all rfl)))) (nomark _))))) (jb_one (js_ret j_bl)) jb_nil))))
  (jb_cons (js_if (jt_cmp (b_neO (tab := [(0, 2, d_Sum_eq), (1, 2, d_Space_eq)]) (cs := [0, 1]) ⟨⟨⟨_, _, T.me_0_eq.at_, T.me_0_eq.fn, (ok_Sum_eq (P := P) (w := w) (base := base) T), (hr.mono (by decide))⟩, T.ne_0, T.is_0.cm, T.nb_0, (in_cons T.nf_0_0 (in_cons T.nf_0_1 in_nil))⟩, ⟨⟨⟨_, _, T.me_1_eq.at_, T.me_1_eq.fn, (ok_Space_eq (P := P) (w := w) (base := base) T), (hr.mono (by decide))⟩, T.ne_1, T.is_1.cm, T.nb_1, (in_cons T.nf_1_0 (in_cons T.nf_1_1 in_nil))⟩, trivial⟩⟩ pass_def hr.units) (j_meth (tab := [(1, 2, d_Space_within)]) ⟨⟨T.cl_1, _, _, T.me_1_within, (ok_Space_within (P := P) (w := w) (base := base) T), (hr.mono (by decide))⟩, trivial⟩ pass_def (j_var 9) (ja_cons (j_var 10) ja_nil)) (j_callB (f_all rfl) rfl T.z_all (by decide +kernel) (ja_cons (j_comp (own := [("_law_data", 4)]) (by decide) rfl sc_law.nd (ji_seq (j_var 11)) (blkOk_by (N := ["_law_script", "_law_turn", "_law_source_here", "_law_every", "_law_data", "_law_prime", "_law_size", "_law_rows", "_law_others", "_law_one", "_law_other", "_law_first", "_law_second", "_law_both", "_law_common", "_law_item"]) (sc := defScope s_law) (by decide +kernel)) (fun _ _ _ _ _ => (jg_name 4 sc_law.nd rfl (by first | exact Or.inl rfl | exact Or.inr rfl))) (fun _ _ _ _ _ => jts_nil) (fun _ _ _ _ _ => (j_cmp (b_ownIn (tab := [(1, 2, d_Space_contains)]) ⟨⟨_, _, T.me_1_contains.at_, T.me_1_contains.fn, (ok_Space_contains (P := P) (w := w) (base := base) T), (hr.mono (by decide))⟩, trivial⟩ passL (hr_un65 hr)) (j_var 4) (j_var 12) (by with_unfolding_all rfl)))) ja_nil)) (nomark _)) (jb_one (js_ret j_bl)) jb_nil)
  (jb_cons (js_if (jt_w (jw_or (jt_not (jt_val (j_meth (tab := [(1, 2, d_Space_within)]) ⟨⟨T.cl_1, _, _, T.me_1_within, (ok_Space_within (P := P) (w := w) (base := base) T), (hr.mono (by decide))⟩, trivial⟩ pass_def (j_var 9) (ja_cons (j_var 13) ja_nil)))) (jw_or1 (jt_not (jt_val (j_meth (tab := [(1, 2, d_Space_within)]) ⟨⟨T.cl_1, _, _, T.me_1_within, (ok_Space_within (P := P) (w := w) (base := base) T), (hr.mono (by decide))⟩, trivial⟩ pass_def (j_var 14) (ja_cons (j_var 10) ja_nil))))))) (jb_one (js_ret j_bl)) jb_nil)
  (jb_one (js_if (jt_w (jw_or (jt_cmp (b_neO (tab := [(0, 2, d_Sum_eq), (1, 2, d_Space_eq)]) (cs := [0, 1]) ⟨⟨⟨_, _, T.me_0_eq.at_, T.me_0_eq.fn, (ok_Sum_eq (P := P) (w := w) (base := base) T), (hr.mono (by decide))⟩, T.ne_0, T.is_0.cm, T.nb_0, (in_cons T.nf_0_0 (in_cons T.nf_0_1 in_nil))⟩, ⟨⟨⟨_, _, T.me_1_eq.at_, T.me_1_eq.fn, (ok_Space_eq (P := P) (w := w) (base := base) T), (hr.mono (by decide))⟩, T.ne_1, T.is_1.cm, T.nb_1, (in_cons T.nf_1_0 (in_cons T.nf_1_1 in_nil))⟩, trivial⟩⟩ pass_def hr.units) (j_op (b_own (op := .BitAnd) (tab := [(1, 2, d_Space_and)]) ⟨⟨T.sf_1, ⟨_, _, T.me_1_and.at_, T.me_1_and.fn, (ok_Space_and (P := P) (w := w) (base := base) T), (hr.mono (by decide))⟩, T.rc_1_BitAnd, T.i1_1_BitAnd, T.i2_1_BitAnd, T.i3_1⟩, trivial⟩ pass_def b_bad) (j_var 9) (j_var 9)) (j_var 9) (nomark _)) (jw_or (jt_cmp (b_neO (tab := [(0, 2, d_Sum_eq), (1, 2, d_Space_eq)]) (cs := [0, 1]) ⟨⟨⟨_, _, T.me_0_eq.at_, T.me_0_eq.fn, (ok_Sum_eq (P := P) (w := w) (base := base) T), (hr.mono (by decide))⟩, T.ne_0, T.is_0.cm, T.nb_0, (in_cons T.nf_0_0 (in_cons T.nf_0_1 in_nil))⟩, ⟨⟨⟨_, _, T.me_1_eq.at_, T.me_1_eq.fn, (ok_Space_eq (P := P) (w := w) (base := base) T), (hr.mono (by decide))⟩, T.ne_1, T.is_1.cm, T.nb_1, (in_cons T.nf_1_0 (in_cons T.nf_1_1 in_nil))⟩, trivial⟩⟩ pass_def hr.units) (j_op (b_own (op := .BitOr) (tab := [(1, 2, d_Space_or)]) ⟨⟨T.sf_1, ⟨_, _, T.me_1_or.at_, T.me_1_or.fn, (ok_Space_or (P := P) (w := w) (base := base) T), (hr.mono (by decide))⟩, T.rc_1_BitOr, T.i1_1_BitOr, T.i2_1_BitOr, T.i3_1⟩, trivial⟩ pass_def b_bad) (j_var 9) (j_var 9)) (j_var 9) (nomark _)) (jw_or (jt_cmp (b_neO (tab := [(0, 2, d_Sum_eq), (1, 2, d_Space_eq)]) (cs := [0, 1]) ⟨⟨⟨_, _, T.me_0_eq.at_, T.me_0_eq.fn, (ok_Sum_eq (P := P) (w := w) (base := base) T), (hr.mono (by decide))⟩, T.ne_0, T.is_0.cm, T.nb_0, (in_cons T.nf_0_0 (in_cons T.nf_0_1 in_nil))⟩, ⟨⟨⟨_, _, T.me_1_eq.at_, T.me_1_eq.fn, (ok_Space_eq (P := P) (w := w) (base := base) T), (hr.mono (by decide))⟩, T.ne_1, T.is_1.cm, T.nb_1, (in_cons T.nf_1_0 (in_cons T.nf_1_1 in_nil))⟩, trivial⟩⟩ pass_def hr.units) (j_op (b_own (op := .BitAnd) (tab := [(1, 2, d_Space_and)]) ⟨⟨T.sf_1, ⟨_, _, T.me_1_and.at_, T.me_1_and.fn, (ok_Space_and (P := P) (w := w) (base := base) T), (hr.mono (by decide))⟩, T.rc_1_BitAnd, T.i1_1_BitAnd, T.i2_1_BitAnd, T.i3_1⟩, trivial⟩ pass_def b_bad) (j_var 10) (j_var 9)) (j_var 14) (nomark _)) (jw_or1 (jt_cmp (b_neO (tab := [(0, 2, d_Sum_eq), (1, 2, d_Space_eq)]) (cs := [0, 1]) ⟨⟨⟨_, _, T.me_0_eq.at_, T.me_0_eq.fn, (ok_Sum_eq (P := P) (w := w) (base := base) T), (hr.mono (by decide))⟩, T.ne_0, T.is_0.cm, T.nb_0, (in_cons T.nf_0_0 (in_cons T.nf_0_1 in_nil))⟩, ⟨⟨⟨_, _, T.me_1_eq.at_, T.me_1_eq.fn, (ok_Space_eq (P := P) (w := w) (base := base) T), (hr.mono (by decide))⟩, T.ne_1, T.is_1.cm, T.nb_1, (in_cons T.nf_1_0 (in_cons T.nf_1_1 in_nil))⟩, trivial⟩⟩ pass_def hr.units) (j_op (b_own (op := .BitOr) (tab := [(1, 2, d_Space_or)]) ⟨⟨T.sf_1, ⟨_, _, T.me_1_or.at_, T.me_1_or.fn, (ok_Space_or (P := P) (w := w) (base := base) T), (hr.mono (by decide))⟩, T.rc_1_BitOr, T.i1_1_BitOr, T.i2_1_BitOr, T.i3_1⟩, trivial⟩ pass_def b_bad) (j_var 10) (j_var 9)) (j_var 13) (nomark _))))))) (jb_one (js_ret j_bl)) jb_nil)))))))))))))))
  (jb_one (js_ret j_bl))))
end
def kOf (cs : List Addr) (tb : List (Addr × Str)) : Kx := ⟨fun n => cs.getD n 0, fun n => ([[], [], [], ["value"], ["value"], ["value"], ["other"]] : List (List Str)).getD n [], tb⟩
def adOf (fs : List Addr) : Nat → Addr := fun n => fs.getD n 0
abbrev taOf := adOf
theorem all_mk {l : PySem.W.OpenLaw} {w : World} {K : PySem.W.Frag} {h : Heap} {mg : Str → Option Value} {fa : Addr} {C0 : Addr} {C1 : Addr} {f34 : Addr} {oc34 : Value} {kV34 : Value} {dc34 : Value} {pm34 : Value} {cd34 : Value} {ct34 : Value} {od34 : Option Addr} {an34 : Option Addr} {sl34 : Array (Option Value)} {f44 : Addr} {oc44 : Value} {kV44 : Value} {dc44 : Value} {pm44 : Value} {cd44 : Value} {ct44 : Value} {od44 : Option Addr} {an44 : Option Addr} {sl44 : Array (Option Value)} {f45 : Addr} {oc45 : Value} {kV45 : Value} {dc45 : Value} {pm45 : Value} {cd45 : Value} {ct45 : Value} {od45 : Option Addr} {an45 : Option Addr} {sl45 : Array (Option Value)} {f46 : Addr} {oc46 : Value} {kV46 : Value} {dc46 : Value} {pm46 : Value} {cd46 : Value} {ct46 : Value} {od46 : Option Addr} {an46 : Option Addr} {sl46 : Array (Option Value)} {f50 : Addr} {oc50 : Value} {kV50 : Value} {dc50 : Value} {pm50 : Value} {cd50 : Value} {ct50 : Value} {od50 : Option Addr} {an50 : Option Addr} {sl50 : Array (Option Value)} {f49 : Addr} {oc49 : Value} {kV49 : Value} {dc49 : Value} {pm49 : Value} {cd49 : Value} {ct49 : Value} {od49 : Option Addr} {an49 : Option Addr} {sl49 : Array (Option Value)} {f51 : Addr} {oc51 : Value} {kV51 : Value} {dc51 : Value} {pm51 : Value} {cd51 : Value} {ct51 : Value} {od51 : Option Addr} {an51 : Option Addr} {sl51 : Array (Option Value)} {f37 : Addr} {oc37 : Value} {kV37 : Value} {dc37 : Value} {pm37 : Value} {cd37 : Value} {ct37 : Value} {od37 : Option Addr} {an37 : Option Addr} {sl37 : Array (Option Value)} {f27 : Addr} {oc27 : Value} {kV27 : Value} {dc27 : Value} {pm27 : Value} {cd27 : Value} {ct27 : Value} {od27 : Option Addr} {an27 : Option Addr} {sl27 : Array (Option Value)} {f11 : Addr} {oc11 : Value} {kV11 : Value} {dc11 : Value} {pm11 : Value} {cd11 : Value} {ct11 : Value} {od11 : Option Addr} {an11 : Option Addr} {sl11 : Array (Option Value)} {f12 : Addr} {oc12 : Value} {kV12 : Value} {dc12 : Value} {pm12 : Value} {cd12 : Value} {ct12 : Value} {od12 : Option Addr} {an12 : Option Addr} {sl12 : Array (Option Value)} {f10 : Addr} {oc10 : Value} {kV10 : Value} {dc10 : Value} {pm10 : Value} {cd10 : Value} {ct10 : Value} {od10 : Option Addr} {an10 : Option Addr} {sl10 : Array (Option Value)} {f9 : Addr} {oc9 : Value} {kV9 : Value} {dc9 : Value} {pm9 : Value} {cd9 : Value} {ct9 : Value} {od9 : Option Addr} {an9 : Option Addr} {sl9 : Array (Option Value)} {f13 : Addr} {oc13 : Value} {kV13 : Value} {dc13 : Value} {pm13 : Value} {cd13 : Value} {ct13 : Value} {od13 : Option Addr} {an13 : Option Addr} {sl13 : Array (Option Value)} {f14 : Addr} {oc14 : Value} {kV14 : Value} {dc14 : Value} {pm14 : Value} {cd14 : Value} {ct14 : Value} {od14 : Option Addr} {an14 : Option Addr} {sl14 : Array (Option Value)} {f15 : Addr} {oc15 : Value} {kV15 : Value} {dc15 : Value} {pm15 : Value} {cd15 : Value} {ct15 : Value} {od15 : Option Addr} {an15 : Option Addr} {sl15 : Array (Option Value)} {f30 : Addr} {p30 : Addr} {r30 : List Value} {oc30 : Value} {kV30 : Value} {dc30 : Value} {pm30 : Value} {cd30 : Value} {ct30 : Value} {od30 : Option Addr} {an30 : Option Addr} {sl30 : Array (Option Value)} {f17 : Addr} {p17 : Addr} {r17 : List Value} {oc17 : Value} {kV17 : Value} {dc17 : Value} {pm17 : Value} {cd17 : Value} {ct17 : Value} {od17 : Option Addr} {an17 : Option Addr} {sl17 : Array (Option Value)} {f31 : Addr} {p31 : Addr} {r31 : List Value} {oc31 : Value} {kV31 : Value} {dc31 : Value} {pm31 : Value} {cd31 : Value} {ct31 : Value} {od31 : Option Addr} {an31 : Option Addr} {sl31 : Array (Option Value)} {f19 : Addr} {p19 : Addr} {r19 : List Value} {oc19 : Value} {kV19 : Value} {dc19 : Value} {pm19 : Value} {cd19 : Value} {ct19 : Value} {od19 : Option Addr} {an19 : Option Addr} {sl19 : Array (Option Value)} {f28 : Addr} {oc28 : Value} {kV28 : Value} {dc28 : Value} {pm28 : Value} {cd28 : Value} {ct28 : Value} {od28 : Option Addr} {an28 : Option Addr} {sl28 : Array (Option Value)} {f18 : Addr} {p18 : Addr} {r18 : List Value} {oc18 : Value} {kV18 : Value} {dc18 : Value} {pm18 : Value} {cd18 : Value} {ct18 : Value} {od18 : Option Addr} {an18 : Option Addr} {sl18 : Array (Option Value)} {f4 : Addr} {oc4 : Value} {kV4 : Value} {dc4 : Value} {pm4 : Value} {cd4 : Value} {ct4 : Value} {od4 : Option Addr} {an4 : Option Addr} {sl4 : Array (Option Value)} {f3 : Addr} {oc3 : Value} {kV3 : Value} {dc3 : Value} {pm3 : Value} {cd3 : Value} {ct3 : Value} {od3 : Option Addr} {an3 : Option Addr} {sl3 : Array (Option Value)} {f5 : Addr} {oc5 : Value} {kV5 : Value} {dc5 : Value} {pm5 : Value} {cd5 : Value} {ct5 : Value} {od5 : Option Addr} {an5 : Option Addr} {sl5 : Array (Option Value)} {f1 : Addr} {oc1 : Value} {kV1 : Value} {dc1 : Value} {pm1 : Value} {cd1 : Value} {ct1 : Value} {od1 : Option Addr} {an1 : Option Addr} {sl1 : Array (Option Value)} {f2 : Addr} {oc2 : Value} {kV2 : Value} {dc2 : Value} {pm2 : Value} {cd2 : Value} {ct2 : Value} {od2 : Option Addr} {an2 : Option Addr} {sl2 : Array (Option Value)} {f6 : Addr} {oc6 : Value} {kV6 : Value} {dc6 : Value} {pm6 : Value} {cd6 : Value} {ct6 : Value} {od6 : Option Addr} {an6 : Option Addr} {sl6 : Array (Option Value)} {f29 : Addr} {oc29 : Value} {kV29 : Value} {dc29 : Value} {pm29 : Value} {cd29 : Value} {ct29 : Value} {od29 : Option Addr} {an29 : Option Addr} {sl29 : Array (Option Value)} {dT29 : Addr} {do29 : Value} {dd29 : Option Addr} {di29 : Array Value} {dn29 : Nat} {ds29 : Array (Option Value)} {ea29_0 : Addr} {eb29_0 : Option Addr} {ec29_0 : Nat} {ef29_0 : Array (Option Value)} {f53 : Addr} {oc53 : Value} {kV53 : Value} {dc53 : Value} {pm53 : Value} {cd53 : Value} {ct53 : Value} {od53 : Option Addr} {an53 : Option Addr} {sl53 : Array (Option Value)} {f52 : Addr} {oc52 : Value} {kV52 : Value} {dc52 : Value} {pm52 : Value} {cd52 : Value} {ct52 : Value} {od52 : Option Addr} {an52 : Option Addr} {sl52 : Array (Option Value)} {f38 : Addr} {oc38 : Value} {kV38 : Value} {dc38 : Value} {pm38 : Value} {cd38 : Value} {ct38 : Value} {od38 : Option Addr} {an38 : Option Addr} {sl38 : Array (Option Value)} {f39 : Addr} {oc39 : Value} {kV39 : Value} {dc39 : Value} {pm39 : Value} {cd39 : Value} {ct39 : Value} {od39 : Option Addr} {an39 : Option Addr} {sl39 : Array (Option Value)} {f40 : Addr} {oc40 : Value} {kV40 : Value} {dc40 : Value} {pm40 : Value} {cd40 : Value} {ct40 : Value} {od40 : Option Addr} {an40 : Option Addr} {sl40 : Array (Option Value)} {f47 : Addr} {oc47 : Value} {kV47 : Value} {dc47 : Value} {pm47 : Value} {cd47 : Value} {ct47 : Value} {od47 : Option Addr} {an47 : Option Addr} {sl47 : Array (Option Value)} {f7 : Addr} {oc7 : Value} {kV7 : Value} {dc7 : Value} {pm7 : Value} {cd7 : Value} {ct7 : Value} {od7 : Option Addr} {an7 : Option Addr} {sl7 : Array (Option Value)} {f36 : Addr} {oc36 : Value} {kV36 : Value} {dc36 : Value} {pm36 : Value} {cd36 : Value} {ct36 : Value} {od36 : Option Addr} {an36 : Option Addr} {sl36 : Array (Option Value)} {f41 : Addr} {oc41 : Value} {kV41 : Value} {dc41 : Value} {pm41 : Value} {cd41 : Value} {ct41 : Value} {od41 : Option Addr} {an41 : Option Addr} {sl41 : Array (Option Value)} {f54 : Addr} {oc54 : Value} {kV54 : Value} {dc54 : Value} {pm54 : Value} {cd54 : Value} {ct54 : Value} {od54 : Option Addr} {an54 : Option Addr} {sl54 : Array (Option Value)} {C3 : Addr} {ef3 : Addr} {ecd3 : Addr} {ecc3 : Addr} {eoc3 : Value} {ekV3 : Value} {edc3 : Value} {epm3 : Value} {ect3 : Value} {e1_3 : Value} {x1_3 : Value} {eod3 : Option Addr} {ean3 : Option Addr} {e2_3 : Option Addr} {x2_3 : Option Addr} {eosl3 : Array (Option Value)} {e3_3 : Array (Option Value)} {x3_3 : Array (Option Value)} {evs3 : Array Value} {efl3 : Str} {etk3 : Tok} {C5 : Addr} {ef5 : Addr} {ecd5 : Addr} {ecc5 : Addr} {eoc5 : Value} {ekV5 : Value} {edc5 : Value} {epm5 : Value} {ect5 : Value} {e1_5 : Value} {x1_5 : Value} {eod5 : Option Addr} {ean5 : Option Addr} {e2_5 : Option Addr} {x2_5 : Option Addr} {eosl5 : Array (Option Value)} {e3_5 : Array (Option Value)} {x3_5 : Array (Option Value)} {evs5 : Array Value} {efl5 : Str} {etk5 : Tok} {C6 : Addr} {ef6 : Addr} {ecd6 : Addr} {ecc6 : Addr} {eoc6 : Value} {ekV6 : Value} {edc6 : Value} {epm6 : Value} {ect6 : Value} {e1_6 : Value} {x1_6 : Value} {eod6 : Option Addr} {ean6 : Option Addr} {e2_6 : Option Addr} {x2_6 : Option Addr} {eosl6 : Array (Option Value)} {e3_6 : Array (Option Value)} {x3_6 : Array (Option Value)} {evs6 : Array Value} {efl6 : Str} {etk6 : Tok} {tk_MOST_DATA : Tok} {ga_PRIMES : Addr} {go_PRIMES : Option Addr} {gi_PRIMES : Array Value} {gn_PRIMES : Nat} {gs_PRIMES : Array (Option Value)} {vi1_1_BitAnd : Option Value} {vi1_1_BitOr : Option Value} {vi2_1_BitAnd : Option Value} {vi2_1_BitOr : Option Value} {sp0_own_prime : Addr} {sp0_row : Addr} {sp1_listed : Addr} {sp1_own_prime : Addr} {sp1_own_size : Addr} {sp1_rows : Addr}
    (X : K.In h) (G : h.Ns mainGlobals mg) (hfa : mg "law" = some (.ref fa))
    (aC0 : PySem.W.nsIn K mainGlobals "Sum" = some (some (.ref C0)))
    (aC1 : PySem.W.nsIn K mainGlobals "Space" = some (some (.ref C1)))
    (a34 : PySem.W.findIn K (.ref C1) "__len__" = some (some (.ref f34)))
    (i34 : PySem.W.isFn K (.ref f34) = true)
    (l34 : K.lookup f34 = some ⟨oc34, od34, .func (PySem.W.fnOf "__len__" "Space.__len__" (defArgs s_Space_len) (defBody s_Space_len) (defScope s_Space_len) .none kV34 dc34 pm34 an34 cd34 ct34), sl34⟩)
    (c34 : PySem.W.codeIn K cd34 "Space.__len__" = true)
    (k34 : PySem.W.keepIn K (.ref f34) = true)
    (a44 : PySem.W.nsIn K mainGlobals "_law_source" = some (some (.ref f44)))
    (l44 : K.lookup f44 = some ⟨oc44, od44, .func (PySem.W.fnOf "_law_source" "_law_source" (defArgs s_source) (defBody s_source) (defScope s_source) .none kV44 dc44 pm44 an44 cd44 ct44), sl44⟩)
    (c44 : PySem.W.codeIn K cd44 "_law_source" = true)
    (k44 : PySem.W.keepIn K (.ref f44) = true)
    (a45 : PySem.W.nsIn K mainGlobals "_law_draw" = some (some (.ref f45)))
    (l45 : K.lookup f45 = some ⟨oc45, od45, .func (PySem.W.fnOf "_law_draw" "_law_draw" (defArgs s_draw) (defBody s_draw) (defScope s_draw) .none kV45 dc45 pm45 an45 cd45 ct45), sl45⟩)
    (c45 : PySem.W.codeIn K cd45 "_law_draw" = true)
    (k45 : PySem.W.keepIn K (.ref f45) = true)
    (a46 : PySem.W.nsIn K mainGlobals "_law_pick" = some (some (.ref f46)))
    (l46 : K.lookup f46 = some ⟨oc46, od46, .func (PySem.W.fnOf "_law_pick" "_law_pick" (defArgs s_pick) (defBody s_pick) (defScope s_pick) .none kV46 dc46 pm46 an46 cd46 ct46), sl46⟩)
    (c46 : PySem.W.codeIn K cd46 "_law_pick" = true)
    (k46 : PySem.W.keepIn K (.ref f46) = true)
    (a50 : PySem.W.nsIn K mainGlobals "_law_form" = some (some (.ref f50)))
    (l50 : K.lookup f50 = some ⟨oc50, od50, .func (PySem.W.fnOf "_law_form" "_law_form" (defArgs s_form) (defBody s_form) (defScope s_form) .none kV50 dc50 pm50 an50 cd50 ct50), sl50⟩)
    (c50 : PySem.W.codeIn K cd50 "_law_form" = true)
    (k50 : PySem.W.keepIn K (.ref f50) = true)
    (a49 : PySem.W.nsIn K mainGlobals "_law_factors" = some (some (.ref f49)))
    (l49 : K.lookup f49 = some ⟨oc49, od49, .func (PySem.W.fnOf "_law_factors" "_law_factors" (defArgs s_factors) (defBody s_factors) (defScope s_factors) .none kV49 dc49 pm49 an49 cd49 ct49), sl49⟩)
    (c49 : PySem.W.codeIn K cd49 "_law_factors" = true)
    (k49 : PySem.W.keepIn K (.ref f49) = true)
    (a51 : PySem.W.nsIn K mainGlobals "_law_sums" = some (some (.ref f51)))
    (l51 : K.lookup f51 = some ⟨oc51, od51, .func (PySem.W.fnOf "_law_sums" "_law_sums" (defArgs s_sums) (defBody s_sums) (defScope s_sums) .none kV51 dc51 pm51 an51 cd51 ct51), sl51⟩)
    (c51 : PySem.W.codeIn K cd51 "_law_sums" = true)
    (k51 : PySem.W.keepIn K (.ref f51) = true)
    (a37 : PySem.W.findIn K (.ref C1) "__eq__" = some (some (.ref f37)))
    (i37 : PySem.W.isFn K (.ref f37) = true)
    (l37 : K.lookup f37 = some ⟨oc37, od37, .func (PySem.W.fnOf "__eq__" "Space.__eq__" (defArgs s_Space_eq) (defBody s_Space_eq) (defScope s_Space_eq) .none kV37 dc37 pm37 an37 cd37 ct37), sl37⟩)
    (c37 : PySem.W.codeIn K cd37 "Space.__eq__" = true)
    (k37 : PySem.W.keepIn K (.ref f37) = true)
    (a27 : PySem.W.findIn K (.ref C0) "__eq__" = some (some (.ref f27)))
    (i27 : PySem.W.isFn K (.ref f27) = true)
    (l27 : K.lookup f27 = some ⟨oc27, od27, .func (PySem.W.fnOf "__eq__" "Sum.__eq__" (defArgs s_Sum_eq) (defBody s_Sum_eq) (defScope s_Sum_eq) .none kV27 dc27 pm27 an27 cd27 ct27), sl27⟩)
    (c27 : PySem.W.codeIn K cd27 "Sum.__eq__" = true)
    (k27 : PySem.W.keepIn K (.ref f27) = true)
    (a11 : PySem.W.nsIn K mainGlobals "is_integer" = some (some (.ref f11)))
    (l11 : K.lookup f11 = some ⟨oc11, od11, .func (PySem.W.fnOf "is_integer" "is_integer" (defArgs s_is_integer) (defBody s_is_integer) (defScope s_is_integer) .none kV11 dc11 pm11 an11 cd11 ct11), sl11⟩)
    (c11 : PySem.W.codeIn K cd11 "is_integer" = true)
    (k11 : PySem.W.keepIn K (.ref f11) = true)
    (a12 : PySem.W.nsIn K mainGlobals "is_prime" = some (some (.ref f12)))
    (l12 : K.lookup f12 = some ⟨oc12, od12, .func (PySem.W.fnOf "is_prime" "is_prime" (defArgs s_is_prime) (defBody s_is_prime) (defScope s_is_prime) .none kV12 dc12 pm12 an12 cd12 ct12), sl12⟩)
    (c12 : PySem.W.codeIn K cd12 "is_prime" = true)
    (k12 : PySem.W.keepIn K (.ref f12) = true)
    (a10 : PySem.W.nsIn K mainGlobals "is_between" = some (some (.ref f10)))
    (l10 : K.lookup f10 = some ⟨oc10, od10, .func (PySem.W.fnOf "is_between" "is_between" (defArgs s_is_between) (defBody s_is_between) (defScope s_is_between) .none kV10 dc10 pm10 an10 cd10 ct10), sl10⟩)
    (c10 : PySem.W.codeIn K cd10 "is_between" = true)
    (k10 : PySem.W.keepIn K (.ref f10) = true)
    (a9 : PySem.W.nsIn K mainGlobals "power" = some (some (.ref f9)))
    (l9 : K.lookup f9 = some ⟨oc9, od9, .func (PySem.W.fnOf "power" "power" (defArgs s_power) (defBody s_power) (defScope s_power) .none kV9 dc9 pm9 an9 cd9 ct9), sl9⟩)
    (c9 : PySem.W.codeIn K cd9 "power" = true)
    (k9 : PySem.W.keepIn K (.ref f9) = true)
    (a13 : PySem.W.nsIn K mainGlobals "is_size" = some (some (.ref f13)))
    (l13 : K.lookup f13 = some ⟨oc13, od13, .func (PySem.W.fnOf "is_size" "is_size" (defArgs s_is_size) (defBody s_is_size) (defScope s_is_size) .none kV13 dc13 pm13 an13 cd13 ct13), sl13⟩)
    (c13 : PySem.W.codeIn K cd13 "is_size" = true)
    (k13 : PySem.W.keepIn K (.ref f13) = true)
    (a14 : PySem.W.nsIn K mainGlobals "is_data" = some (some (.ref f14)))
    (l14 : K.lookup f14 = some ⟨oc14, od14, .func (PySem.W.fnOf "is_data" "is_data" (defArgs s_is_data) (defBody s_is_data) (defScope s_is_data) .none kV14 dc14 pm14 an14 cd14 ct14), sl14⟩)
    (c14 : PySem.W.codeIn K cd14 "is_data" = true)
    (k14 : PySem.W.keepIn K (.ref f14) = true)
    (a15 : PySem.W.findIn K (.ref C0) "__init__" = some (some (.ref f15)))
    (i15 : PySem.W.isFn K (.ref f15) = true)
    (l15 : K.lookup f15 = some ⟨oc15, od15, .func (PySem.W.fnOf "__init__" "Sum.__init__" (defArgs s_Sum_init) (defBody s_Sum_init) (defScope s_Sum_init) .none kV15 dc15 pm15 an15 cd15 ct15), sl15⟩)
    (c15 : PySem.W.codeIn K cd15 "Sum.__init__" = true)
    (k15 : PySem.W.keepIn K (.ref f15) = true)
    (a30 : PySem.W.findIn K (.ref C1) "prime" = some (some (.ref p30)))
    (x30 : PySem.W.specialIn K (.ref p30) "__get__" = some (some (.builtin "property.__get__")))
    (t30 : PySem.W.takesIn K (.ref p30) = some true)
    (q30 : PySem.W.recIn K p30 "property" = some (.ref f30 :: r30))
    (l30 : K.lookup f30 = some ⟨oc30, od30, .func (PySem.W.fnOf "prime" "Space.prime" (defArgs s_Space_prime) (defBody s_Space_prime) (defScope s_Space_prime) .none kV30 dc30 pm30 an30 cd30 ct30), sl30⟩)
    (c30 : PySem.W.codeIn K cd30 "Space.prime" = true)
    (k30 : PySem.W.keepIn K (.ref f30) = true)
    (a17 : PySem.W.findIn K (.ref C0) "prime" = some (some (.ref p17)))
    (x17 : PySem.W.specialIn K (.ref p17) "__get__" = some (some (.builtin "property.__get__")))
    (t17 : PySem.W.takesIn K (.ref p17) = some true)
    (q17 : PySem.W.recIn K p17 "property" = some (.ref f17 :: r17))
    (l17 : K.lookup f17 = some ⟨oc17, od17, .func (PySem.W.fnOf "prime" "Sum.prime" (defArgs s_Sum_prime) (defBody s_Sum_prime) (defScope s_Sum_prime) .none kV17 dc17 pm17 an17 cd17 ct17), sl17⟩)
    (c17 : PySem.W.codeIn K cd17 "Sum.prime" = true)
    (k17 : PySem.W.keepIn K (.ref f17) = true)
    (a31 : PySem.W.findIn K (.ref C1) "size" = some (some (.ref p31)))
    (x31 : PySem.W.specialIn K (.ref p31) "__get__" = some (some (.builtin "property.__get__")))
    (t31 : PySem.W.takesIn K (.ref p31) = some true)
    (q31 : PySem.W.recIn K p31 "property" = some (.ref f31 :: r31))
    (l31 : K.lookup f31 = some ⟨oc31, od31, .func (PySem.W.fnOf "size" "Space.size" (defArgs s_Space_size) (defBody s_Space_size) (defScope s_Space_size) .none kV31 dc31 pm31 an31 cd31 ct31), sl31⟩)
    (c31 : PySem.W.codeIn K cd31 "Space.size" = true)
    (k31 : PySem.W.keepIn K (.ref f31) = true)
    (a19 : PySem.W.findIn K (.ref C0) "size" = some (some (.ref p19)))
    (x19 : PySem.W.specialIn K (.ref p19) "__get__" = some (some (.builtin "property.__get__")))
    (t19 : PySem.W.takesIn K (.ref p19) = some true)
    (q19 : PySem.W.recIn K p19 "property" = some (.ref f19 :: r19))
    (l19 : K.lookup f19 = some ⟨oc19, od19, .func (PySem.W.fnOf "size" "Sum.size" (defArgs s_Sum_size) (defBody s_Sum_size) (defScope s_Sum_size) .none kV19 dc19 pm19 an19 cd19 ct19), sl19⟩)
    (c19 : PySem.W.codeIn K cd19 "Sum.size" = true)
    (k19 : PySem.W.keepIn K (.ref f19) = true)
    (a28 : PySem.W.nsIn K mainGlobals "is_sum" = some (some (.ref f28)))
    (l28 : K.lookup f28 = some ⟨oc28, od28, .func (PySem.W.fnOf "is_sum" "is_sum" (defArgs s_is_sum) (defBody s_is_sum) (defScope s_is_sum) .none kV28 dc28 pm28 an28 cd28 ct28), sl28⟩)
    (c28 : PySem.W.codeIn K cd28 "is_sum" = true)
    (k28 : PySem.W.keepIn K (.ref f28) = true)
    (a18 : PySem.W.findIn K (.ref C0) "factors" = some (some (.ref p18)))
    (x18 : PySem.W.specialIn K (.ref p18) "__get__" = some (some (.builtin "property.__get__")))
    (t18 : PySem.W.takesIn K (.ref p18) = some true)
    (q18 : PySem.W.recIn K p18 "property" = some (.ref f18 :: r18))
    (l18 : K.lookup f18 = some ⟨oc18, od18, .func (PySem.W.fnOf "factors" "Sum.factors" (defArgs s_Sum_factors) (defBody s_Sum_factors) (defScope s_Sum_factors) .none kV18 dc18 pm18 an18 cd18 ct18), sl18⟩)
    (c18 : PySem.W.codeIn K cd18 "Sum.factors" = true)
    (k18 : PySem.W.keepIn K (.ref f18) = true)
    (a4 : PySem.W.nsIn K mainGlobals "lead" = some (some (.ref f4)))
    (l4 : K.lookup f4 = some ⟨oc4, od4, .func (PySem.W.fnOf "lead" "lead" (defArgs s_lead) (defBody s_lead) (defScope s_lead) .none kV4 dc4 pm4 an4 cd4 ct4), sl4⟩)
    (c4 : PySem.W.codeIn K cd4 "lead" = true)
    (k4 : PySem.W.keepIn K (.ref f4) = true)
    (a3 : PySem.W.nsIn K mainGlobals "added" = some (some (.ref f3)))
    (l3 : K.lookup f3 = some ⟨oc3, od3, .func (PySem.W.fnOf "added" "added" (defArgs s_added) (defBody s_added) (defScope s_added) .none kV3 dc3 pm3 an3 cd3 ct3), sl3⟩)
    (c3 : PySem.W.codeIn K cd3 "added" = true)
    (k3 : PySem.W.keepIn K (.ref f3) = true)
    (a5 : PySem.W.nsIn K mainGlobals "rest_of" = some (some (.ref f5)))
    (l5 : K.lookup f5 = some ⟨oc5, od5, .func (PySem.W.fnOf "rest_of" "rest_of" (defArgs s_rest_of) (defBody s_rest_of) (defScope s_rest_of) .none kV5 dc5 pm5 an5 cd5 ct5), sl5⟩)
    (c5 : PySem.W.codeIn K cd5 "rest_of" = true)
    (k5 : PySem.W.keepIn K (.ref f5) = true)
    (a1 : PySem.W.nsIn K mainGlobals "inverse" = some (some (.ref f1)))
    (l1 : K.lookup f1 = some ⟨oc1, od1, .func (PySem.W.fnOf "inverse" "inverse" (defArgs s_inverse) (defBody s_inverse) (defScope s_inverse) .none kV1 dc1 pm1 an1 cd1 ct1), sl1⟩)
    (c1 : PySem.W.codeIn K cd1 "inverse" = true)
    (k1 : PySem.W.keepIn K (.ref f1) = true)
    (a2 : PySem.W.nsIn K mainGlobals "scaled" = some (some (.ref f2)))
    (l2 : K.lookup f2 = some ⟨oc2, od2, .func (PySem.W.fnOf "scaled" "scaled" (defArgs s_scaled) (defBody s_scaled) (defScope s_scaled) .none kV2 dc2 pm2 an2 cd2 ct2), sl2⟩)
    (c2 : PySem.W.codeIn K cd2 "scaled" = true)
    (k2 : PySem.W.keepIn K (.ref f2) = true)
    (a6 : PySem.W.nsIn K mainGlobals "reduced" = some (some (.ref f6)))
    (l6 : K.lookup f6 = some ⟨oc6, od6, .func (PySem.W.fnOf "reduced" "reduced" (defArgs s_reduced) (defBody s_reduced) (defScope s_reduced) .none kV6 dc6 pm6 an6 cd6 ct6), sl6⟩)
    (c6 : PySem.W.codeIn K cd6 "reduced" = true)
    (k6 : PySem.W.keepIn K (.ref f6) = true)
    (a29 : PySem.W.findIn K (.ref C1) "__init__" = some (some (.ref f29)))
    (i29 : PySem.W.isFn K (.ref f29) = true)
    (l29 : K.lookup f29 = some ⟨oc29, od29, .func (PySem.W.fnOf "__init__" "Space.__init__" (defArgs s_Space_init) (defBody s_Space_init) (defScope s_Space_init) (.ref dT29) kV29 dc29 pm29 an29 cd29 ct29), sl29⟩)
    (c29 : PySem.W.codeIn K cd29 "Space.__init__" = true)
    (k29 : PySem.W.keepIn K (.ref f29) = true)
    (dl29 : K.lookup dT29 = some ⟨do29, dd29, .seq di29 dn29, ds29⟩)
    (dv29 : di29.toList.map isDf = ([.ref ea29_0] : List V).map some)
    (et29_0 : K.lookup ea29_0 = some ⟨.type "tuple", eb29_0, .seq #[] ec29_0, ef29_0⟩)
    (a53 : PySem.W.nsIn K mainGlobals "_law_made" = some (some (.ref f53)))
    (l53 : K.lookup f53 = some ⟨oc53, od53, .func (PySem.W.fnOf "_law_made" "_law_made" (defArgs s_made) (defBody s_made) (defScope s_made) .none kV53 dc53 pm53 an53 cd53 ct53), sl53⟩)
    (c53 : PySem.W.codeIn K cd53 "_law_made" = true)
    (k53 : PySem.W.keepIn K (.ref f53) = true)
    (a52 : PySem.W.nsIn K mainGlobals "_law_span" = some (some (.ref f52)))
    (l52 : K.lookup f52 = some ⟨oc52, od52, .func (PySem.W.fnOf "_law_span" "_law_span" (defArgs s_span) (defBody s_span) (defScope s_span) .none kV52 dc52 pm52 an52 cd52 ct52), sl52⟩)
    (c52 : PySem.W.codeIn K cd52 "_law_span" = true)
    (k52 : PySem.W.keepIn K (.ref f52) = true)
    (a38 : PySem.W.findIn K (.ref C1) "require" = some (some (.ref f38)))
    (i38 : PySem.W.isFn K (.ref f38) = true)
    (l38 : K.lookup f38 = some ⟨oc38, od38, .func (PySem.W.fnOf "require" "Space.require" (defArgs s_Space_require) (defBody s_Space_require) (defScope s_Space_require) .none kV38 dc38 pm38 an38 cd38 ct38), sl38⟩)
    (c38 : PySem.W.codeIn K cd38 "Space.require" = true)
    (k38 : PySem.W.keepIn K (.ref f38) = true)
    (a39 : PySem.W.findIn K (.ref C1) "__or__" = some (some (.ref f39)))
    (i39 : PySem.W.isFn K (.ref f39) = true)
    (l39 : K.lookup f39 = some ⟨oc39, od39, .func (PySem.W.fnOf "__or__" "Space.__or__" (defArgs s_Space_or) (defBody s_Space_or) (defScope s_Space_or) .none kV39 dc39 pm39 an39 cd39 ct39), sl39⟩)
    (c39 : PySem.W.codeIn K cd39 "Space.__or__" = true)
    (k39 : PySem.W.keepIn K (.ref f39) = true)
    (a40 : PySem.W.findIn K (.ref C1) "__and__" = some (some (.ref f40)))
    (i40 : PySem.W.isFn K (.ref f40) = true)
    (l40 : K.lookup f40 = some ⟨oc40, od40, .func (PySem.W.fnOf "__and__" "Space.__and__" (defArgs s_Space_and) (defBody s_Space_and) (defScope s_Space_and) .none kV40 dc40 pm40 an40 cd40 ct40), sl40⟩)
    (c40 : PySem.W.codeIn K cd40 "Space.__and__" = true)
    (k40 : PySem.W.keepIn K (.ref f40) = true)
    (a47 : PySem.W.nsIn K mainGlobals "_law_all_data" = some (some (.ref f47)))
    (l47 : K.lookup f47 = some ⟨oc47, od47, .func (PySem.W.fnOf "_law_all_data" "_law_all_data" (defArgs s_all_data) (defBody s_all_data) (defScope s_all_data) .none kV47 dc47 pm47 an47 cd47 ct47), sl47⟩)
    (c47 : PySem.W.codeIn K cd47 "_law_all_data" = true)
    (k47 : PySem.W.keepIn K (.ref f47) = true)
    (a7 : PySem.W.nsIn K mainGlobals "has_row" = some (some (.ref f7)))
    (l7 : K.lookup f7 = some ⟨oc7, od7, .func (PySem.W.fnOf "has_row" "has_row" (defArgs s_has_row) (defBody s_has_row) (defScope s_has_row) .none kV7 dc7 pm7 an7 cd7 ct7), sl7⟩)
    (c7 : PySem.W.codeIn K cd7 "has_row" = true)
    (k7 : PySem.W.keepIn K (.ref f7) = true)
    (a36 : PySem.W.findIn K (.ref C1) "__contains__" = some (some (.ref f36)))
    (i36 : PySem.W.isFn K (.ref f36) = true)
    (l36 : K.lookup f36 = some ⟨oc36, od36, .func (PySem.W.fnOf "__contains__" "Space.__contains__" (defArgs s_Space_contains) (defBody s_Space_contains) (defScope s_Space_contains) .none kV36 dc36 pm36 an36 cd36 ct36), sl36⟩)
    (c36 : PySem.W.codeIn K cd36 "Space.__contains__" = true)
    (k36 : PySem.W.keepIn K (.ref f36) = true)
    (a41 : PySem.W.findIn K (.ref C1) "within" = some (some (.ref f41)))
    (i41 : PySem.W.isFn K (.ref f41) = true)
    (l41 : K.lookup f41 = some ⟨oc41, od41, .func (PySem.W.fnOf "within" "Space.within" (defArgs s_Space_within) (defBody s_Space_within) (defScope s_Space_within) .none kV41 dc41 pm41 an41 cd41 ct41), sl41⟩)
    (c41 : PySem.W.codeIn K cd41 "Space.within" = true)
    (k41 : PySem.W.keepIn K (.ref f41) = true)
    (a54 : PySem.W.nsIn K mainGlobals "law" = some (some (.ref f54)))
    (l54 : K.lookup f54 = some ⟨oc54, od54, .func (PySem.W.fnOf "law" "law" (defArgs s_law) (defBody s_law) (defScope s_law) .none kV54 dc54 pm54 an54 cd54 ct54), sl54⟩)
    (c54 : PySem.W.codeIn K cd54 "law" = true)
    (k54 : PySem.W.keepIn K (.ref f54) = true)
    (z_super : PySem.W.nsIn K mainGlobals "super" = some none)
    (etp : (l.prog.main.scope.names.lookup ("super" : Str)).isSome = false)
    (eop : PySem.W.nsIn K cStatics "thirdparty.any" = some none)
    (aE3 : PySem.W.nsIn K mainGlobals "InvalidSum" = some (some (.ref C3)))
    (eq3 : PySem.W.excInitIn K C3 ESX.exTail "Exception.__new__" = true)
    (eo3 : PySem.W.excOver K C3 ESX.exTail = true)
    (ei3 : PySem.W.findIn K (.ref C3) "__init__" = some (some (.ref ef3)))
    (et3 : PySem.W.typeIn K (.ref ef3) = some (.type "function"))
    (el3 : K.lookup ef3 = some ⟨eoc3, eod3, .func (PySem.W.ksFn "__init__" "InvalidSum.__init__" (defArgs s_E3) (defBody s_E3) (defScope s_E3) .none ekV3 edc3 epm3 ean3 (.ref ecd3) ect3 ecc3), eosl3⟩)
    (ec3 : PySem.W.codeIn K (.ref ecd3) "InvalidSum.__init__" = true)
    (ed3 : K.lookup ecd3 = some ⟨e1_3, e2_3, .fields evs3, e3_3⟩)
    (ev3 : evs3[2]? = some (.str efl3 etk3))
    (ew3 : ((l.prog.main.file : Str) == efl3) = true)
    (ex3 : K.lookup ecc3 = some ⟨x1_3, x2_3, .cell (some (.ref C3)), x3_3⟩)
    (es3 : PySem.W.ks_superIn K C3 C3 "__init__" = some (some (.builtin "Exception.__init__")))
    (eb3 : PySem.W.subIn K (.ref C3) (.type "Exception") = some true)
    (em3 : PySem.W.mroIn K C3 (.ref C3) = some true)
    (ea3 : PySem.W.findIn K (.ref C3) "__setattr__" = some (some (.builtin "object.__setattr__")))
    (en3 : PySem.W.findIn K (.ref C3) "value" = some none)
    (ek3 : PySem.W.keepIn K (.ref C3) = true)
    (ey3 : PySem.W.typeIn K (.ref C3) = some (.type "type"))
    (xga3 : PySem.W.findIn K (.ref C3) "__getattribute__" = some (some (.builtin "BaseException.__getattribute__")))
    (xgg3 : PySem.W.findIn K (.ref C3) "__getattr__" = some none)
    (xex3 : PySem.W.subIn K (.ref C3) (.type "BaseException") = some true)
    (xhd3 : PySem.W.hasDictIn K C3 = true)
    (aE5 : PySem.W.nsIn K mainGlobals "InvalidNumber" = some (some (.ref C5)))
    (eq5 : PySem.W.excInitIn K C5 ESX.exTail "Exception.__new__" = true)
    (eo5 : PySem.W.excOver K C5 ESX.exTail = true)
    (ei5 : PySem.W.findIn K (.ref C5) "__init__" = some (some (.ref ef5)))
    (et5 : PySem.W.typeIn K (.ref ef5) = some (.type "function"))
    (el5 : K.lookup ef5 = some ⟨eoc5, eod5, .func (PySem.W.ksFn "__init__" "InvalidNumber.__init__" (defArgs s_E5) (defBody s_E5) (defScope s_E5) .none ekV5 edc5 epm5 ean5 (.ref ecd5) ect5 ecc5), eosl5⟩)
    (ec5 : PySem.W.codeIn K (.ref ecd5) "InvalidNumber.__init__" = true)
    (ed5 : K.lookup ecd5 = some ⟨e1_5, e2_5, .fields evs5, e3_5⟩)
    (ev5 : evs5[2]? = some (.str efl5 etk5))
    (ew5 : ((l.prog.main.file : Str) == efl5) = true)
    (ex5 : K.lookup ecc5 = some ⟨x1_5, x2_5, .cell (some (.ref C5)), x3_5⟩)
    (es5 : PySem.W.ks_superIn K C5 C5 "__init__" = some (some (.builtin "Exception.__init__")))
    (eb5 : PySem.W.subIn K (.ref C5) (.type "Exception") = some true)
    (em5 : PySem.W.mroIn K C5 (.ref C5) = some true)
    (ea5 : PySem.W.findIn K (.ref C5) "__setattr__" = some (some (.builtin "object.__setattr__")))
    (en5 : PySem.W.findIn K (.ref C5) "value" = some none)
    (ek5 : PySem.W.keepIn K (.ref C5) = true)
    (ey5 : PySem.W.typeIn K (.ref C5) = some (.type "type"))
    (xga5 : PySem.W.findIn K (.ref C5) "__getattribute__" = some (some (.builtin "BaseException.__getattribute__")))
    (xgg5 : PySem.W.findIn K (.ref C5) "__getattr__" = some none)
    (xex5 : PySem.W.subIn K (.ref C5) (.type "BaseException") = some true)
    (xhd5 : PySem.W.hasDictIn K C5 = true)
    (aE6 : PySem.W.nsIn K mainGlobals "InvalidOperand" = some (some (.ref C6)))
    (eq6 : PySem.W.excInitIn K C6 ESX.exTail "Exception.__new__" = true)
    (eo6 : PySem.W.excOver K C6 ESX.exTail = true)
    (ei6 : PySem.W.findIn K (.ref C6) "__init__" = some (some (.ref ef6)))
    (et6 : PySem.W.typeIn K (.ref ef6) = some (.type "function"))
    (el6 : K.lookup ef6 = some ⟨eoc6, eod6, .func (PySem.W.ksFn "__init__" "InvalidOperand.__init__" (defArgs s_E6) (defBody s_E6) (defScope s_E6) .none ekV6 edc6 epm6 ean6 (.ref ecd6) ect6 ecc6), eosl6⟩)
    (ec6 : PySem.W.codeIn K (.ref ecd6) "InvalidOperand.__init__" = true)
    (ed6 : K.lookup ecd6 = some ⟨e1_6, e2_6, .fields evs6, e3_6⟩)
    (ev6 : evs6[2]? = some (.str efl6 etk6))
    (ew6 : ((l.prog.main.file : Str) == efl6) = true)
    (ex6 : K.lookup ecc6 = some ⟨x1_6, x2_6, .cell (some (.ref C6)), x3_6⟩)
    (es6 : PySem.W.ks_superIn K C6 C6 "__init__" = some (some (.builtin "Exception.__init__")))
    (eb6 : PySem.W.subIn K (.ref C6) (.type "Exception") = some true)
    (em6 : PySem.W.mroIn K C6 (.ref C6) = some true)
    (ea6 : PySem.W.findIn K (.ref C6) "__setattr__" = some (some (.builtin "object.__setattr__")))
    (en6 : PySem.W.findIn K (.ref C6) "other" = some none)
    (ek6 : PySem.W.keepIn K (.ref C6) = true)
    (ey6 : PySem.W.typeIn K (.ref C6) = some (.type "type"))
    (xga6 : PySem.W.findIn K (.ref C6) "__getattribute__" = some (some (.builtin "BaseException.__getattribute__")))
    (xgg6 : PySem.W.findIn K (.ref C6) "__getattr__" = some none)
    (xex6 : PySem.W.subIn K (.ref C6) (.type "BaseException") = some true)
    (xhd6 : PySem.W.hasDictIn K C6 = true)
    (pg0 : PySem.W.plainGet K C0 Str.empty = true)
    (ic0 : PySem.W.isClsIn K C0 = true)
    (po0 : PySem.W.plainOver K C0 = true)
    (sa0 : PySem.W.findIn K (.ref C0) "__setattr__" = some (some (.builtin "object.__setattr__")))
    (pg1 : PySem.W.plainGet K C1 Str.empty = true)
    (ic1 : PySem.W.isClsIn K C1 = true)
    (po1 : PySem.W.plainOver K C1 = true)
    (sa1 : PySem.W.findIn K (.ref C1) "__setattr__" = some (some (.builtin "object.__setattr__")))
    (g_MOST_DATA : PySem.W.nsIn K mainGlobals "MOST_DATA" = some (some (.int 4096 tk_MOST_DATA)))
    (g_PRIMES : PySem.W.nsIn K mainGlobals "PRIMES" = some (some (.ref ga_PRIMES)))
    (gl_PRIMES : K.lookup ga_PRIMES = some ⟨.type "tuple", go_PRIMES, .seq gi_PRIMES gn_PRIMES, gs_PRIMES⟩)
    (gz_PRIMES : gi_PRIMES.size ≤ sizeLine)
    (gv_PRIMES : gi_PRIMES.toList.map isIntV = ([2, 3, 5, 7] : List Int).map some)
    (i1_1_BitAnd : PySem.W.findIn K (.type "int") (PySem.dunder (Operator.BitAnd).info.2) = some vi1_1_BitAnd)
    (i1_1_BitOr : PySem.W.findIn K (.type "int") (PySem.dunder (Operator.BitOr).info.2) = some vi1_1_BitOr)
    (i2_1_BitAnd : PySem.W.findIn K (.type "int") (dunderR (Operator.BitAnd).info.2) = some vi2_1_BitAnd)
    (i2_1_BitOr : PySem.W.findIn K (.type "int") (dunderR (Operator.BitOr).info.2) = some vi2_1_BitOr)
    (i3_1 : PySem.W.subIn K (.type "int") (.ref C1) = some false)
    (ca0 : PySem.W.findIn K (.ref C0) "__class__" = some (some (.builtin "object.__class__")))
    (cn0 : PySem.W.specialIn K (.builtin "object.__class__") "__get__" = some (some (.builtin "getset_descriptor.__get__")))
    (cT0 : PySem.W.takesIn K (.builtin "object.__class__") = some true)
    (cM0 : PySem.W.mroIn K C0 (.type "object") = some true)
    (ca1 : PySem.W.findIn K (.ref C1) "__class__" = some (some (.builtin "object.__class__")))
    (cn1 : PySem.W.specialIn K (.builtin "object.__class__") "__get__" = some (some (.builtin "getset_descriptor.__get__")))
    (cT1 : PySem.W.takesIn K (.builtin "object.__class__") = some true)
    (cM1 : PySem.W.mroIn K C1 (.type "object") = some true)
    (kas_0l : PySem.W.mroIn K C0 (.type "list") = some false)
    (kas_0t : PySem.W.mroIn K C0 (.type "tuple") = some false)
    (kas_1l : PySem.W.mroIn K C1 (.type "list") = some false)
    (kas_1t : PySem.W.mroIn K C1 (.type "tuple") = some false)
    (kb_0c : PySem.W.isClsIn K C0 = true)
    (kb_0y : PySem.W.typeIn K (.ref C0) = some (.type "type"))
    (kb_0_NoneType : PySem.W.subIn K (.type "NoneType") (.ref C0) = some false)
    (kb_0_bool : PySem.W.subIn K (.type "bool") (.ref C0) = some false)
    (kb_0_int : PySem.W.subIn K (.type "int") (.ref C0) = some false)
    (kb_0_str : PySem.W.subIn K (.type "str") (.ref C0) = some false)
    (kb_0_list : PySem.W.subIn K (.type "list") (.ref C0) = some false)
    (kb_0_tuple : PySem.W.subIn K (.type "tuple") (.ref C0) = some false)
    (kb_0_dict : PySem.W.subIn K (.type "dict") (.ref C0) = some false)
    (kb_1c : PySem.W.isClsIn K C1 = true)
    (kb_1y : PySem.W.typeIn K (.ref C1) = some (.type "type"))
    (kb_1_NoneType : PySem.W.subIn K (.type "NoneType") (.ref C1) = some false)
    (kb_1_bool : PySem.W.subIn K (.type "bool") (.ref C1) = some false)
    (kb_1_int : PySem.W.subIn K (.type "int") (.ref C1) = some false)
    (kb_1_str : PySem.W.subIn K (.type "str") (.ref C1) = some false)
    (kb_1_list : PySem.W.subIn K (.type "list") (.ref C1) = some false)
    (kb_1_tuple : PySem.W.subIn K (.type "tuple") (.ref C1) = some false)
    (kb_1_dict : PySem.W.subIn K (.type "dict") (.ref C1) = some false)
    (ki_0_1 : PySem.W.kitOne K (.ref C0) (.ref C1) = some false)
    (ki_0_bool : PySem.W.mroIn K C0 (.type "bool") = some false)
    (ki_0_int : PySem.W.mroIn K C0 (.type "int") = some false)
    (ki_1_0 : PySem.W.kitOne K (.ref C1) (.ref C0) = some false)
    (ki_1_bool : PySem.W.mroIn K C1 (.type "bool") = some false)
    (ki_1_int : PySem.W.mroIn K C1 (.type "int") = some false)
    (mk0 : PySem.W.makesIn K C0 = true)
    (kc0 : PySem.W.keepIn K (.ref C0) = true)
    (mk1 : PySem.W.makesIn K C1 = true)
    (kc1 : PySem.W.keepIn K (.ref C1) = true)
    (nb_0_NoneType : PySem.W.notFirst K C0 (.type "NoneType") = true)
    (nb_0_bool : PySem.W.notFirst K C0 (.type "bool") = true)
    (nb_0_int : PySem.W.notFirst K C0 (.type "int") = true)
    (nb_0_str : PySem.W.notFirst K C0 (.type "str") = true)
    (nb_0_list : PySem.W.notFirst K C0 (.type "list") = true)
    (nb_0_tuple : PySem.W.notFirst K C0 (.type "tuple") = true)
    (nb_0_dict : PySem.W.notFirst K C0 (.type "dict") = true)
    (nb_1_NoneType : PySem.W.notFirst K C1 (.type "NoneType") = true)
    (nb_1_bool : PySem.W.notFirst K C1 (.type "bool") = true)
    (nb_1_int : PySem.W.notFirst K C1 (.type "int") = true)
    (nb_1_str : PySem.W.notFirst K C1 (.type "str") = true)
    (nb_1_list : PySem.W.notFirst K C1 (.type "list") = true)
    (nb_1_tuple : PySem.W.notFirst K C1 (.type "tuple") = true)
    (nb_1_dict : PySem.W.notFirst K C1 (.type "dict") = true)
    (ne_0 : PySem.W.findIn K (.ref C0) "__ne__" = some (some (.builtin "object.__ne__")))
    (ne_1 : PySem.W.findIn K (.ref C1) "__ne__" = some (some (.builtin "object.__ne__")))
    (nf_0_0 : PySem.W.notFirst K C0 (.ref C0) = true)
    (nf_0_1 : PySem.W.notFirst K C0 (.ref C1) = true)
    (nf_1_0 : PySem.W.notFirst K C1 (.ref C0) = true)
    (nf_1_1 : PySem.W.notFirst K C1 (.ref C1) = true)
    (rc_1_BitAnd : PySem.W.findIn K (.ref C1) (dunderR (Operator.BitAnd).info.2) = some none)
    (rc_1_BitOr : PySem.W.findIn K (.ref C1) (dunderR (Operator.BitOr).info.2) = some none)
    (sf_1 : PySem.W.selfFirst K C1 = true)
    (sa_sp0_own_prime : PySem.W.findIn K (.ref C0) "own_prime" = some (some (.ref sp0_own_prime)))
    (sg_sp0_own_prime : PySem.W.specialIn K (.ref sp0_own_prime) "__get__" = some (some (.builtin "member_descriptor.__get__")))
    (st_sp0_own_prime : PySem.W.takesIn K (.ref sp0_own_prime) = some true)
    (sy_sp0_own_prime : PySem.W.typeIn K (.ref sp0_own_prime) = some (.type "member_descriptor"))
    (sx_sp0_own_prime : PySem.W.slotIn K sp0_own_prime C0 = some 0)
    (sa_sp0_row : PySem.W.findIn K (.ref C0) "row" = some (some (.ref sp0_row)))
    (sg_sp0_row : PySem.W.specialIn K (.ref sp0_row) "__get__" = some (some (.builtin "member_descriptor.__get__")))
    (st_sp0_row : PySem.W.takesIn K (.ref sp0_row) = some true)
    (sy_sp0_row : PySem.W.typeIn K (.ref sp0_row) = some (.type "member_descriptor"))
    (sx_sp0_row : PySem.W.slotIn K sp0_row C0 = some 1)
    (sa_sp1_listed : PySem.W.findIn K (.ref C1) "listed" = some (some (.ref sp1_listed)))
    (sg_sp1_listed : PySem.W.specialIn K (.ref sp1_listed) "__get__" = some (some (.builtin "member_descriptor.__get__")))
    (st_sp1_listed : PySem.W.takesIn K (.ref sp1_listed) = some true)
    (sy_sp1_listed : PySem.W.typeIn K (.ref sp1_listed) = some (.type "member_descriptor"))
    (sx_sp1_listed : PySem.W.slotIn K sp1_listed C1 = some 0)
    (sa_sp1_own_prime : PySem.W.findIn K (.ref C1) "own_prime" = some (some (.ref sp1_own_prime)))
    (sg_sp1_own_prime : PySem.W.specialIn K (.ref sp1_own_prime) "__get__" = some (some (.builtin "member_descriptor.__get__")))
    (st_sp1_own_prime : PySem.W.takesIn K (.ref sp1_own_prime) = some true)
    (sy_sp1_own_prime : PySem.W.typeIn K (.ref sp1_own_prime) = some (.type "member_descriptor"))
    (sx_sp1_own_prime : PySem.W.slotIn K sp1_own_prime C1 = some 1)
    (sa_sp1_own_size : PySem.W.findIn K (.ref C1) "own_size" = some (some (.ref sp1_own_size)))
    (sg_sp1_own_size : PySem.W.specialIn K (.ref sp1_own_size) "__get__" = some (some (.builtin "member_descriptor.__get__")))
    (st_sp1_own_size : PySem.W.takesIn K (.ref sp1_own_size) = some true)
    (sy_sp1_own_size : PySem.W.typeIn K (.ref sp1_own_size) = some (.type "member_descriptor"))
    (sx_sp1_own_size : PySem.W.slotIn K sp1_own_size C1 = some 2)
    (sa_sp1_rows : PySem.W.findIn K (.ref C1) "rows" = some (some (.ref sp1_rows)))
    (sg_sp1_rows : PySem.W.specialIn K (.ref sp1_rows) "__get__" = some (some (.builtin "member_descriptor.__get__")))
    (st_sp1_rows : PySem.W.takesIn K (.ref sp1_rows) = some true)
    (sy_sp1_rows : PySem.W.typeIn K (.ref sp1_rows) = some (.type "member_descriptor"))
    (sx_sp1_rows : PySem.W.slotIn K sp1_rows C1 = some 3)
    (z_all : PySem.W.nsIn K mainGlobals "all" = some none)
    (z_any : PySem.W.nsIn K mainGlobals "any" = some none)
    (z_bool : PySem.W.nsIn K mainGlobals "bool" = some none)
    (z_int : PySem.W.nsIn K mainGlobals "int" = some none)
    (z_isinstance : PySem.W.nsIn K mainGlobals "isinstance" = some none)
    (z_len : PySem.W.nsIn K mainGlobals "len" = some none)
    (z_list : PySem.W.nsIn K mainGlobals "list" = some none)
    (z_max : PySem.W.nsIn K mainGlobals "max" = some none)
    (z_min : PySem.W.nsIn K mainGlobals "min" = some none)
    (z_range : PySem.W.nsIn K mainGlobals "range" = some none)
    (z_set : PySem.W.nsIn K mainGlobals "set" = some none)
    (z_sorted : PySem.W.nsIn K mainGlobals "sorted" = some none)
    (z_tuple : PySem.W.nsIn K mainGlobals "tuple" = some none)
    (z_zip : PySem.W.nsIn K mainGlobals "zip" = some none)
    (cs : List (Addr × Addr × Addr)) (hcl : cs.length = ([] : List Str).length) (hcs : ∀ (i : Nat) (x : Str) (p : Addr × Addr × Addr), ([] : List Str)[i]? = some x → cs[i]? = some p → MkT mg h x p.1 p.2.1 p.2.2) :
    ∃ tb : List (Addr × Str), (∀ p ∈ tb, ∃ r ∈ cs, r.2.2 = p.1) ∧ ∀ base : Heap, K.In base → base.Ns mainGlobals mg → SysD base → (∀ r ∈ cs, LamX.TabB base mg r.2.1 r.2.2) → FnG l.prog w K mg base 10 fa (spLaw tb K) := by
  have e := hfa.symm.trans (PySem.W.mg_of X G a54)
  obtain rfl : f54 = fa := by cases e; rfl
  match cs, hcl with
  | [], _ =>
    have T : Txt l.prog (kOf [C0, C1, 0, C3, 0, C5, C6] []) (adOf [0, f1, f2, f3, f4, f5, f6, f7, 0, f9, f10, f11, f12, f13, f14, f15, 0, f17, f18, f19, 0, 0, 0, 0, 0, 0, 0, f27, f28, f29, f30, f31, 0, 0, f34, 0, f36, f37, f38, f39, f40, f41, 0, 0, f44, f45, f46, f47, 0, f49, f50, f51, f52, f53, f54]) (adOf [0, 0, 0, 0, 0, 0, 0, 0, 0, 0, 0, 0, 0, 0, 0, 0, 0, 0, 0, 0, 0, 0, 0, 0, 0, 0, 0, 0, 0, 0, 0, 0, 0, 0, 0, 0, 0, 0, 0, 0, 0, 0, 0, 0, 0, 0, 0, 0, 0, 0, 0, 0, 0, 0, 0]) (taOf [0, 0, 0, 0, 0, 0, 0, 0, 0, 0, 0, 0, 0, 0, 0, 0, 0, 0, 0, 0, 0, 0, 0, 0, 0, 0, 0, 0, 0, 0, 0, 0, 0, 0, 0, 0, 0, 0, 0, 0, 0, 0, 0, 0, 0, 0, 0, 0, 0, 0, 0, 0, 0, 0, 0]) K mg := {
    f_Space_len := ⟨_, fun_mk (st := s_Space_len) l34 c34 k34, (fun_mk (st := s_Space_len) l34 c34 k34).binds (ps := ["self"]) fun _ _ _ _ _ _ us hl => match us, hl with | [_], _ => rfl⟩
    f_source := ⟨_, fun_mk (st := s_source) l44 c44 k44, (fun_mk (st := s_source) l44 c44 k44).binds (ps := ["_law_script", "_law_turn"]) fun _ _ _ _ _ _ us hl => match us, hl with | [_, _], _ => rfl⟩
    m_source := PySem.W.mg_of X G a44
    f_draw := ⟨_, fun_mk (st := s_draw) l45 c45 k45, (fun_mk (st := s_draw) l45 c45 k45).binds (ps := ["_law_source_here", "_law_amount"]) fun _ _ _ _ _ _ us hl => match us, hl with | [_, _], _ => rfl⟩
    m_draw := PySem.W.mg_of X G a45
    f_pick := ⟨_, fun_mk (st := s_pick) l46 c46 k46, (fun_mk (st := s_pick) l46 c46 k46).binds (ps := ["_law_source_here", "_law_items"]) fun _ _ _ _ _ _ us hl => match us, hl with | [_, _], _ => rfl⟩
    m_pick := PySem.W.mg_of X G a46
    f_form := ⟨_, fun_mk (st := s_form) l50 c50 k50, (fun_mk (st := s_form) l50 c50 k50).binds (ps := ["_law_source_here"]) fun _ _ _ _ _ _ us hl => match us, hl with | [_], _ => rfl⟩
    m_form := PySem.W.mg_of X G a50
    f_factors := ⟨_, fun_mk (st := s_factors) l49 c49 k49, (fun_mk (st := s_factors) l49 c49 k49).binds (ps := ["_law_source_here", "_law_prime", "_law_size"]) fun _ _ _ _ _ _ us hl => match us, hl with | [_, _, _], _ => rfl⟩
    m_factors := PySem.W.mg_of X G a49
    f_sums := ⟨_, fun_mk (st := s_sums) l51 c51 k51, (fun_mk (st := s_sums) l51 c51 k51).binds (ps := ["_law_source_here", "_law_prime", "_law_size", "_law_most"]) fun _ _ _ _ _ _ us hl => match us, hl with | [_, _, _, _], _ => rfl⟩
    m_sums := PySem.W.mg_of X G a51
    f_Space_eq := ⟨_, fun_mk (st := s_Space_eq) l37 c37 k37, (fun_mk (st := s_Space_eq) l37 c37 k37).binds (ps := ["self", "other"]) fun _ _ _ _ _ _ us hl => match us, hl with | [_, _], _ => rfl⟩
    f_Sum_eq := ⟨_, fun_mk (st := s_Sum_eq) l27 c27 k27, (fun_mk (st := s_Sum_eq) l27 c27 k27).binds (ps := ["self", "other"]) fun _ _ _ _ _ _ us hl => match us, hl with | [_, _], _ => rfl⟩
    f_is_integer := ⟨_, fun_mk (st := s_is_integer) l11 c11 k11, (fun_mk (st := s_is_integer) l11 c11 k11).binds (ps := ["value"]) fun _ _ _ _ _ _ us hl => match us, hl with | [_], _ => rfl⟩
    m_is_integer := PySem.W.mg_of X G a11
    f_is_prime := ⟨_, fun_mk (st := s_is_prime) l12 c12 k12, (fun_mk (st := s_is_prime) l12 c12 k12).binds (ps := ["value"]) fun _ _ _ _ _ _ us hl => match us, hl with | [_], _ => rfl⟩
    m_is_prime := PySem.W.mg_of X G a12
    f_is_between := ⟨_, fun_mk (st := s_is_between) l10 c10 k10, (fun_mk (st := s_is_between) l10 c10 k10).binds (ps := ["value", "low", "high"]) fun _ _ _ _ _ _ us hl => match us, hl with | [_, _, _], _ => rfl⟩
    m_is_between := PySem.W.mg_of X G a10
    f_power := ⟨_, fun_mk (st := s_power) l9 c9 k9, (fun_mk (st := s_power) l9 c9 k9).binds (ps := ["base", "exponent"]) fun _ _ _ _ _ _ us hl => match us, hl with | [_, _], _ => rfl⟩
    m_power := PySem.W.mg_of X G a9
    f_is_size := ⟨_, fun_mk (st := s_is_size) l13 c13 k13, (fun_mk (st := s_is_size) l13 c13 k13).binds (ps := ["prime", "value"]) fun _ _ _ _ _ _ us hl => match us, hl with | [_, _], _ => rfl⟩
    m_is_size := PySem.W.mg_of X G a13
    f_is_data := ⟨_, fun_mk (st := s_is_data) l14 c14 k14, (fun_mk (st := s_is_data) l14 c14 k14).binds (ps := ["prime", "size", "value"]) fun _ _ _ _ _ _ us hl => match us, hl with | [_, _, _], _ => rfl⟩
    m_is_data := PySem.W.mg_of X G a14
    f_Sum_init := ⟨_, fun_mk (st := s_Sum_init) l15 c15 k15, (fun_mk (st := s_Sum_init) l15 c15 k15).binds (ps := ["self", "prime", "factors"]) fun _ _ _ _ _ _ us hl => match us, hl with | [_, _, _], _ => rfl⟩
    f_Space_prime := ⟨_, fun_mk (st := s_Space_prime) l30 c30 k30, (fun_mk (st := s_Space_prime) l30 c30 k30).binds (ps := ["self"]) fun _ _ _ _ _ _ us hl => match us, hl with | [_], _ => rfl⟩
    f_Sum_prime := ⟨_, fun_mk (st := s_Sum_prime) l17 c17 k17, (fun_mk (st := s_Sum_prime) l17 c17 k17).binds (ps := ["self"]) fun _ _ _ _ _ _ us hl => match us, hl with | [_], _ => rfl⟩
    f_Space_size := ⟨_, fun_mk (st := s_Space_size) l31 c31 k31, (fun_mk (st := s_Space_size) l31 c31 k31).binds (ps := ["self"]) fun _ _ _ _ _ _ us hl => match us, hl with | [_], _ => rfl⟩
    f_Sum_size := ⟨_, fun_mk (st := s_Sum_size) l19 c19 k19, (fun_mk (st := s_Sum_size) l19 c19 k19).binds (ps := ["self"]) fun _ _ _ _ _ _ us hl => match us, hl with | [_], _ => rfl⟩
    f_is_sum := ⟨_, fun_mk (st := s_is_sum) l28 c28 k28, (fun_mk (st := s_is_sum) l28 c28 k28).binds (ps := ["value", "prime", "size"]) fun _ _ _ _ _ _ us hl => match us, hl with | [_, _, _], _ => rfl⟩
    m_is_sum := PySem.W.mg_of X G a28
    f_Sum_factors := ⟨_, fun_mk (st := s_Sum_factors) l18 c18 k18, (fun_mk (st := s_Sum_factors) l18 c18 k18).binds (ps := ["self"]) fun _ _ _ _ _ _ us hl => match us, hl with | [_], _ => rfl⟩
    f_lead := ⟨_, fun_mk (st := s_lead) l4 c4 k4, (fun_mk (st := s_lead) l4 c4 k4).binds (ps := ["row"]) fun _ _ _ _ _ _ us hl => match us, hl with | [_], _ => rfl⟩
    m_lead := PySem.W.mg_of X G a4
    f_added := ⟨_, fun_mk (st := s_added) l3 c3 k3, (fun_mk (st := s_added) l3 c3 k3).binds (ps := ["row", "other", "factor", "prime"]) fun _ _ _ _ _ _ us hl => match us, hl with | [_, _, _, _], _ => rfl⟩
    m_added := PySem.W.mg_of X G a3
    f_rest_of := ⟨_, fun_mk (st := s_rest_of) l5 c5 k5, (fun_mk (st := s_rest_of) l5 c5 k5).binds (ps := ["row", "rows", "prime"]) fun _ _ _ _ _ _ us hl => match us, hl with | [_, _, _], _ => rfl⟩
    m_rest_of := PySem.W.mg_of X G a5
    f_inverse := ⟨_, fun_mk (st := s_inverse) l1 c1 k1, (fun_mk (st := s_inverse) l1 c1 k1).binds (ps := ["number", "prime"]) fun _ _ _ _ _ _ us hl => match us, hl with | [_, _], _ => rfl⟩
    m_inverse := PySem.W.mg_of X G a1
    f_scaled := ⟨_, fun_mk (st := s_scaled) l2 c2 k2, (fun_mk (st := s_scaled) l2 c2 k2).binds (ps := ["row", "factor", "prime"]) fun _ _ _ _ _ _ us hl => match us, hl with | [_, _, _], _ => rfl⟩
    m_scaled := PySem.W.mg_of X G a2
    f_reduced := ⟨_, fun_mk (st := s_reduced) l6 c6 k6, (fun_mk (st := s_reduced) l6 c6 k6).binds (ps := ["rows", "prime"]) fun _ _ _ _ _ _ us hl => match us, hl with | [_, _], _ => rfl⟩
    m_reduced := PySem.W.mg_of X G a6
    f_Space_init := fad_mk l29 c29 k29 dl29 dv29 (by simp) (fun G L => (.cons (.tup (.inr ⟨_, #[], ec29_0, et29_0, rfl, rfl, by decide, .nil⟩) .nil) .nil))
    f_made := ⟨_, fun_mk (st := s_made) l53 c53 k53, (fun_mk (st := s_made) l53 c53 k53).binds (ps := ["_law_prime", "_law_size", "_law_rows"]) fun _ _ _ _ _ _ us hl => match us, hl with | [_, _, _], _ => rfl⟩
    m_made := PySem.W.mg_of X G a53
    f_span := ⟨_, fun_mk (st := s_span) l52 c52 k52, (fun_mk (st := s_span) l52 c52 k52).binds (ps := ["_law_rows", "_law_prime", "_law_size"]) fun _ _ _ _ _ _ us hl => match us, hl with | [_, _, _], _ => rfl⟩
    m_span := PySem.W.mg_of X G a52
    f_Space_require := ⟨_, fun_mk (st := s_Space_require) l38 c38 k38, (fun_mk (st := s_Space_require) l38 c38 k38).binds (ps := ["self", "other"]) fun _ _ _ _ _ _ us hl => match us, hl with | [_, _], _ => rfl⟩
    f_Space_or := ⟨_, fun_mk (st := s_Space_or) l39 c39 k39, (fun_mk (st := s_Space_or) l39 c39 k39).binds (ps := ["self", "other"]) fun _ _ _ _ _ _ us hl => match us, hl with | [_, _], _ => rfl⟩
    f_Space_and := ⟨_, fun_mk (st := s_Space_and) l40 c40 k40, (fun_mk (st := s_Space_and) l40 c40 k40).binds (ps := ["self", "other"]) fun _ _ _ _ _ _ us hl => match us, hl with | [_, _], _ => rfl⟩
    f_all_data := ⟨_, fun_mk (st := s_all_data) l47 c47 k47, (fun_mk (st := s_all_data) l47 c47 k47).binds (ps := ["_law_prime", "_law_size"]) fun _ _ _ _ _ _ us hl => match us, hl with | [_, _], _ => rfl⟩
    m_all_data := PySem.W.mg_of X G a47
    f_has_row := ⟨_, fun_mk (st := s_has_row) l7 c7 k7, (fun_mk (st := s_has_row) l7 c7 k7).binds (ps := ["rows", "row", "prime"]) fun _ _ _ _ _ _ us hl => match us, hl with | [_, _, _], _ => rfl⟩
    m_has_row := PySem.W.mg_of X G a7
    f_Space_contains := ⟨_, fun_mk (st := s_Space_contains) l36 c36 k36, (fun_mk (st := s_Space_contains) l36 c36 k36).binds (ps := ["self", "item"]) fun _ _ _ _ _ _ us hl => match us, hl with | [_, _], _ => rfl⟩
    f_Space_within := ⟨_, fun_mk (st := s_Space_within) l41 c41 k41, (fun_mk (st := s_Space_within) l41 c41 k41).binds (ps := ["self", "other"]) fun _ _ _ _ _ _ us hl => match us, hl with | [_, _], _ => rfl⟩
    f_law := ⟨_, fun_mk (st := s_law) l54 c54 k54, (fun_mk (st := s_law) l54 c54 k54).binds (ps := ["_law_script"]) fun _ _ _ _ _ _ us hl => match us, hl with | [_], _ => rfl⟩
    m_law := PySem.W.mg_of X G a54
    er_3 := ⟨_, eq3, eo3, ei3, et3, ⟨_, _, _, _, _, _, _, _, _, _, el3, ec3, ⟨_, _, _, _, _, _, ed3, ev3, ew3⟩, _, _, _, ex3⟩, ⟨fun h => (by cases h), fun a h => (by cases h; rfl)⟩, fun s kV doc pm an cd ct cc a b => .of_eq rfl, iniB_ok (by decide +kernel), fun L cd cc => ⟨_, _, _, _, _, _, _, _, _, _, _, _, _, rfl, rfl, rfl, rfl, rfl, rfl⟩, es3, z_super, etp, eop, eb3, em3, ea3, en3, ek3, ey3, ⟨xga3, xgg3, xex3, xhd3⟩⟩
    xf_3 := rfl
    ge_3 := PySem.W.mg_of X G aE3
    er_5 := ⟨_, eq5, eo5, ei5, et5, ⟨_, _, _, _, _, _, _, _, _, _, el5, ec5, ⟨_, _, _, _, _, _, ed5, ev5, ew5⟩, _, _, _, ex5⟩, ⟨fun h => (by cases h), fun a h => (by cases h; rfl)⟩, fun s kV doc pm an cd ct cc a b => .of_eq rfl, iniB_ok (by decide +kernel), fun L cd cc => ⟨_, _, _, _, _, _, _, _, _, _, _, _, _, rfl, rfl, rfl, rfl, rfl, rfl⟩, es5, z_super, etp, eop, eb5, em5, ea5, en5, ek5, ey5, ⟨xga5, xgg5, xex5, xhd5⟩⟩
    xf_5 := rfl
    ge_5 := PySem.W.mg_of X G aE5
    er_6 := ⟨_, eq6, eo6, ei6, et6, ⟨_, _, _, _, _, _, _, _, _, _, el6, ec6, ⟨_, _, _, _, _, _, ed6, ev6, ew6⟩, _, _, _, ex6⟩, ⟨fun h => (by cases h), fun a h => (by cases h; rfl)⟩, fun s kV doc pm an cd ct cc a b => .of_eq rfl, iniB_ok (by decide +kernel), fun L cd cc => ⟨_, _, _, _, _, _, _, _, _, _, _, _, _, rfl, rfl, rfl, rfl, rfl, rfl⟩, es6, z_super, etp, eop, eb6, em6, ea6, en6, ek6, ey6, ⟨xga6, xgg6, xex6, xhd6⟩⟩
    xf_6 := rfl
    ge_6 := PySem.W.mg_of X G aE6
    cl_0 := ⟨pg0, ic0, po0, sa0⟩
    cl_1 := ⟨pg1, ic1, po1, sa1⟩
    g_MOST_DATA := gl_int (PySem.W.mg_of X G g_MOST_DATA)
    g_PRIMES := gl_ints (PySem.W.mg_of X G g_PRIMES) gl_PRIMES gz_PRIMES gv_PRIMES
    g_Space := PySem.W.mg_of X G aC1
    g_Sum := PySem.W.mg_of X G aC0
    i1_1_BitAnd := ⟨_, i1_1_BitAnd⟩
    i1_1_BitOr := ⟨_, i1_1_BitOr⟩
    i2_1_BitAnd := ⟨_, i2_1_BitAnd⟩
    i2_1_BitOr := ⟨_, i2_1_BitOr⟩
    i3_1 := i3_1
    is_0 := ⟨ca0, cn0, cT0, cM0⟩
    is_1 := ⟨ca1, cn1, cT1, cM1⟩
    kas_0 := kit_no2 kas_0l kas_0t
    kas_1 := kit_no2 kas_1l kas_1t
    kb_0 := kd_all (p := fun kd => PySem.W.kitOne K (.type (nmK kd)) (.ref C0) = some (isK (.cls 0) kd)) (kit_to kb_0_NoneType kb_0c kb_0y) (kit_to kb_0_bool kb_0c kb_0y) (kit_to kb_0_int kb_0c kb_0y) (kit_to kb_0_str kb_0c kb_0y) (kit_to kb_0_list kb_0c kb_0y) (kit_to kb_0_tuple kb_0c kb_0y) (kit_to kb_0_dict kb_0c kb_0y)
    kb_1 := kd_all (p := fun kd => PySem.W.kitOne K (.type (nmK kd)) (.ref C1) = some (isK (.cls 1) kd)) (kit_to kb_1_NoneType kb_1c kb_1y) (kit_to kb_1_bool kb_1c kb_1y) (kit_to kb_1_int kb_1c kb_1y) (kit_to kb_1_str kb_1c kb_1y) (kit_to kb_1_list kb_1c kb_1y) (kit_to kb_1_tuple kb_1c kb_1y) (kit_to kb_1_dict kb_1c kb_1y)
    ki_0_0 := kit_same
    ki_0_1 := ki_0_1
    ki_0_bool := kit_rt ki_0_bool (by decide +kernel)
    ki_0_int := kit_rt ki_0_int (by decide +kernel)
    ki_1_0 := ki_1_0
    ki_1_1 := kit_same
    ki_1_bool := kit_rt ki_1_bool (by decide +kernel)
    ki_1_int := kit_rt ki_1_int (by decide +kernel)
    me_0_eq := ⟨a27, i27, k27⟩
    me_1_and := ⟨a40, i40, k40⟩
    me_1_contains := ⟨a36, i36, k36⟩
    me_1_eq := ⟨a37, i37, k37⟩
    me_1_len := ⟨a34, i34, k34⟩
    me_1_or := ⟨a39, i39, k39⟩
    me_1_require := ⟨a38, i38, k38⟩
    me_1_within := ⟨a41, i41, k41⟩
    mk_0 := ⟨mk0, a15, i15, kc0⟩
    mk_1 := ⟨mk1, a29, i29, kc1⟩
    nb_0 := kd_all (p := fun kd => PySem.W.notFirst K C0 (.type (nmK kd)) = true) nb_0_NoneType nb_0_bool nb_0_int nb_0_str nb_0_list nb_0_tuple nb_0_dict
    nb_1 := kd_all (p := fun kd => PySem.W.notFirst K C1 (.type (nmK kd)) = true) nb_1_NoneType nb_1_bool nb_1_int nb_1_str nb_1_list nb_1_tuple nb_1_dict
    ne_0 := ne_0
    ne_1 := ne_1
    nf_0_0 := nf_0_0
    nf_0_1 := nf_0_1
    nf_1_0 := nf_1_0
    nf_1_1 := nf_1_1
    pr_0_factors := ⟨_, _, a18, x18, t18, q18⟩
    pr_0_prime := ⟨_, _, a17, x17, t17, q17⟩
    pr_0_size := ⟨_, _, a19, x19, t19, q19⟩
    pr_1_prime := ⟨_, _, a30, x30, t30, q30⟩
    pr_1_size := ⟨_, _, a31, x31, t31, q31⟩
    rc_1_BitAnd := rc_1_BitAnd
    rc_1_BitOr := rc_1_BitOr
    sf_1 := sf_1
    sl_0_own_prime := ⟨_, sa_sp0_own_prime, sg_sp0_own_prime, st_sp0_own_prime, sy_sp0_own_prime, sx_sp0_own_prime, by decide⟩
    sl_0_row := ⟨_, sa_sp0_row, sg_sp0_row, st_sp0_row, sy_sp0_row, sx_sp0_row, by decide⟩
    sl_1_listed := ⟨_, sa_sp1_listed, sg_sp1_listed, st_sp1_listed, sy_sp1_listed, sx_sp1_listed, by decide⟩
    sl_1_own_prime := ⟨_, sa_sp1_own_prime, sg_sp1_own_prime, st_sp1_own_prime, sy_sp1_own_prime, sx_sp1_own_prime, by decide⟩
    sl_1_own_size := ⟨_, sa_sp1_own_size, sg_sp1_own_size, st_sp1_own_size, sy_sp1_own_size, sx_sp1_own_size, by decide⟩
    sl_1_rows := ⟨_, sa_sp1_rows, sg_sp1_rows, st_sp1_rows, sy_sp1_rows, sx_sp1_rows, by decide⟩
    z_all := PySem.W.mg_none_of X G z_all
    z_any := PySem.W.mg_none_of X G z_any
    z_bool := PySem.W.mg_none_of X G z_bool
    z_int := PySem.W.mg_none_of X G z_int
    z_isinstance := PySem.W.mg_none_of X G z_isinstance
    z_len := PySem.W.mg_none_of X G z_len
    z_list := PySem.W.mg_none_of X G z_list
    z_max := PySem.W.mg_none_of X G z_max
    z_min := PySem.W.mg_none_of X G z_min
    z_range := PySem.W.mg_none_of X G z_range
    z_set := PySem.W.mg_none_of X G z_set
    z_sorted := PySem.W.mg_none_of X G z_sorted
    z_tuple := PySem.W.mg_none_of X G z_tuple
    z_zip := PySem.W.mg_none_of X G z_zip }
    refine ⟨[], fun p hp => ?_, fun base _ _ sy tbs => FnG.imp (ok_law T ⟨sy, fun i hi => ?_⟩) (law_imp (k := kOf [C0, C1, 0, C3, 0, C5, C6] []) law_true)⟩
    · exact nomatch hp
    · exact nomatch hi
end LW
namespace LW
open PySem L2 DL PyProof.Rows
abbrev hdR : PySem.W.OpenRow := PySem.W.OpenLaw.row PySem.Challenge.rw_leastreads_k05_whole_spaces_joined_and_m
abbrev hdQ : Program := PySem.W.view hdR.prog [40]
def hdN0 : List PySem.Str := [PySem.Str.ofString "_wall", PySem.Str.ofString "__name__", PySem.Str.ofString "LeastError", PySem.Str.ofString "InvalidSum", PySem.Str.ofString "InvalidData", PySem.Str.ofString "InvalidNumber", PySem.Str.ofString "InvalidOperand", PySem.Str.ofString "inverse", PySem.Str.ofString "scaled", PySem.Str.ofString "added", PySem.Str.ofString "lead", PySem.Str.ofString "rest_of", PySem.Str.ofString "reduced", PySem.Str.ofString "has_row", PySem.Str.ofString "value_of", PySem.Str.ofString "power", PySem.Str.ofString "PRIMES", PySem.Str.ofString "MOST_DATA", PySem.Str.ofString "is_between", PySem.Str.ofString "is_integer"]
def hdN1 : List PySem.Str := [PySem.Str.ofString "is_prime", PySem.Str.ofString "is_size", PySem.Str.ofString "is_data", PySem.Str.ofString "Sum", PySem.Str.ofString "is_sum", PySem.Str.ofString "Space", PySem.Str.ofString "_law_source", PySem.Str.ofString "_law_draw", PySem.Str.ofString "_law_pick", PySem.Str.ofString "_law_all_data", PySem.Str.ofString "_law_value", PySem.Str.ofString "_law_factors", PySem.Str.ofString "_law_form", PySem.Str.ofString "_law_sums", PySem.Str.ofString "_law_span", PySem.Str.ofString "_law_made"]
def hdN : List PySem.Str := hdN0 ++ hdN1
def hdA0 : List Addr := [2, 3, 15, 17, 18, 20, 21, 22, 29, 30, 31, 32, 35, 38, 43, 44, 46, 47, 49, 50, 51, 52, 53, 56, 59, 64, 65, 67, 68, 70]
def hdA1 : List Addr := [71, 72, 73, 74, 77, 80, 85, 86, 88, 89, 91, 92, 93, 94, 95, 98, 101, 106, 107, 109, 110, 112, 113, 114, 115, 116, 119, 121, 122, 124]
def hdA2 : List Addr := [125, 126, 129, 130, 131, 134, 135, 136, 138, 139, 141, 142, 143, 145, 146, 148, 149, 150, 153, 154, 155, 157, 158, 160, 161, 162, 165, 166, 167, 169]
def hdA3 : List Addr := [170, 172, 173, 174, 175, 177, 178, 180, 181, 182, 184, 185, 187, 188, 189, 191, 192, 194, 195, 196, 198, 199, 201, 202, 203, 206, 207, 215, 216, 218]
def hdA4 : List Addr := [219, 221, 222, 223, 225, 226, 228, 229, 230, 231, 232, 233, 235, 236, 238, 239, 240, 241, 243, 244, 246, 247, 248, 249, 251, 252, 254, 255, 256, 257]
def hdA5 : List Addr := [259, 260, 262, 263, 264, 265, 267, 268, 270, 271, 272, 274, 275, 277, 278, 279, 281, 282, 284, 285, 286, 288, 289, 291, 292, 293, 295, 296, 298, 299]
def hdA6 : List Addr := [300, 302, 303, 305, 306, 307, 309, 310, 312, 313, 314, 316, 317, 318, 319, 322, 324, 325, 327, 328, 336, 337, 338, 339, 342, 343, 344, 346, 347, 349]
def hdA7 : List Addr := [350, 351, 352, 354, 355, 357, 358, 359, 360, 362, 363, 365, 366, 367, 368, 370, 371, 373, 374, 375, 376, 378, 379, 381, 382, 383, 385, 386, 388, 389]
def hdA8 : List Addr := [390, 392, 393, 395, 396, 397, 399, 400, 402, 403, 404, 406, 407, 409, 410, 411, 413, 414, 416, 417, 418, 421, 422, 423, 426, 427, 428, 430, 431, 433]
def hdA9 : List Addr := [434, 435, 437, 438, 440, 441, 442, 444, 445, 446, 447, 448, 449, 452, 454, 455, 457, 458, 459, 461, 462, 464, 465, 466, 468, 469, 471, 472, 473, 476]
def hdA10 : List Addr := [477, 483, 486, 487, 488, 490, 491, 493, 494, 495, 498, 499, 500, 503, 504, 505, 508, 509, 510, 513, 514]
def hdA : List Addr := hdA0 ++ hdA1 ++ hdA2 ++ hdA3 ++ hdA4 ++ hdA5 ++ hdA6 ++ hdA7 ++ hdA8 ++ hdA9 ++ hdA10
def hdF0 (K : PySem.W.Frag) : Bool := decide (PySem.W.nsIn K mainGlobals "Sum" = some (some (.ref 317))) && (decide (PySem.W.nsIn K mainGlobals "Space" = some (some (.ref 445))) && (decide (PySem.W.findIn K (.ref 445) "__len__" = some (some (.ref 382))) && (decide (PySem.W.isFn K (.ref 382) = true) && (decide (PySem.W.codeIn K (PySem.Value.ref 381) "Space.__len__" = true) && (decide (PySem.W.keepIn K (.ref 382) = true) && (decide (PySem.W.nsIn K mainGlobals "_law_source" = some (some (.ref 458))) && (decide (PySem.W.codeIn K (PySem.Value.ref 457) "_law_source" = true) && (decide (PySem.W.keepIn K (.ref 458) = true) && (decide (PySem.W.nsIn K mainGlobals "_law_draw" = some (some (.ref 465))) && (decide (PySem.W.codeIn K (PySem.Value.ref 464) "_law_draw" = true) && (decide (PySem.W.keepIn K (.ref 465) = true) && (decide (PySem.W.nsIn K mainGlobals "_law_pick" = some (some (.ref 472))) && (decide (PySem.W.codeIn K (PySem.Value.ref 471) "_law_pick" = true) && (decide (PySem.W.keepIn K (.ref 472) = true) && (decide (PySem.W.nsIn K mainGlobals "_law_form" = some (some (.ref 494))) && (decide (PySem.W.codeIn K (PySem.Value.ref 493) "_law_form" = true) && (decide (PySem.W.keepIn K (.ref 494) = true) && (decide (PySem.W.nsIn K mainGlobals "_law_factors" = some (some (.ref 487))) && (decide (PySem.W.codeIn K (PySem.Value.ref 486) "_law_factors" = true) && (decide (PySem.W.keepIn K (.ref 487) = true) && (decide (PySem.W.nsIn K mainGlobals "_law_sums" = some (some (.ref 499))) && (decide (PySem.W.codeIn K (PySem.Value.ref 498) "_law_sums" = true) && (decide (PySem.W.keepIn K (.ref 499) = true) && (decide (PySem.W.findIn K (.ref 445) "__eq__" = some (some (.ref 403)))))))))))))))))))))))))))
theorem hdF0_ok {K : PySem.W.Frag} (h : hdF0 K = true) : (PySem.W.nsIn K mainGlobals "Sum" = some (some (.ref 317))) ∧ (PySem.W.nsIn K mainGlobals "Space" = some (some (.ref 445))) ∧ (PySem.W.findIn K (.ref 445) "__len__" = some (some (.ref 382))) ∧ (PySem.W.isFn K (.ref 382) = true) ∧ (PySem.W.codeIn K (PySem.Value.ref 381) "Space.__len__" = true) ∧ (PySem.W.keepIn K (.ref 382) = true) ∧ (PySem.W.nsIn K mainGlobals "_law_source" = some (some (.ref 458))) ∧ (PySem.W.codeIn K (PySem.Value.ref 457) "_law_source" = true) ∧ (PySem.W.keepIn K (.ref 458) = true) ∧ (PySem.W.nsIn K mainGlobals "_law_draw" = some (some (.ref 465))) ∧ (PySem.W.codeIn K (PySem.Value.ref 464) "_law_draw" = true) ∧ (PySem.W.keepIn K (.ref 465) = true) ∧ (PySem.W.nsIn K mainGlobals "_law_pick" = some (some (.ref 472))) ∧ (PySem.W.codeIn K (PySem.Value.ref 471) "_law_pick" = true) ∧ (PySem.W.keepIn K (.ref 472) = true) ∧ (PySem.W.nsIn K mainGlobals "_law_form" = some (some (.ref 494))) ∧ (PySem.W.codeIn K (PySem.Value.ref 493) "_law_form" = true) ∧ (PySem.W.keepIn K (.ref 494) = true) ∧ (PySem.W.nsIn K mainGlobals "_law_factors" = some (some (.ref 487))) ∧ (PySem.W.codeIn K (PySem.Value.ref 486) "_law_factors" = true) ∧ (PySem.W.keepIn K (.ref 487) = true) ∧ (PySem.W.nsIn K mainGlobals "_law_sums" = some (some (.ref 499))) ∧ (PySem.W.codeIn K (PySem.Value.ref 498) "_law_sums" = true) ∧ (PySem.W.keepIn K (.ref 499) = true) ∧ (PySem.W.findIn K (.ref 445) "__eq__" = some (some (.ref 403))) := by
  simpa only [hdF0, Bool.and_eq_true, decide_eq_true_eq] using h
def hdF1 (K : PySem.W.Frag) : Bool := decide (PySem.W.isFn K (.ref 403) = true) && (decide (PySem.W.codeIn K (PySem.Value.ref 402) "Space.__eq__" = true) && (decide (PySem.W.keepIn K (.ref 403) = true) && (decide (PySem.W.findIn K (.ref 317) "__eq__" = some (some (.ref 313))) && (decide (PySem.W.isFn K (.ref 313) = true) && (decide (PySem.W.codeIn K (PySem.Value.ref 312) "Sum.__eq__" = true) && (decide (PySem.W.keepIn K (.ref 313) = true) && (decide (PySem.W.nsIn K mainGlobals "is_integer" = some (some (.ref 188))) && (decide (PySem.W.codeIn K (PySem.Value.ref 187) "is_integer" = true) && (decide (PySem.W.keepIn K (.ref 188) = true) && (decide (PySem.W.nsIn K mainGlobals "is_prime" = some (some (.ref 195))) && (decide (PySem.W.codeIn K (PySem.Value.ref 194) "is_prime" = true) && (decide (PySem.W.keepIn K (.ref 195) = true) && (decide (PySem.W.nsIn K mainGlobals "is_between" = some (some (.ref 181))) && (decide (PySem.W.codeIn K (PySem.Value.ref 180) "is_between" = true) && (decide (PySem.W.keepIn K (.ref 181) = true) && (decide (PySem.W.nsIn K mainGlobals "power" = some (some (.ref 173))) && (decide (PySem.W.codeIn K (PySem.Value.ref 172) "power" = true) && (decide (PySem.W.keepIn K (.ref 173) = true) && (decide (PySem.W.nsIn K mainGlobals "is_size" = some (some (.ref 202))) && (decide (PySem.W.codeIn K (PySem.Value.ref 201) "is_size" = true) && (decide (PySem.W.keepIn K (.ref 202) = true) && (decide (PySem.W.nsIn K mainGlobals "is_data" = some (some (.ref 207))) && (decide (PySem.W.codeIn K (PySem.Value.ref 206) "is_data" = true) && (decide (PySem.W.keepIn K (.ref 207) = true)))))))))))))))))))))))))
theorem hdF1_ok {K : PySem.W.Frag} (h : hdF1 K = true) : (PySem.W.isFn K (.ref 403) = true) ∧ (PySem.W.codeIn K (PySem.Value.ref 402) "Space.__eq__" = true) ∧ (PySem.W.keepIn K (.ref 403) = true) ∧ (PySem.W.findIn K (.ref 317) "__eq__" = some (some (.ref 313))) ∧ (PySem.W.isFn K (.ref 313) = true) ∧ (PySem.W.codeIn K (PySem.Value.ref 312) "Sum.__eq__" = true) ∧ (PySem.W.keepIn K (.ref 313) = true) ∧ (PySem.W.nsIn K mainGlobals "is_integer" = some (some (.ref 188))) ∧ (PySem.W.codeIn K (PySem.Value.ref 187) "is_integer" = true) ∧ (PySem.W.keepIn K (.ref 188) = true) ∧ (PySem.W.nsIn K mainGlobals "is_prime" = some (some (.ref 195))) ∧ (PySem.W.codeIn K (PySem.Value.ref 194) "is_prime" = true) ∧ (PySem.W.keepIn K (.ref 195) = true) ∧ (PySem.W.nsIn K mainGlobals "is_between" = some (some (.ref 181))) ∧ (PySem.W.codeIn K (PySem.Value.ref 180) "is_between" = true) ∧ (PySem.W.keepIn K (.ref 181) = true) ∧ (PySem.W.nsIn K mainGlobals "power" = some (some (.ref 173))) ∧ (PySem.W.codeIn K (PySem.Value.ref 172) "power" = true) ∧ (PySem.W.keepIn K (.ref 173) = true) ∧ (PySem.W.nsIn K mainGlobals "is_size" = some (some (.ref 202))) ∧ (PySem.W.codeIn K (PySem.Value.ref 201) "is_size" = true) ∧ (PySem.W.keepIn K (.ref 202) = true) ∧ (PySem.W.nsIn K mainGlobals "is_data" = some (some (.ref 207))) ∧ (PySem.W.codeIn K (PySem.Value.ref 206) "is_data" = true) ∧ (PySem.W.keepIn K (.ref 207) = true) := by
  simpa only [hdF1, Bool.and_eq_true, decide_eq_true_eq] using h
def hdF2 (K : PySem.W.Frag) : Bool := decide (PySem.W.findIn K (.ref 317) "__init__" = some (some (.ref 222))) && (decide (PySem.W.isFn K (.ref 222) = true) && (decide (PySem.W.codeIn K (PySem.Value.ref 221) "Sum.__init__" = true) && (decide (PySem.W.keepIn K (.ref 222) = true) && (decide (PySem.W.findIn K (.ref 445) "prime" = some (some (.ref 351))) && (decide (PySem.W.specialIn K (.ref 351) "__get__" = some (some (.builtin "property.__get__"))) && (decide (PySem.W.takesIn K (.ref 351) = some true) && (decide (PySem.W.recIn K 351 "property" = some (.ref 350 :: ([PySem.Value.none, PySem.Value.none, PySem.Value.none, PySem.Value.str (PySem.Str.ofString "prime") 627, PySem.Value.bool Bool.false]))) && (decide (PySem.W.codeIn K (PySem.Value.ref 349) "Space.prime" = true) && (decide (PySem.W.keepIn K (.ref 350) = true) && (decide (PySem.W.findIn K (.ref 317) "prime" = some (some (.ref 240))) && (decide (PySem.W.specialIn K (.ref 240) "__get__" = some (some (.builtin "property.__get__"))) && (decide (PySem.W.takesIn K (.ref 240) = some true) && (decide (PySem.W.recIn K 240 "property" = some (.ref 239 :: ([PySem.Value.none, PySem.Value.none, PySem.Value.none, PySem.Value.str (PySem.Str.ofString "prime") 495, PySem.Value.bool Bool.false]))) && (decide (PySem.W.codeIn K (PySem.Value.ref 238) "Sum.prime" = true) && (decide (PySem.W.keepIn K (.ref 239) = true) && (decide (PySem.W.findIn K (.ref 445) "size" = some (some (.ref 359))) && (decide (PySem.W.specialIn K (.ref 359) "__get__" = some (some (.builtin "property.__get__"))) && (decide (PySem.W.takesIn K (.ref 359) = some true) && (decide (PySem.W.recIn K 359 "property" = some (.ref 358 :: ([PySem.Value.none, PySem.Value.none, PySem.Value.none, PySem.Value.str (PySem.Str.ofString "size") 635, PySem.Value.bool Bool.false]))) && (decide (PySem.W.codeIn K (PySem.Value.ref 357) "Space.size" = true) && (decide (PySem.W.keepIn K (.ref 358) = true) && (decide (PySem.W.findIn K (.ref 317) "size" = some (some (.ref 256))) && (decide (PySem.W.specialIn K (.ref 256) "__get__" = some (some (.builtin "property.__get__"))) && (decide (PySem.W.takesIn K (.ref 256) = some true)))))))))))))))))))))))))
theorem hdF2_ok {K : PySem.W.Frag} (h : hdF2 K = true) : (PySem.W.findIn K (.ref 317) "__init__" = some (some (.ref 222))) ∧ (PySem.W.isFn K (.ref 222) = true) ∧ (PySem.W.codeIn K (PySem.Value.ref 221) "Sum.__init__" = true) ∧ (PySem.W.keepIn K (.ref 222) = true) ∧ (PySem.W.findIn K (.ref 445) "prime" = some (some (.ref 351))) ∧ (PySem.W.specialIn K (.ref 351) "__get__" = some (some (.builtin "property.__get__"))) ∧ (PySem.W.takesIn K (.ref 351) = some true) ∧ (PySem.W.recIn K 351 "property" = some (.ref 350 :: ([PySem.Value.none, PySem.Value.none, PySem.Value.none, PySem.Value.str (PySem.Str.ofString "prime") 627, PySem.Value.bool Bool.false]))) ∧ (PySem.W.codeIn K (PySem.Value.ref 349) "Space.prime" = true) ∧ (PySem.W.keepIn K (.ref 350) = true) ∧ (PySem.W.findIn K (.ref 317) "prime" = some (some (.ref 240))) ∧ (PySem.W.specialIn K (.ref 240) "__get__" = some (some (.builtin "property.__get__"))) ∧ (PySem.W.takesIn K (.ref 240) = some true) ∧ (PySem.W.recIn K 240 "property" = some (.ref 239 :: ([PySem.Value.none, PySem.Value.none, PySem.Value.none, PySem.Value.str (PySem.Str.ofString "prime") 495, PySem.Value.bool Bool.false]))) ∧ (PySem.W.codeIn K (PySem.Value.ref 238) "Sum.prime" = true) ∧ (PySem.W.keepIn K (.ref 239) = true) ∧ (PySem.W.findIn K (.ref 445) "size" = some (some (.ref 359))) ∧ (PySem.W.specialIn K (.ref 359) "__get__" = some (some (.builtin "property.__get__"))) ∧ (PySem.W.takesIn K (.ref 359) = some true) ∧ (PySem.W.recIn K 359 "property" = some (.ref 358 :: ([PySem.Value.none, PySem.Value.none, PySem.Value.none, PySem.Value.str (PySem.Str.ofString "size") 635, PySem.Value.bool Bool.false]))) ∧ (PySem.W.codeIn K (PySem.Value.ref 357) "Space.size" = true) ∧ (PySem.W.keepIn K (.ref 358) = true) ∧ (PySem.W.findIn K (.ref 317) "size" = some (some (.ref 256))) ∧ (PySem.W.specialIn K (.ref 256) "__get__" = some (some (.builtin "property.__get__"))) ∧ (PySem.W.takesIn K (.ref 256) = some true) := by
  simpa only [hdF2, Bool.and_eq_true, decide_eq_true_eq] using h
def hdF3 (K : PySem.W.Frag) : Bool := decide (PySem.W.recIn K 256 "property" = some (.ref 255 :: ([PySem.Value.none, PySem.Value.none, PySem.Value.none, PySem.Value.str (PySem.Str.ofString "size") 511, PySem.Value.bool Bool.false]))) && (decide (PySem.W.codeIn K (PySem.Value.ref 254) "Sum.size" = true) && (decide (PySem.W.keepIn K (.ref 255) = true) && (decide (PySem.W.nsIn K mainGlobals "is_sum" = some (some (.ref 328))) && (decide (PySem.W.codeIn K (PySem.Value.ref 327) "is_sum" = true) && (decide (PySem.W.keepIn K (.ref 328) = true) && (decide (PySem.W.findIn K (.ref 317) "factors" = some (some (.ref 248))) && (decide (PySem.W.specialIn K (.ref 248) "__get__" = some (some (.builtin "property.__get__"))) && (decide (PySem.W.takesIn K (.ref 248) = some true) && (decide (PySem.W.recIn K 248 "property" = some (.ref 247 :: ([PySem.Value.none, PySem.Value.none, PySem.Value.none, PySem.Value.str (PySem.Str.ofString "factors") 503, PySem.Value.bool Bool.false]))) && (decide (PySem.W.codeIn K (PySem.Value.ref 246) "Sum.factors" = true) && (decide (PySem.W.keepIn K (.ref 247) = true) && (decide (PySem.W.nsIn K mainGlobals "lead" = some (some (.ref 142))) && (decide (PySem.W.codeIn K (PySem.Value.ref 141) "lead" = true) && (decide (PySem.W.keepIn K (.ref 142) = true) && (decide (PySem.W.nsIn K mainGlobals "added" = some (some (.ref 135))) && (decide (PySem.W.codeIn K (PySem.Value.ref 134) "added" = true) && (decide (PySem.W.keepIn K (.ref 135) = true) && (decide (PySem.W.nsIn K mainGlobals "rest_of" = some (some (.ref 149))) && (decide (PySem.W.codeIn K (PySem.Value.ref 148) "rest_of" = true) && (decide (PySem.W.keepIn K (.ref 149) = true) && (decide (PySem.W.nsIn K mainGlobals "inverse" = some (some (.ref 125))) && (decide (PySem.W.codeIn K (PySem.Value.ref 124) "inverse" = true) && (decide (PySem.W.keepIn K (.ref 125) = true) && (decide (PySem.W.nsIn K mainGlobals "scaled" = some (some (.ref 130)))))))))))))))))))))))))))
theorem hdF3_ok {K : PySem.W.Frag} (h : hdF3 K = true) : (PySem.W.recIn K 256 "property" = some (.ref 255 :: ([PySem.Value.none, PySem.Value.none, PySem.Value.none, PySem.Value.str (PySem.Str.ofString "size") 511, PySem.Value.bool Bool.false]))) ∧ (PySem.W.codeIn K (PySem.Value.ref 254) "Sum.size" = true) ∧ (PySem.W.keepIn K (.ref 255) = true) ∧ (PySem.W.nsIn K mainGlobals "is_sum" = some (some (.ref 328))) ∧ (PySem.W.codeIn K (PySem.Value.ref 327) "is_sum" = true) ∧ (PySem.W.keepIn K (.ref 328) = true) ∧ (PySem.W.findIn K (.ref 317) "factors" = some (some (.ref 248))) ∧ (PySem.W.specialIn K (.ref 248) "__get__" = some (some (.builtin "property.__get__"))) ∧ (PySem.W.takesIn K (.ref 248) = some true) ∧ (PySem.W.recIn K 248 "property" = some (.ref 247 :: ([PySem.Value.none, PySem.Value.none, PySem.Value.none, PySem.Value.str (PySem.Str.ofString "factors") 503, PySem.Value.bool Bool.false]))) ∧ (PySem.W.codeIn K (PySem.Value.ref 246) "Sum.factors" = true) ∧ (PySem.W.keepIn K (.ref 247) = true) ∧ (PySem.W.nsIn K mainGlobals "lead" = some (some (.ref 142))) ∧ (PySem.W.codeIn K (PySem.Value.ref 141) "lead" = true) ∧ (PySem.W.keepIn K (.ref 142) = true) ∧ (PySem.W.nsIn K mainGlobals "added" = some (some (.ref 135))) ∧ (PySem.W.codeIn K (PySem.Value.ref 134) "added" = true) ∧ (PySem.W.keepIn K (.ref 135) = true) ∧ (PySem.W.nsIn K mainGlobals "rest_of" = some (some (.ref 149))) ∧ (PySem.W.codeIn K (PySem.Value.ref 148) "rest_of" = true) ∧ (PySem.W.keepIn K (.ref 149) = true) ∧ (PySem.W.nsIn K mainGlobals "inverse" = some (some (.ref 125))) ∧ (PySem.W.codeIn K (PySem.Value.ref 124) "inverse" = true) ∧ (PySem.W.keepIn K (.ref 125) = true) ∧ (PySem.W.nsIn K mainGlobals "scaled" = some (some (.ref 130))) := by
  simpa only [hdF3, Bool.and_eq_true, decide_eq_true_eq] using h
def hdF4 (K : PySem.W.Frag) : Bool := decide (PySem.W.codeIn K (PySem.Value.ref 129) "scaled" = true) && (decide (PySem.W.keepIn K (.ref 130) = true) && (decide (PySem.W.nsIn K mainGlobals "reduced" = some (some (.ref 154))) && (decide (PySem.W.codeIn K (PySem.Value.ref 153) "reduced" = true) && (decide (PySem.W.keepIn K (.ref 154) = true) && (decide (PySem.W.findIn K (.ref 445) "__init__" = some (some (.ref 343))) && (decide (PySem.W.isFn K (.ref 343) = true) && (decide (PySem.W.codeIn K (PySem.Value.ref 342) "Space.__init__" = true) && (decide (PySem.W.keepIn K (.ref 343) = true) && (decide (PySem.W.nsIn K mainGlobals "_law_made" = some (some (.ref 509))) && (decide (PySem.W.codeIn K (PySem.Value.ref 508) "_law_made" = true) && (decide (PySem.W.keepIn K (.ref 509) = true) && (decide (PySem.W.nsIn K mainGlobals "_law_span" = some (some (.ref 504))) && (decide (PySem.W.codeIn K (PySem.Value.ref 503) "_law_span" = true) && (decide (PySem.W.keepIn K (.ref 504) = true) && (decide (PySem.W.findIn K (.ref 445) "require" = some (some (.ref 410))) && (decide (PySem.W.isFn K (.ref 410) = true) && (decide (PySem.W.codeIn K (PySem.Value.ref 409) "Space.require" = true) && (decide (PySem.W.keepIn K (.ref 410) = true) && (decide (PySem.W.findIn K (.ref 445) "__or__" = some (some (.ref 417))) && (decide (PySem.W.isFn K (.ref 417) = true) && (decide (PySem.W.codeIn K (PySem.Value.ref 416) "Space.__or__" = true) && (decide (PySem.W.keepIn K (.ref 417) = true) && (decide (PySem.W.findIn K (.ref 445) "__and__" = some (some (.ref 422))) && (decide (PySem.W.isFn K (.ref 422) = true)))))))))))))))))))))))))
theorem hdF4_ok {K : PySem.W.Frag} (h : hdF4 K = true) : (PySem.W.codeIn K (PySem.Value.ref 129) "scaled" = true) ∧ (PySem.W.keepIn K (.ref 130) = true) ∧ (PySem.W.nsIn K mainGlobals "reduced" = some (some (.ref 154))) ∧ (PySem.W.codeIn K (PySem.Value.ref 153) "reduced" = true) ∧ (PySem.W.keepIn K (.ref 154) = true) ∧ (PySem.W.findIn K (.ref 445) "__init__" = some (some (.ref 343))) ∧ (PySem.W.isFn K (.ref 343) = true) ∧ (PySem.W.codeIn K (PySem.Value.ref 342) "Space.__init__" = true) ∧ (PySem.W.keepIn K (.ref 343) = true) ∧ (PySem.W.nsIn K mainGlobals "_law_made" = some (some (.ref 509))) ∧ (PySem.W.codeIn K (PySem.Value.ref 508) "_law_made" = true) ∧ (PySem.W.keepIn K (.ref 509) = true) ∧ (PySem.W.nsIn K mainGlobals "_law_span" = some (some (.ref 504))) ∧ (PySem.W.codeIn K (PySem.Value.ref 503) "_law_span" = true) ∧ (PySem.W.keepIn K (.ref 504) = true) ∧ (PySem.W.findIn K (.ref 445) "require" = some (some (.ref 410))) ∧ (PySem.W.isFn K (.ref 410) = true) ∧ (PySem.W.codeIn K (PySem.Value.ref 409) "Space.require" = true) ∧ (PySem.W.keepIn K (.ref 410) = true) ∧ (PySem.W.findIn K (.ref 445) "__or__" = some (some (.ref 417))) ∧ (PySem.W.isFn K (.ref 417) = true) ∧ (PySem.W.codeIn K (PySem.Value.ref 416) "Space.__or__" = true) ∧ (PySem.W.keepIn K (.ref 417) = true) ∧ (PySem.W.findIn K (.ref 445) "__and__" = some (some (.ref 422))) ∧ (PySem.W.isFn K (.ref 422) = true) := by
  simpa only [hdF4, Bool.and_eq_true, decide_eq_true_eq] using h
def hdF5 (K : PySem.W.Frag) : Bool := decide (PySem.W.codeIn K (PySem.Value.ref 421) "Space.__and__" = true) && (decide (PySem.W.keepIn K (.ref 422) = true) && (decide (PySem.W.nsIn K mainGlobals "_law_all_data" = some (some (.ref 477))) && (decide (PySem.W.codeIn K (PySem.Value.ref 476) "_law_all_data" = true) && (decide (PySem.W.keepIn K (.ref 477) = true) && (decide (PySem.W.nsIn K mainGlobals "has_row" = some (some (.ref 161))) && (decide (PySem.W.codeIn K (PySem.Value.ref 160) "has_row" = true) && (decide (PySem.W.keepIn K (.ref 161) = true) && (decide (PySem.W.findIn K (.ref 445) "__contains__" = some (some (.ref 396))) && (decide (PySem.W.isFn K (.ref 396) = true) && (decide (PySem.W.codeIn K (PySem.Value.ref 395) "Space.__contains__" = true) && (decide (PySem.W.keepIn K (.ref 396) = true) && (decide (PySem.W.findIn K (.ref 445) "within" = some (some (.ref 427))) && (decide (PySem.W.isFn K (.ref 427) = true) && (decide (PySem.W.codeIn K (PySem.Value.ref 426) "Space.within" = true) && (decide (PySem.W.keepIn K (.ref 427) = true) && (decide (PySem.W.nsIn K mainGlobals "law" = some (some (.ref 514))) && (decide (PySem.W.codeIn K (PySem.Value.ref 513) "law" = true) && (decide (PySem.W.keepIn K (.ref 514) = true) && (decide (PySem.W.nsIn K mainGlobals "super" = some none) && (decide (PySem.W.nsIn K cStatics "thirdparty.any" = some none) && (decide (PySem.W.nsIn K mainGlobals "InvalidSum" = some (some (.ref 53))) && (decide (PySem.W.excInitIn K 53 ESX.exTail "Exception.__new__" = true) && (decide (PySem.W.excOver K 53 ESX.exTail = true) && (decide (PySem.W.findIn K (.ref 53) "__init__" = some (some (.ref 50)))))))))))))))))))))))))))
theorem hdF5_ok {K : PySem.W.Frag} (h : hdF5 K = true) : (PySem.W.codeIn K (PySem.Value.ref 421) "Space.__and__" = true) ∧ (PySem.W.keepIn K (.ref 422) = true) ∧ (PySem.W.nsIn K mainGlobals "_law_all_data" = some (some (.ref 477))) ∧ (PySem.W.codeIn K (PySem.Value.ref 476) "_law_all_data" = true) ∧ (PySem.W.keepIn K (.ref 477) = true) ∧ (PySem.W.nsIn K mainGlobals "has_row" = some (some (.ref 161))) ∧ (PySem.W.codeIn K (PySem.Value.ref 160) "has_row" = true) ∧ (PySem.W.keepIn K (.ref 161) = true) ∧ (PySem.W.findIn K (.ref 445) "__contains__" = some (some (.ref 396))) ∧ (PySem.W.isFn K (.ref 396) = true) ∧ (PySem.W.codeIn K (PySem.Value.ref 395) "Space.__contains__" = true) ∧ (PySem.W.keepIn K (.ref 396) = true) ∧ (PySem.W.findIn K (.ref 445) "within" = some (some (.ref 427))) ∧ (PySem.W.isFn K (.ref 427) = true) ∧ (PySem.W.codeIn K (PySem.Value.ref 426) "Space.within" = true) ∧ (PySem.W.keepIn K (.ref 427) = true) ∧ (PySem.W.nsIn K mainGlobals "law" = some (some (.ref 514))) ∧ (PySem.W.codeIn K (PySem.Value.ref 513) "law" = true) ∧ (PySem.W.keepIn K (.ref 514) = true) ∧ (PySem.W.nsIn K mainGlobals "super" = some none) ∧ (PySem.W.nsIn K cStatics "thirdparty.any" = some none) ∧ (PySem.W.nsIn K mainGlobals "InvalidSum" = some (some (.ref 53))) ∧ (PySem.W.excInitIn K 53 ESX.exTail "Exception.__new__" = true) ∧ (PySem.W.excOver K 53 ESX.exTail = true) ∧ (PySem.W.findIn K (.ref 53) "__init__" = some (some (.ref 50))) := by
  simpa only [hdF5, Bool.and_eq_true, decide_eq_true_eq] using h
def hdF6 (K : PySem.W.Frag) : Bool := decide (PySem.W.typeIn K (.ref 50) = some (.type "function")) && (decide (PySem.W.codeIn K (.ref 49) "InvalidSum.__init__" = true) && (decide (PySem.W.ks_superIn K 53 53 "__init__" = some (some (.builtin "Exception.__init__"))) && (decide (PySem.W.subIn K (.ref 53) (.type "Exception") = some true) && (decide (PySem.W.mroIn K 53 (.ref 53) = some true) && (decide (PySem.W.findIn K (.ref 53) "__setattr__" = some (some (.builtin "object.__setattr__"))) && (decide (PySem.W.findIn K (.ref 53) "value" = some none) && (decide (PySem.W.keepIn K (.ref 53) = true) && (decide (PySem.W.typeIn K (.ref 53) = some (.type "type")) && (decide (PySem.W.findIn K (.ref 53) "__getattribute__" = some (some (.builtin "BaseException.__getattribute__"))) && (decide (PySem.W.findIn K (.ref 53) "__getattr__" = some none) && (decide (PySem.W.subIn K (.ref 53) (.type "BaseException") = some true) && (decide (PySem.W.hasDictIn K 53 = true) && (decide (PySem.W.nsIn K mainGlobals "InvalidNumber" = some (some (.ref 95))) && (decide (PySem.W.excInitIn K 95 ESX.exTail "Exception.__new__" = true) && (decide (PySem.W.excOver K 95 ESX.exTail = true) && (decide (PySem.W.findIn K (.ref 95) "__init__" = some (some (.ref 92))) && (decide (PySem.W.typeIn K (.ref 92) = some (.type "function")) && (decide (PySem.W.codeIn K (.ref 91) "InvalidNumber.__init__" = true) && (decide (PySem.W.ks_superIn K 95 95 "__init__" = some (some (.builtin "Exception.__init__"))) && (decide (PySem.W.subIn K (.ref 95) (.type "Exception") = some true) && (decide (PySem.W.mroIn K 95 (.ref 95) = some true) && (decide (PySem.W.findIn K (.ref 95) "__setattr__" = some (some (.builtin "object.__setattr__"))) && (decide (PySem.W.findIn K (.ref 95) "value" = some none) && (decide (PySem.W.keepIn K (.ref 95) = true)))))))))))))))))))))))))
theorem hdF6_ok {K : PySem.W.Frag} (h : hdF6 K = true) : (PySem.W.typeIn K (.ref 50) = some (.type "function")) ∧ (PySem.W.codeIn K (.ref 49) "InvalidSum.__init__" = true) ∧ (PySem.W.ks_superIn K 53 53 "__init__" = some (some (.builtin "Exception.__init__"))) ∧ (PySem.W.subIn K (.ref 53) (.type "Exception") = some true) ∧ (PySem.W.mroIn K 53 (.ref 53) = some true) ∧ (PySem.W.findIn K (.ref 53) "__setattr__" = some (some (.builtin "object.__setattr__"))) ∧ (PySem.W.findIn K (.ref 53) "value" = some none) ∧ (PySem.W.keepIn K (.ref 53) = true) ∧ (PySem.W.typeIn K (.ref 53) = some (.type "type")) ∧ (PySem.W.findIn K (.ref 53) "__getattribute__" = some (some (.builtin "BaseException.__getattribute__"))) ∧ (PySem.W.findIn K (.ref 53) "__getattr__" = some none) ∧ (PySem.W.subIn K (.ref 53) (.type "BaseException") = some true) ∧ (PySem.W.hasDictIn K 53 = true) ∧ (PySem.W.nsIn K mainGlobals "InvalidNumber" = some (some (.ref 95))) ∧ (PySem.W.excInitIn K 95 ESX.exTail "Exception.__new__" = true) ∧ (PySem.W.excOver K 95 ESX.exTail = true) ∧ (PySem.W.findIn K (.ref 95) "__init__" = some (some (.ref 92))) ∧ (PySem.W.typeIn K (.ref 92) = some (.type "function")) ∧ (PySem.W.codeIn K (.ref 91) "InvalidNumber.__init__" = true) ∧ (PySem.W.ks_superIn K 95 95 "__init__" = some (some (.builtin "Exception.__init__"))) ∧ (PySem.W.subIn K (.ref 95) (.type "Exception") = some true) ∧ (PySem.W.mroIn K 95 (.ref 95) = some true) ∧ (PySem.W.findIn K (.ref 95) "__setattr__" = some (some (.builtin "object.__setattr__"))) ∧ (PySem.W.findIn K (.ref 95) "value" = some none) ∧ (PySem.W.keepIn K (.ref 95) = true) := by
  simpa only [hdF6, Bool.and_eq_true, decide_eq_true_eq] using h
def hdF7 (K : PySem.W.Frag) : Bool := decide (PySem.W.typeIn K (.ref 95) = some (.type "type")) && (decide (PySem.W.findIn K (.ref 95) "__getattribute__" = some (some (.builtin "BaseException.__getattribute__"))) && (decide (PySem.W.findIn K (.ref 95) "__getattr__" = some none) && (decide (PySem.W.subIn K (.ref 95) (.type "BaseException") = some true) && (decide (PySem.W.hasDictIn K 95 = true) && (decide (PySem.W.nsIn K mainGlobals "InvalidOperand" = some (some (.ref 116))) && (decide (PySem.W.excInitIn K 116 ESX.exTail "Exception.__new__" = true) && (decide (PySem.W.excOver K 116 ESX.exTail = true) && (decide (PySem.W.findIn K (.ref 116) "__init__" = some (some (.ref 113))) && (decide (PySem.W.typeIn K (.ref 113) = some (.type "function")) && (decide (PySem.W.codeIn K (.ref 112) "InvalidOperand.__init__" = true) && (decide (PySem.W.ks_superIn K 116 116 "__init__" = some (some (.builtin "Exception.__init__"))) && (decide (PySem.W.subIn K (.ref 116) (.type "Exception") = some true) && (decide (PySem.W.mroIn K 116 (.ref 116) = some true) && (decide (PySem.W.findIn K (.ref 116) "__setattr__" = some (some (.builtin "object.__setattr__"))) && (decide (PySem.W.findIn K (.ref 116) "other" = some none) && (decide (PySem.W.keepIn K (.ref 116) = true) && (decide (PySem.W.typeIn K (.ref 116) = some (.type "type")) && (decide (PySem.W.findIn K (.ref 116) "__getattribute__" = some (some (.builtin "BaseException.__getattribute__"))) && (decide (PySem.W.findIn K (.ref 116) "__getattr__" = some none) && (decide (PySem.W.subIn K (.ref 116) (.type "BaseException") = some true) && (decide (PySem.W.hasDictIn K 116 = true) && (decide (PySem.W.plainGet K 317 Str.empty = true) && (decide (PySem.W.isClsIn K 317 = true) && (decide (PySem.W.plainOver K 317 = true)))))))))))))))))))))))))
theorem hdF7_ok {K : PySem.W.Frag} (h : hdF7 K = true) : (PySem.W.typeIn K (.ref 95) = some (.type "type")) ∧ (PySem.W.findIn K (.ref 95) "__getattribute__" = some (some (.builtin "BaseException.__getattribute__"))) ∧ (PySem.W.findIn K (.ref 95) "__getattr__" = some none) ∧ (PySem.W.subIn K (.ref 95) (.type "BaseException") = some true) ∧ (PySem.W.hasDictIn K 95 = true) ∧ (PySem.W.nsIn K mainGlobals "InvalidOperand" = some (some (.ref 116))) ∧ (PySem.W.excInitIn K 116 ESX.exTail "Exception.__new__" = true) ∧ (PySem.W.excOver K 116 ESX.exTail = true) ∧ (PySem.W.findIn K (.ref 116) "__init__" = some (some (.ref 113))) ∧ (PySem.W.typeIn K (.ref 113) = some (.type "function")) ∧ (PySem.W.codeIn K (.ref 112) "InvalidOperand.__init__" = true) ∧ (PySem.W.ks_superIn K 116 116 "__init__" = some (some (.builtin "Exception.__init__"))) ∧ (PySem.W.subIn K (.ref 116) (.type "Exception") = some true) ∧ (PySem.W.mroIn K 116 (.ref 116) = some true) ∧ (PySem.W.findIn K (.ref 116) "__setattr__" = some (some (.builtin "object.__setattr__"))) ∧ (PySem.W.findIn K (.ref 116) "other" = some none) ∧ (PySem.W.keepIn K (.ref 116) = true) ∧ (PySem.W.typeIn K (.ref 116) = some (.type "type")) ∧ (PySem.W.findIn K (.ref 116) "__getattribute__" = some (some (.builtin "BaseException.__getattribute__"))) ∧ (PySem.W.findIn K (.ref 116) "__getattr__" = some none) ∧ (PySem.W.subIn K (.ref 116) (.type "BaseException") = some true) ∧ (PySem.W.hasDictIn K 116 = true) ∧ (PySem.W.plainGet K 317 Str.empty = true) ∧ (PySem.W.isClsIn K 317 = true) ∧ (PySem.W.plainOver K 317 = true) := by
  simpa only [hdF7, Bool.and_eq_true, decide_eq_true_eq] using h
def hdF8 (K : PySem.W.Frag) : Bool := decide (PySem.W.findIn K (.ref 317) "__setattr__" = some (some (.builtin "object.__setattr__"))) && (decide (PySem.W.plainGet K 445 Str.empty = true) && (decide (PySem.W.isClsIn K 445 = true) && (decide (PySem.W.plainOver K 445 = true) && (decide (PySem.W.findIn K (.ref 445) "__setattr__" = some (some (.builtin "object.__setattr__"))) && (decide (PySem.W.nsIn K mainGlobals "MOST_DATA" = some (some (.int 4096 403))) && (decide (PySem.W.nsIn K mainGlobals "PRIMES" = some (some (.ref 174))) && (decide (PySem.W.findIn K (.type "int") (PySem.dunder (Operator.BitAnd).info.2) = some (Option.some (PySem.Value.builtin "int.__and__"))) && (decide (PySem.W.findIn K (.type "int") (PySem.dunder (Operator.BitOr).info.2) = some (Option.some (PySem.Value.builtin "int.__or__"))) && (decide (PySem.W.findIn K (.type "int") (dunderR (Operator.BitAnd).info.2) = some (Option.some (PySem.Value.builtin "int.__rand__"))) && (decide (PySem.W.findIn K (.type "int") (dunderR (Operator.BitOr).info.2) = some (Option.some (PySem.Value.builtin "int.__ror__"))) && (decide (PySem.W.subIn K (.type "int") (.ref 445) = some false) && (decide (PySem.W.findIn K (.ref 317) "__class__" = some (some (.builtin "object.__class__"))) && (decide (PySem.W.specialIn K (.builtin "object.__class__") "__get__" = some (some (.builtin "getset_descriptor.__get__"))) && (decide (PySem.W.takesIn K (.builtin "object.__class__") = some true) && (decide (PySem.W.mroIn K 317 (.type "object") = some true) && (decide (PySem.W.findIn K (.ref 445) "__class__" = some (some (.builtin "object.__class__"))) && (decide (PySem.W.specialIn K (.builtin "object.__class__") "__get__" = some (some (.builtin "getset_descriptor.__get__"))) && (decide (PySem.W.takesIn K (.builtin "object.__class__") = some true) && (decide (PySem.W.mroIn K 445 (.type "object") = some true) && (decide (PySem.W.mroIn K 317 (.type "list") = some false) && (decide (PySem.W.mroIn K 317 (.type "tuple") = some false) && (decide (PySem.W.mroIn K 445 (.type "list") = some false) && (decide (PySem.W.mroIn K 445 (.type "tuple") = some false) && (decide (PySem.W.isClsIn K 317 = true)))))))))))))))))))))))))
theorem hdF8_ok {K : PySem.W.Frag} (h : hdF8 K = true) : (PySem.W.findIn K (.ref 317) "__setattr__" = some (some (.builtin "object.__setattr__"))) ∧ (PySem.W.plainGet K 445 Str.empty = true) ∧ (PySem.W.isClsIn K 445 = true) ∧ (PySem.W.plainOver K 445 = true) ∧ (PySem.W.findIn K (.ref 445) "__setattr__" = some (some (.builtin "object.__setattr__"))) ∧ (PySem.W.nsIn K mainGlobals "MOST_DATA" = some (some (.int 4096 403))) ∧ (PySem.W.nsIn K mainGlobals "PRIMES" = some (some (.ref 174))) ∧ (PySem.W.findIn K (.type "int") (PySem.dunder (Operator.BitAnd).info.2) = some (Option.some (PySem.Value.builtin "int.__and__"))) ∧ (PySem.W.findIn K (.type "int") (PySem.dunder (Operator.BitOr).info.2) = some (Option.some (PySem.Value.builtin "int.__or__"))) ∧ (PySem.W.findIn K (.type "int") (dunderR (Operator.BitAnd).info.2) = some (Option.some (PySem.Value.builtin "int.__rand__"))) ∧ (PySem.W.findIn K (.type "int") (dunderR (Operator.BitOr).info.2) = some (Option.some (PySem.Value.builtin "int.__ror__"))) ∧ (PySem.W.subIn K (.type "int") (.ref 445) = some false) ∧ (PySem.W.findIn K (.ref 317) "__class__" = some (some (.builtin "object.__class__"))) ∧ (PySem.W.specialIn K (.builtin "object.__class__") "__get__" = some (some (.builtin "getset_descriptor.__get__"))) ∧ (PySem.W.takesIn K (.builtin "object.__class__") = some true) ∧ (PySem.W.mroIn K 317 (.type "object") = some true) ∧ (PySem.W.findIn K (.ref 445) "__class__" = some (some (.builtin "object.__class__"))) ∧ (PySem.W.specialIn K (.builtin "object.__class__") "__get__" = some (some (.builtin "getset_descriptor.__get__"))) ∧ (PySem.W.takesIn K (.builtin "object.__class__") = some true) ∧ (PySem.W.mroIn K 445 (.type "object") = some true) ∧ (PySem.W.mroIn K 317 (.type "list") = some false) ∧ (PySem.W.mroIn K 317 (.type "tuple") = some false) ∧ (PySem.W.mroIn K 445 (.type "list") = some false) ∧ (PySem.W.mroIn K 445 (.type "tuple") = some false) ∧ (PySem.W.isClsIn K 317 = true) := by
  simpa only [hdF8, Bool.and_eq_true, decide_eq_true_eq] using h
def hdF9 (K : PySem.W.Frag) : Bool := decide (PySem.W.typeIn K (.ref 317) = some (.type "type")) && (decide (PySem.W.subIn K (.type "NoneType") (.ref 317) = some false) && (decide (PySem.W.subIn K (.type "bool") (.ref 317) = some false) && (decide (PySem.W.subIn K (.type "int") (.ref 317) = some false) && (decide (PySem.W.subIn K (.type "str") (.ref 317) = some false) && (decide (PySem.W.subIn K (.type "list") (.ref 317) = some false) && (decide (PySem.W.subIn K (.type "tuple") (.ref 317) = some false) && (decide (PySem.W.subIn K (.type "dict") (.ref 317) = some false) && (decide (PySem.W.isClsIn K 445 = true) && (decide (PySem.W.typeIn K (.ref 445) = some (.type "type")) && (decide (PySem.W.subIn K (.type "NoneType") (.ref 445) = some false) && (decide (PySem.W.subIn K (.type "bool") (.ref 445) = some false) && (decide (PySem.W.subIn K (.type "int") (.ref 445) = some false) && (decide (PySem.W.subIn K (.type "str") (.ref 445) = some false) && (decide (PySem.W.subIn K (.type "list") (.ref 445) = some false) && (decide (PySem.W.subIn K (.type "tuple") (.ref 445) = some false) && (decide (PySem.W.subIn K (.type "dict") (.ref 445) = some false) && (decide (PySem.W.kitOne K (.ref 317) (.ref 445) = some false) && (decide (PySem.W.mroIn K 317 (.type "bool") = some false) && (decide (PySem.W.mroIn K 317 (.type "int") = some false) && (decide (PySem.W.kitOne K (.ref 445) (.ref 317) = some false) && (decide (PySem.W.mroIn K 445 (.type "bool") = some false) && (decide (PySem.W.mroIn K 445 (.type "int") = some false) && (decide (PySem.W.makesIn K 317 = true) && (decide (PySem.W.keepIn K (.ref 317) = true)))))))))))))))))))))))))
theorem hdF9_ok {K : PySem.W.Frag} (h : hdF9 K = true) : (PySem.W.typeIn K (.ref 317) = some (.type "type")) ∧ (PySem.W.subIn K (.type "NoneType") (.ref 317) = some false) ∧ (PySem.W.subIn K (.type "bool") (.ref 317) = some false) ∧ (PySem.W.subIn K (.type "int") (.ref 317) = some false) ∧ (PySem.W.subIn K (.type "str") (.ref 317) = some false) ∧ (PySem.W.subIn K (.type "list") (.ref 317) = some false) ∧ (PySem.W.subIn K (.type "tuple") (.ref 317) = some false) ∧ (PySem.W.subIn K (.type "dict") (.ref 317) = some false) ∧ (PySem.W.isClsIn K 445 = true) ∧ (PySem.W.typeIn K (.ref 445) = some (.type "type")) ∧ (PySem.W.subIn K (.type "NoneType") (.ref 445) = some false) ∧ (PySem.W.subIn K (.type "bool") (.ref 445) = some false) ∧ (PySem.W.subIn K (.type "int") (.ref 445) = some false) ∧ (PySem.W.subIn K (.type "str") (.ref 445) = some false) ∧ (PySem.W.subIn K (.type "list") (.ref 445) = some false) ∧ (PySem.W.subIn K (.type "tuple") (.ref 445) = some false) ∧ (PySem.W.subIn K (.type "dict") (.ref 445) = some false) ∧ (PySem.W.kitOne K (.ref 317) (.ref 445) = some false) ∧ (PySem.W.mroIn K 317 (.type "bool") = some false) ∧ (PySem.W.mroIn K 317 (.type "int") = some false) ∧ (PySem.W.kitOne K (.ref 445) (.ref 317) = some false) ∧ (PySem.W.mroIn K 445 (.type "bool") = some false) ∧ (PySem.W.mroIn K 445 (.type "int") = some false) ∧ (PySem.W.makesIn K 317 = true) ∧ (PySem.W.keepIn K (.ref 317) = true) := by
  simpa only [hdF9, Bool.and_eq_true, decide_eq_true_eq] using h
def hdF10 (K : PySem.W.Frag) : Bool := decide (PySem.W.makesIn K 445 = true) && (decide (PySem.W.keepIn K (.ref 445) = true) && (decide (PySem.W.notFirst K 317 (.type "NoneType") = true) && (decide (PySem.W.notFirst K 317 (.type "bool") = true) && (decide (PySem.W.notFirst K 317 (.type "int") = true) && (decide (PySem.W.notFirst K 317 (.type "str") = true) && (decide (PySem.W.notFirst K 317 (.type "list") = true) && (decide (PySem.W.notFirst K 317 (.type "tuple") = true) && (decide (PySem.W.notFirst K 317 (.type "dict") = true) && (decide (PySem.W.notFirst K 445 (.type "NoneType") = true) && (decide (PySem.W.notFirst K 445 (.type "bool") = true) && (decide (PySem.W.notFirst K 445 (.type "int") = true) && (decide (PySem.W.notFirst K 445 (.type "str") = true) && (decide (PySem.W.notFirst K 445 (.type "list") = true) && (decide (PySem.W.notFirst K 445 (.type "tuple") = true) && (decide (PySem.W.notFirst K 445 (.type "dict") = true) && (decide (PySem.W.findIn K (.ref 317) "__ne__" = some (some (.builtin "object.__ne__"))) && (decide (PySem.W.findIn K (.ref 445) "__ne__" = some (some (.builtin "object.__ne__"))) && (decide (PySem.W.notFirst K 317 (.ref 317) = true) && (decide (PySem.W.notFirst K 317 (.ref 445) = true) && (decide (PySem.W.notFirst K 445 (.ref 317) = true) && (decide (PySem.W.notFirst K 445 (.ref 445) = true) && (decide (PySem.W.findIn K (.ref 445) (dunderR (Operator.BitAnd).info.2) = some none) && (decide (PySem.W.findIn K (.ref 445) (dunderR (Operator.BitOr).info.2) = some none) && (decide (PySem.W.selfFirst K 445 = true)))))))))))))))))))))))))
theorem hdF10_ok {K : PySem.W.Frag} (h : hdF10 K = true) : (PySem.W.makesIn K 445 = true) ∧ (PySem.W.keepIn K (.ref 445) = true) ∧ (PySem.W.notFirst K 317 (.type "NoneType") = true) ∧ (PySem.W.notFirst K 317 (.type "bool") = true) ∧ (PySem.W.notFirst K 317 (.type "int") = true) ∧ (PySem.W.notFirst K 317 (.type "str") = true) ∧ (PySem.W.notFirst K 317 (.type "list") = true) ∧ (PySem.W.notFirst K 317 (.type "tuple") = true) ∧ (PySem.W.notFirst K 317 (.type "dict") = true) ∧ (PySem.W.notFirst K 445 (.type "NoneType") = true) ∧ (PySem.W.notFirst K 445 (.type "bool") = true) ∧ (PySem.W.notFirst K 445 (.type "int") = true) ∧ (PySem.W.notFirst K 445 (.type "str") = true) ∧ (PySem.W.notFirst K 445 (.type "list") = true) ∧ (PySem.W.notFirst K 445 (.type "tuple") = true) ∧ (PySem.W.notFirst K 445 (.type "dict") = true) ∧ (PySem.W.findIn K (.ref 317) "__ne__" = some (some (.builtin "object.__ne__"))) ∧ (PySem.W.findIn K (.ref 445) "__ne__" = some (some (.builtin "object.__ne__"))) ∧ (PySem.W.notFirst K 317 (.ref 317) = true) ∧ (PySem.W.notFirst K 317 (.ref 445) = true) ∧ (PySem.W.notFirst K 445 (.ref 317) = true) ∧ (PySem.W.notFirst K 445 (.ref 445) = true) ∧ (PySem.W.findIn K (.ref 445) (dunderR (Operator.BitAnd).info.2) = some none) ∧ (PySem.W.findIn K (.ref 445) (dunderR (Operator.BitOr).info.2) = some none) ∧ (PySem.W.selfFirst K 445 = true) := by
  simpa only [hdF10, Bool.and_eq_true, decide_eq_true_eq] using h
def hdF11 (K : PySem.W.Frag) : Bool := decide (PySem.W.findIn K (.ref 317) "own_prime" = some (some (.ref 318))) && (decide (PySem.W.specialIn K (.ref 318) "__get__" = some (some (.builtin "member_descriptor.__get__"))) && (decide (PySem.W.takesIn K (.ref 318) = some true) && (decide (PySem.W.typeIn K (.ref 318) = some (.type "member_descriptor")) && (decide (PySem.W.slotIn K 318 317 = some 0) && (decide (PySem.W.findIn K (.ref 317) "row" = some (some (.ref 319))) && (decide (PySem.W.specialIn K (.ref 319) "__get__" = some (some (.builtin "member_descriptor.__get__"))) && (decide (PySem.W.takesIn K (.ref 319) = some true) && (decide (PySem.W.typeIn K (.ref 319) = some (.type "member_descriptor")) && (decide (PySem.W.slotIn K 319 317 = some 1) && (decide (PySem.W.findIn K (.ref 445) "listed" = some (some (.ref 446))) && (decide (PySem.W.specialIn K (.ref 446) "__get__" = some (some (.builtin "member_descriptor.__get__"))) && (decide (PySem.W.takesIn K (.ref 446) = some true) && (decide (PySem.W.typeIn K (.ref 446) = some (.type "member_descriptor")) && (decide (PySem.W.slotIn K 446 445 = some 0) && (decide (PySem.W.findIn K (.ref 445) "own_prime" = some (some (.ref 447))) && (decide (PySem.W.specialIn K (.ref 447) "__get__" = some (some (.builtin "member_descriptor.__get__"))) && (decide (PySem.W.takesIn K (.ref 447) = some true) && (decide (PySem.W.typeIn K (.ref 447) = some (.type "member_descriptor")) && (decide (PySem.W.slotIn K 447 445 = some 1) && (decide (PySem.W.findIn K (.ref 445) "own_size" = some (some (.ref 448))) && (decide (PySem.W.specialIn K (.ref 448) "__get__" = some (some (.builtin "member_descriptor.__get__"))) && (decide (PySem.W.takesIn K (.ref 448) = some true) && (decide (PySem.W.typeIn K (.ref 448) = some (.type "member_descriptor")) && (decide (PySem.W.slotIn K 448 445 = some 2)))))))))))))))))))))))))
theorem hdF11_ok {K : PySem.W.Frag} (h : hdF11 K = true) : (PySem.W.findIn K (.ref 317) "own_prime" = some (some (.ref 318))) ∧ (PySem.W.specialIn K (.ref 318) "__get__" = some (some (.builtin "member_descriptor.__get__"))) ∧ (PySem.W.takesIn K (.ref 318) = some true) ∧ (PySem.W.typeIn K (.ref 318) = some (.type "member_descriptor")) ∧ (PySem.W.slotIn K 318 317 = some 0) ∧ (PySem.W.findIn K (.ref 317) "row" = some (some (.ref 319))) ∧ (PySem.W.specialIn K (.ref 319) "__get__" = some (some (.builtin "member_descriptor.__get__"))) ∧ (PySem.W.takesIn K (.ref 319) = some true) ∧ (PySem.W.typeIn K (.ref 319) = some (.type "member_descriptor")) ∧ (PySem.W.slotIn K 319 317 = some 1) ∧ (PySem.W.findIn K (.ref 445) "listed" = some (some (.ref 446))) ∧ (PySem.W.specialIn K (.ref 446) "__get__" = some (some (.builtin "member_descriptor.__get__"))) ∧ (PySem.W.takesIn K (.ref 446) = some true) ∧ (PySem.W.typeIn K (.ref 446) = some (.type "member_descriptor")) ∧ (PySem.W.slotIn K 446 445 = some 0) ∧ (PySem.W.findIn K (.ref 445) "own_prime" = some (some (.ref 447))) ∧ (PySem.W.specialIn K (.ref 447) "__get__" = some (some (.builtin "member_descriptor.__get__"))) ∧ (PySem.W.takesIn K (.ref 447) = some true) ∧ (PySem.W.typeIn K (.ref 447) = some (.type "member_descriptor")) ∧ (PySem.W.slotIn K 447 445 = some 1) ∧ (PySem.W.findIn K (.ref 445) "own_size" = some (some (.ref 448))) ∧ (PySem.W.specialIn K (.ref 448) "__get__" = some (some (.builtin "member_descriptor.__get__"))) ∧ (PySem.W.takesIn K (.ref 448) = some true) ∧ (PySem.W.typeIn K (.ref 448) = some (.type "member_descriptor")) ∧ (PySem.W.slotIn K 448 445 = some 2) := by
  simpa only [hdF11, Bool.and_eq_true, decide_eq_true_eq] using h
def hdF12 (K : PySem.W.Frag) : Bool := decide (PySem.W.findIn K (.ref 445) "rows" = some (some (.ref 449))) && (decide (PySem.W.specialIn K (.ref 449) "__get__" = some (some (.builtin "member_descriptor.__get__"))) && (decide (PySem.W.takesIn K (.ref 449) = some true) && (decide (PySem.W.typeIn K (.ref 449) = some (.type "member_descriptor")) && (decide (PySem.W.slotIn K 449 445 = some 3) && (decide (PySem.W.nsIn K mainGlobals "all" = some none) && (decide (PySem.W.nsIn K mainGlobals "any" = some none) && (decide (PySem.W.nsIn K mainGlobals "bool" = some none) && (decide (PySem.W.nsIn K mainGlobals "int" = some none) && (decide (PySem.W.nsIn K mainGlobals "isinstance" = some none) && (decide (PySem.W.nsIn K mainGlobals "len" = some none) && (decide (PySem.W.nsIn K mainGlobals "list" = some none) && (decide (PySem.W.nsIn K mainGlobals "max" = some none) && (decide (PySem.W.nsIn K mainGlobals "min" = some none) && (decide (PySem.W.nsIn K mainGlobals "range" = some none) && (decide (PySem.W.nsIn K mainGlobals "set" = some none) && (decide (PySem.W.nsIn K mainGlobals "sorted" = some none) && (decide (PySem.W.nsIn K mainGlobals "tuple" = some none) && (decide (PySem.W.nsIn K mainGlobals "zip" = some none)))))))))))))))))))
theorem hdF12_ok {K : PySem.W.Frag} (h : hdF12 K = true) : (PySem.W.findIn K (.ref 445) "rows" = some (some (.ref 449))) ∧ (PySem.W.specialIn K (.ref 449) "__get__" = some (some (.builtin "member_descriptor.__get__"))) ∧ (PySem.W.takesIn K (.ref 449) = some true) ∧ (PySem.W.typeIn K (.ref 449) = some (.type "member_descriptor")) ∧ (PySem.W.slotIn K 449 445 = some 3) ∧ (PySem.W.nsIn K mainGlobals "all" = some none) ∧ (PySem.W.nsIn K mainGlobals "any" = some none) ∧ (PySem.W.nsIn K mainGlobals "bool" = some none) ∧ (PySem.W.nsIn K mainGlobals "int" = some none) ∧ (PySem.W.nsIn K mainGlobals "isinstance" = some none) ∧ (PySem.W.nsIn K mainGlobals "len" = some none) ∧ (PySem.W.nsIn K mainGlobals "list" = some none) ∧ (PySem.W.nsIn K mainGlobals "max" = some none) ∧ (PySem.W.nsIn K mainGlobals "min" = some none) ∧ (PySem.W.nsIn K mainGlobals "range" = some none) ∧ (PySem.W.nsIn K mainGlobals "set" = some none) ∧ (PySem.W.nsIn K mainGlobals "sorted" = some none) ∧ (PySem.W.nsIn K mainGlobals "tuple" = some none) ∧ (PySem.W.nsIn K mainGlobals "zip" = some none) := by
  simpa only [hdF12, Bool.and_eq_true, decide_eq_true_eq] using h
def hdOk (K : PySem.W.Frag) : Bool := K.all (fun p => !tab0 p.2) && (hdF0 K && (hdF1 K && (hdF2 K && (hdF3 K && (hdF4 K && (hdF5 K && (hdF6 K && (hdF7 K && (hdF8 K && (hdF9 K && (hdF10 K && (hdF11 K && (hdF12 K)))))))))))))
def hdL : List Addr := [382, 458, 465, 472, 494, 487, 499, 403, 313, 188, 195, 181, 173, 202, 207, 222, 350, 239, 358, 255, 328, 247, 142, 135, 149, 125, 130, 154, 343, 338, 337, 509, 504, 410, 417, 422, 477, 161, 396, 427, 514, 50, 49, 38, 92, 91, 80, 113, 112, 101, 174]
def hdV0 : Option Obj := some ⟨(PySem.Value.type "function"), (Option.none), .func (PySem.W.fnOf "__len__" "Space.__len__" (defArgs s_Space_len) (defBody s_Space_len) (defScope s_Space_len) .none (PySem.Value.none) (PySem.Value.none) (PySem.Value.str (PySem.Str.ofString "leastreads.spaces") 595) (Option.none) (PySem.Value.ref 381) (PySem.Value.none)), (#[])⟩
def hdV1 : Option Obj := some ⟨(PySem.Value.type "function"), (Option.none), .func (PySem.W.fnOf "_law_source" "_law_source" (defArgs s_source) (defBody s_source) (defScope s_source) .none (PySem.Value.none) (PySem.Value.none) (PySem.Value.str (PySem.Str.ofString "law_leastreads_k05_whole_spaces_joined_and_m") 742) (Option.none) (PySem.Value.ref 457) (PySem.Value.none)), (#[])⟩
def hdV2 : Option Obj := some ⟨(PySem.Value.type "function"), (Option.none), .func (PySem.W.fnOf "_law_draw" "_law_draw" (defArgs s_draw) (defBody s_draw) (defScope s_draw) .none (PySem.Value.none) (PySem.Value.none) (PySem.Value.str (PySem.Str.ofString "law_leastreads_k05_whole_spaces_joined_and_m") 742) (Option.none) (PySem.Value.ref 464) (PySem.Value.none)), (#[])⟩
def hdV3 : Option Obj := some ⟨(PySem.Value.type "function"), (Option.none), .func (PySem.W.fnOf "_law_pick" "_law_pick" (defArgs s_pick) (defBody s_pick) (defScope s_pick) .none (PySem.Value.none) (PySem.Value.none) (PySem.Value.str (PySem.Str.ofString "law_leastreads_k05_whole_spaces_joined_and_m") 742) (Option.none) (PySem.Value.ref 471) (PySem.Value.none)), (#[])⟩
def hdV4 : Option Obj := some ⟨(PySem.Value.type "function"), (Option.none), .func (PySem.W.fnOf "_law_form" "_law_form" (defArgs s_form) (defBody s_form) (defScope s_form) .none (PySem.Value.none) (PySem.Value.none) (PySem.Value.str (PySem.Str.ofString "law_leastreads_k05_whole_spaces_joined_and_m") 742) (Option.none) (PySem.Value.ref 493) (PySem.Value.none)), (#[])⟩
def hdV5 : Option Obj := some ⟨(PySem.Value.type "function"), (Option.none), .func (PySem.W.fnOf "_law_factors" "_law_factors" (defArgs s_factors) (defBody s_factors) (defScope s_factors) .none (PySem.Value.none) (PySem.Value.none) (PySem.Value.str (PySem.Str.ofString "law_leastreads_k05_whole_spaces_joined_and_m") 742) (Option.none) (PySem.Value.ref 486) (PySem.Value.none)), (#[])⟩
def hdV6 : Option Obj := some ⟨(PySem.Value.type "function"), (Option.none), .func (PySem.W.fnOf "_law_sums" "_law_sums" (defArgs s_sums) (defBody s_sums) (defScope s_sums) .none (PySem.Value.none) (PySem.Value.none) (PySem.Value.str (PySem.Str.ofString "law_leastreads_k05_whole_spaces_joined_and_m") 742) (Option.none) (PySem.Value.ref 498) (PySem.Value.none)), (#[])⟩
def hdV7 : Option Obj := some ⟨(PySem.Value.type "function"), (Option.none), .func (PySem.W.fnOf "__eq__" "Space.__eq__" (defArgs s_Space_eq) (defBody s_Space_eq) (defScope s_Space_eq) .none (PySem.Value.none) (PySem.Value.none) (PySem.Value.str (PySem.Str.ofString "leastreads.spaces") 595) (Option.none) (PySem.Value.ref 402) (PySem.Value.none)), (#[])⟩
def hdV8 : Option Obj := some ⟨(PySem.Value.type "function"), (Option.none), .func (PySem.W.fnOf "__eq__" "Sum.__eq__" (defArgs s_Sum_eq) (defBody s_Sum_eq) (defScope s_Sum_eq) .none (PySem.Value.none) (PySem.Value.none) (PySem.Value.str (PySem.Str.ofString "leastreads.sums") 396) (Option.none) (PySem.Value.ref 312) (PySem.Value.none)), (#[])⟩
def hdV9 : Option Obj := some ⟨(PySem.Value.type "function"), (Option.none), .func (PySem.W.fnOf "is_integer" "is_integer" (defArgs s_is_integer) (defBody s_is_integer) (defScope s_is_integer) .none (PySem.Value.none) (PySem.Value.none) (PySem.Value.str (PySem.Str.ofString "leastreads.sums") 396) (Option.none) (PySem.Value.ref 187) (PySem.Value.none)), (#[])⟩
def hdV10 : Option Obj := some ⟨(PySem.Value.type "function"), (Option.none), .func (PySem.W.fnOf "is_prime" "is_prime" (defArgs s_is_prime) (defBody s_is_prime) (defScope s_is_prime) .none (PySem.Value.none) (PySem.Value.none) (PySem.Value.str (PySem.Str.ofString "leastreads.sums") 396) (Option.none) (PySem.Value.ref 194) (PySem.Value.none)), (#[])⟩
def hdV11 : Option Obj := some ⟨(PySem.Value.type "function"), (Option.none), .func (PySem.W.fnOf "is_between" "is_between" (defArgs s_is_between) (defBody s_is_between) (defScope s_is_between) .none (PySem.Value.none) (PySem.Value.none) (PySem.Value.str (PySem.Str.ofString "leastreads.sums") 396) (Option.none) (PySem.Value.ref 180) (PySem.Value.none)), (#[])⟩
def hdV12 : Option Obj := some ⟨(PySem.Value.type "function"), (Option.none), .func (PySem.W.fnOf "power" "power" (defArgs s_power) (defBody s_power) (defScope s_power) .none (PySem.Value.none) (PySem.Value.none) (PySem.Value.str (PySem.Str.ofString "leastreads.rows") 324) (Option.none) (PySem.Value.ref 172) (PySem.Value.none)), (#[])⟩
def hdV13 : Option Obj := some ⟨(PySem.Value.type "function"), (Option.none), .func (PySem.W.fnOf "is_size" "is_size" (defArgs s_is_size) (defBody s_is_size) (defScope s_is_size) .none (PySem.Value.none) (PySem.Value.none) (PySem.Value.str (PySem.Str.ofString "leastreads.sums") 396) (Option.none) (PySem.Value.ref 201) (PySem.Value.none)), (#[])⟩
def hdV14 : Option Obj := some ⟨(PySem.Value.type "function"), (Option.none), .func (PySem.W.fnOf "is_data" "is_data" (defArgs s_is_data) (defBody s_is_data) (defScope s_is_data) .none (PySem.Value.none) (PySem.Value.none) (PySem.Value.str (PySem.Str.ofString "leastreads.sums") 396) (Option.none) (PySem.Value.ref 206) (PySem.Value.none)), (#[])⟩
def hdV15 : Option Obj := some ⟨(PySem.Value.type "function"), (Option.none), .func (PySem.W.fnOf "__init__" "Sum.__init__" (defArgs s_Sum_init) (defBody s_Sum_init) (defScope s_Sum_init) .none (PySem.Value.none) (PySem.Value.none) (PySem.Value.str (PySem.Str.ofString "leastreads.sums") 396) (Option.none) (PySem.Value.ref 221) (PySem.Value.none)), (#[])⟩
def hdV16 : Option Obj := some ⟨(PySem.Value.type "function"), (Option.none), .func (PySem.W.fnOf "prime" "Space.prime" (defArgs s_Space_prime) (defBody s_Space_prime) (defScope s_Space_prime) .none (PySem.Value.none) (PySem.Value.none) (PySem.Value.str (PySem.Str.ofString "leastreads.spaces") 595) (Option.none) (PySem.Value.ref 349) (PySem.Value.none)), (#[])⟩
def hdV17 : Option Obj := some ⟨(PySem.Value.type "function"), (Option.none), .func (PySem.W.fnOf "prime" "Sum.prime" (defArgs s_Sum_prime) (defBody s_Sum_prime) (defScope s_Sum_prime) .none (PySem.Value.none) (PySem.Value.none) (PySem.Value.str (PySem.Str.ofString "leastreads.sums") 396) (Option.none) (PySem.Value.ref 238) (PySem.Value.none)), (#[])⟩
def hdV18 : Option Obj := some ⟨(PySem.Value.type "function"), (Option.none), .func (PySem.W.fnOf "size" "Space.size" (defArgs s_Space_size) (defBody s_Space_size) (defScope s_Space_size) .none (PySem.Value.none) (PySem.Value.none) (PySem.Value.str (PySem.Str.ofString "leastreads.spaces") 595) (Option.none) (PySem.Value.ref 357) (PySem.Value.none)), (#[])⟩
def hdV19 : Option Obj := some ⟨(PySem.Value.type "function"), (Option.none), .func (PySem.W.fnOf "size" "Sum.size" (defArgs s_Sum_size) (defBody s_Sum_size) (defScope s_Sum_size) .none (PySem.Value.none) (PySem.Value.none) (PySem.Value.str (PySem.Str.ofString "leastreads.sums") 396) (Option.none) (PySem.Value.ref 254) (PySem.Value.none)), (#[])⟩
def hdV20 : Option Obj := some ⟨(PySem.Value.type "function"), (Option.none), .func (PySem.W.fnOf "is_sum" "is_sum" (defArgs s_is_sum) (defBody s_is_sum) (defScope s_is_sum) .none (PySem.Value.none) (PySem.Value.none) (PySem.Value.str (PySem.Str.ofString "leastreads.sums") 396) (Option.none) (PySem.Value.ref 327) (PySem.Value.none)), (#[])⟩
def hdV21 : Option Obj := some ⟨(PySem.Value.type "function"), (Option.none), .func (PySem.W.fnOf "factors" "Sum.factors" (defArgs s_Sum_factors) (defBody s_Sum_factors) (defScope s_Sum_factors) .none (PySem.Value.none) (PySem.Value.none) (PySem.Value.str (PySem.Str.ofString "leastreads.sums") 396) (Option.none) (PySem.Value.ref 246) (PySem.Value.none)), (#[])⟩
def hdV22 : Option Obj := some ⟨(PySem.Value.type "function"), (Option.none), .func (PySem.W.fnOf "lead" "lead" (defArgs s_lead) (defBody s_lead) (defScope s_lead) .none (PySem.Value.none) (PySem.Value.none) (PySem.Value.str (PySem.Str.ofString "leastreads.rows") 324) (Option.none) (PySem.Value.ref 141) (PySem.Value.none)), (#[])⟩
def hdV23 : Option Obj := some ⟨(PySem.Value.type "function"), (Option.none), .func (PySem.W.fnOf "added" "added" (defArgs s_added) (defBody s_added) (defScope s_added) .none (PySem.Value.none) (PySem.Value.none) (PySem.Value.str (PySem.Str.ofString "leastreads.rows") 324) (Option.none) (PySem.Value.ref 134) (PySem.Value.none)), (#[])⟩
def hdV24 : Option Obj := some ⟨(PySem.Value.type "function"), (Option.none), .func (PySem.W.fnOf "rest_of" "rest_of" (defArgs s_rest_of) (defBody s_rest_of) (defScope s_rest_of) .none (PySem.Value.none) (PySem.Value.none) (PySem.Value.str (PySem.Str.ofString "leastreads.rows") 324) (Option.none) (PySem.Value.ref 148) (PySem.Value.none)), (#[])⟩
def hdV25 : Option Obj := some ⟨(PySem.Value.type "function"), (Option.none), .func (PySem.W.fnOf "inverse" "inverse" (defArgs s_inverse) (defBody s_inverse) (defScope s_inverse) .none (PySem.Value.none) (PySem.Value.none) (PySem.Value.str (PySem.Str.ofString "leastreads.rows") 324) (Option.none) (PySem.Value.ref 124) (PySem.Value.none)), (#[])⟩
def hdV26 : Option Obj := some ⟨(PySem.Value.type "function"), (Option.none), .func (PySem.W.fnOf "scaled" "scaled" (defArgs s_scaled) (defBody s_scaled) (defScope s_scaled) .none (PySem.Value.none) (PySem.Value.none) (PySem.Value.str (PySem.Str.ofString "leastreads.rows") 324) (Option.none) (PySem.Value.ref 129) (PySem.Value.none)), (#[])⟩
def hdV27 : Option Obj := some ⟨(PySem.Value.type "function"), (Option.none), .func (PySem.W.fnOf "reduced" "reduced" (defArgs s_reduced) (defBody s_reduced) (defScope s_reduced) .none (PySem.Value.none) (PySem.Value.none) (PySem.Value.str (PySem.Str.ofString "leastreads.rows") 324) (Option.none) (PySem.Value.ref 153) (PySem.Value.none)), (#[])⟩
def hdV28 : Option Obj := some ⟨(PySem.Value.type "function"), (Option.none), .func (PySem.W.fnOf "__init__" "Space.__init__" (defArgs s_Space_init) (defBody s_Space_init) (defScope s_Space_init) (.ref 338) (PySem.Value.none) (PySem.Value.none) (PySem.Value.str (PySem.Str.ofString "leastreads.spaces") 595) (Option.none) (PySem.Value.ref 342) (PySem.Value.none)), (#[])⟩
def hdV29 : Option Obj := some ⟨(PySem.Value.type "tuple"), (Option.none), .seq (#[PySem.Value.ref 337]) 0, (#[])⟩
def hdV30 : Option Obj := some ⟨.type "tuple", (Option.none), .seq #[] 0, (#[])⟩
def hdV31 : Option Obj := some ⟨(PySem.Value.type "function"), (Option.none), .func (PySem.W.fnOf "_law_made" "_law_made" (defArgs s_made) (defBody s_made) (defScope s_made) .none (PySem.Value.none) (PySem.Value.none) (PySem.Value.str (PySem.Str.ofString "law_leastreads_k05_whole_spaces_joined_and_m") 742) (Option.none) (PySem.Value.ref 508) (PySem.Value.none)), (#[])⟩
def hdV32 : Option Obj := some ⟨(PySem.Value.type "function"), (Option.none), .func (PySem.W.fnOf "_law_span" "_law_span" (defArgs s_span) (defBody s_span) (defScope s_span) .none (PySem.Value.none) (PySem.Value.none) (PySem.Value.str (PySem.Str.ofString "law_leastreads_k05_whole_spaces_joined_and_m") 742) (Option.none) (PySem.Value.ref 503) (PySem.Value.none)), (#[])⟩
def hdV33 : Option Obj := some ⟨(PySem.Value.type "function"), (Option.none), .func (PySem.W.fnOf "require" "Space.require" (defArgs s_Space_require) (defBody s_Space_require) (defScope s_Space_require) .none (PySem.Value.none) (PySem.Value.none) (PySem.Value.str (PySem.Str.ofString "leastreads.spaces") 595) (Option.none) (PySem.Value.ref 409) (PySem.Value.none)), (#[])⟩
def hdV34 : Option Obj := some ⟨(PySem.Value.type "function"), (Option.none), .func (PySem.W.fnOf "__or__" "Space.__or__" (defArgs s_Space_or) (defBody s_Space_or) (defScope s_Space_or) .none (PySem.Value.none) (PySem.Value.none) (PySem.Value.str (PySem.Str.ofString "leastreads.spaces") 595) (Option.none) (PySem.Value.ref 416) (PySem.Value.none)), (#[])⟩
def hdV35 : Option Obj := some ⟨(PySem.Value.type "function"), (Option.none), .func (PySem.W.fnOf "__and__" "Space.__and__" (defArgs s_Space_and) (defBody s_Space_and) (defScope s_Space_and) .none (PySem.Value.none) (PySem.Value.none) (PySem.Value.str (PySem.Str.ofString "leastreads.spaces") 595) (Option.none) (PySem.Value.ref 421) (PySem.Value.none)), (#[])⟩
def hdV36 : Option Obj := some ⟨(PySem.Value.type "function"), (Option.none), .func (PySem.W.fnOf "_law_all_data" "_law_all_data" (defArgs s_all_data) (defBody s_all_data) (defScope s_all_data) .none (PySem.Value.none) (PySem.Value.none) (PySem.Value.str (PySem.Str.ofString "law_leastreads_k05_whole_spaces_joined_and_m") 742) (Option.none) (PySem.Value.ref 476) (PySem.Value.none)), (#[])⟩
def hdV37 : Option Obj := some ⟨(PySem.Value.type "function"), (Option.none), .func (PySem.W.fnOf "has_row" "has_row" (defArgs s_has_row) (defBody s_has_row) (defScope s_has_row) .none (PySem.Value.none) (PySem.Value.none) (PySem.Value.str (PySem.Str.ofString "leastreads.rows") 324) (Option.none) (PySem.Value.ref 160) (PySem.Value.none)), (#[])⟩
def hdV38 : Option Obj := some ⟨(PySem.Value.type "function"), (Option.none), .func (PySem.W.fnOf "__contains__" "Space.__contains__" (defArgs s_Space_contains) (defBody s_Space_contains) (defScope s_Space_contains) .none (PySem.Value.none) (PySem.Value.none) (PySem.Value.str (PySem.Str.ofString "leastreads.spaces") 595) (Option.none) (PySem.Value.ref 395) (PySem.Value.none)), (#[])⟩
def hdV39 : Option Obj := some ⟨(PySem.Value.type "function"), (Option.none), .func (PySem.W.fnOf "within" "Space.within" (defArgs s_Space_within) (defBody s_Space_within) (defScope s_Space_within) .none (PySem.Value.none) (PySem.Value.none) (PySem.Value.str (PySem.Str.ofString "leastreads.spaces") 595) (Option.none) (PySem.Value.ref 426) (PySem.Value.none)), (#[])⟩
def hdV40 : Option Obj := some ⟨(PySem.Value.type "function"), (Option.none), .func (PySem.W.fnOf "law" "law" (defArgs s_law) (defBody s_law) (defScope s_law) .none (PySem.Value.none) (PySem.Value.none) (PySem.Value.str (PySem.Str.ofString "law_leastreads_k05_whole_spaces_joined_and_m") 742) (Option.none) (PySem.Value.ref 513) (PySem.Value.none)), (#[])⟩
def hdV41 : Option Obj := some ⟨(PySem.Value.type "function"), (Option.none), .func (PySem.W.ksFn "__init__" "InvalidSum.__init__" (defArgs s_E3) (defBody s_E3) (defScope s_E3) .none (PySem.Value.none) (PySem.Value.none) (PySem.Value.str (PySem.Str.ofString "leastreads.errors") 194) (Option.none) (.ref 49) (PySem.Value.ref 43) 38), (#[])⟩
def hdV42 : Option Obj := some ⟨(PySem.Value.type "code"), (Option.none), .fields (#[PySem.Value.str (PySem.Str.ofString "__init__") 228, PySem.Value.str (PySem.Str.ofString "InvalidSum.__init__") 229, PySem.Value.str (PySem.Str.ofString "/claim/cut.py") 230, PySem.Value.int 9 0, PySem.Value.int 2 0, PySem.Value.int 0 0, PySem.Value.int 0 0, PySem.Value.int 3 0, PySem.Value.ref 44, PySem.Value.bool Bool.true, PySem.Value.int 181 0, PySem.Value.ref 45, PySem.Value.none, PySem.Value.ref 46, PySem.Value.ref 47, PySem.Value.ref 48, PySem.Value.int 234 0, PySem.Value.int 9 0, PySem.Value.str (PySem.Str.ofString "/claim/cut.py") 235]), (#[])⟩
def hdV43 : Option Obj := some ⟨(PySem.Value.type "cell"), (Option.none), .cell (some (.ref 53)), (#[])⟩
def hdV44 : Option Obj := some ⟨(PySem.Value.type "function"), (Option.none), .func (PySem.W.ksFn "__init__" "InvalidNumber.__init__" (defArgs s_E5) (defBody s_E5) (defScope s_E5) .none (PySem.Value.none) (PySem.Value.none) (PySem.Value.str (PySem.Str.ofString "leastreads.errors") 194) (Option.none) (.ref 91) (PySem.Value.ref 85) 80), (#[])⟩
def hdV45 : Option Obj := some ⟨(PySem.Value.type "code"), (Option.none), .fields (#[PySem.Value.str (PySem.Str.ofString "__init__") 282, PySem.Value.str (PySem.Str.ofString "InvalidNumber.__init__") 283, PySem.Value.str (PySem.Str.ofString "/claim/cut.py") 284, PySem.Value.int 19 0, PySem.Value.int 2 0, PySem.Value.int 0 0, PySem.Value.int 0 0, PySem.Value.int 3 0, PySem.Value.ref 86, PySem.Value.bool Bool.true, PySem.Value.int 181 0, PySem.Value.ref 87, PySem.Value.none, PySem.Value.ref 88, PySem.Value.ref 89, PySem.Value.ref 90, PySem.Value.int 288 0, PySem.Value.int 19 0, PySem.Value.str (PySem.Str.ofString "/claim/cut.py") 289]), (#[])⟩
def hdV46 : Option Obj := some ⟨(PySem.Value.type "cell"), (Option.none), .cell (some (.ref 95)), (#[])⟩
def hdV47 : Option Obj := some ⟨(PySem.Value.type "function"), (Option.none), .func (PySem.W.ksFn "__init__" "InvalidOperand.__init__" (defArgs s_E6) (defBody s_E6) (defScope s_E6) .none (PySem.Value.none) (PySem.Value.none) (PySem.Value.str (PySem.Str.ofString "leastreads.errors") 194) (Option.none) (.ref 112) (PySem.Value.ref 106) 101), (#[])⟩
def hdV48 : Option Obj := some ⟨(PySem.Value.type "code"), (Option.none), .fields (#[PySem.Value.str (PySem.Str.ofString "__init__") 309, PySem.Value.str (PySem.Str.ofString "InvalidOperand.__init__") 310, PySem.Value.str (PySem.Str.ofString "/claim/cut.py") 311, PySem.Value.int 24 0, PySem.Value.int 2 0, PySem.Value.int 0 0, PySem.Value.int 0 0, PySem.Value.int 3 0, PySem.Value.ref 107, PySem.Value.bool Bool.true, PySem.Value.int 181 0, PySem.Value.ref 108, PySem.Value.none, PySem.Value.ref 109, PySem.Value.ref 110, PySem.Value.ref 111, PySem.Value.int 315 0, PySem.Value.int 24 0, PySem.Value.str (PySem.Str.ofString "/claim/cut.py") 316]), (#[])⟩
def hdV49 : Option Obj := some ⟨(PySem.Value.type "cell"), (Option.none), .cell (some (.ref 116)), (#[])⟩
def hdV50 : Option Obj := some ⟨.type "tuple", (Option.none), .seq (#[PySem.Value.int 2 398, PySem.Value.int 3 399, PySem.Value.int 5 400, PySem.Value.int 7 401]) 0, (#[])⟩
def hdV : List (Option Obj) := [hdV0, hdV1, hdV2, hdV3, hdV4, hdV5, hdV6, hdV7, hdV8, hdV9, hdV10, hdV11, hdV12, hdV13, hdV14, hdV15, hdV16, hdV17, hdV18, hdV19, hdV20, hdV21, hdV22, hdV23, hdV24, hdV25, hdV26, hdV27, hdV28, hdV29, hdV30, hdV31, hdV32, hdV33, hdV34, hdV35, hdV36, hdV37, hdV38, hdV39, hdV40, hdV41, hdV42, hdV43, hdV44, hdV45, hdV46, hdV47, hdV48, hdV49, hdV50]
abbrev hdH : PySem.W.Hook := hookE hdA hdOk hdL hdV
def hdO (s : PySem.W.SharedT) : Bool × List (Option Obj) := obsE hdA hdOk hdL (HandSHeadRun.getT s)
theorem hdO_eq (s : PySem.W.SharedT) : hdO s = hdH.obs s.abs := obsE_eq hdA hdOk hdL hdV s
set_option maxRecDepth 100000 in
set_option maxHeartbeats 0 in
theorem hdRun (w : World) : HandSHeadRun.RunEq hdR hdQ hdH hdO 8900 hdN w := by
  intro os
  kernel_rfl
end LW
open PySem PySem.W PySem.Calls PyProof.Rows in
set_option maxRecDepth 100000 in
set_option maxHeartbeats 0 in
theorem PySem.Challenge.cw_leastreads_k05_whole_spaces_joined_and_m_holds : PySem.Challenge.rw_leastreads_k05_whole_spaces_joined_and_m.Holds := by
  w_on; o_law
  refine HandSHeadRun.head_any (r := OpenLaw.row PySem.Challenge.rw_leastreads_k05_whole_spaces_joined_and_m) (q := LW.hdQ) (H := LW.hdH) (ob := LW.hdO) (M := 8900) (loose := LW.hdN) (d := HandSHeadRun.topDef (OpenLaw.row PySem.Challenge.rw_leastreads_k05_whole_spaces_joined_and_m).prog 40) (kwd := []) LW.hdO_eq (by kernel_rfl) (fun s => by kernel_rfl) LW.hdRun (by kernel_rfl) (by kernel_rfl) (by kernel_rfl) (by rfl) (by first | assumption | decide +kernel) (by decide +kernel) ⟨rfl, rfl, rfl, rfl, rfl, by decide +kernel⟩ ?hw ?hc
  case hw => w_witness2
  case hc =>
    refine DL.law_walkE (l := PySem.Challenge.rw_leastreads_k05_whole_spaces_joined_and_m) (lvl := 10) (OK := DL.OkE LW.hdOk LW.hdL LW.hdV) rfl (by decide +kernel) rfl ⟨rfl, by decide, by decide⟩ (fun w h Y => Y) [] (by decide +kernel) (fun K c => (Bool.and_eq_true_iff.mp c.c).1) ?F
    intro w mg fa h K c KX G hmg0
    have hmg : mg ("law" : PySem.Str) = some (.ref fa) := by
      have e : (HandSHeadRun.topDef (OpenLaw.row PySem.Challenge.rw_leastreads_k05_whole_spaces_joined_and_m).prog 40).name = ("law" : PySem.Str) := by kernel_rfl
      rw [← e]
      exact hmg0
    have g := (Bool.and_eq_true_iff.mp c.c).2
    have e0 := LW.hdF0_ok (Bool.and_eq_true_iff.mp g).1
    replace g := (Bool.and_eq_true_iff.mp g).2
    have e1 := LW.hdF1_ok (Bool.and_eq_true_iff.mp g).1
    replace g := (Bool.and_eq_true_iff.mp g).2
    have e2 := LW.hdF2_ok (Bool.and_eq_true_iff.mp g).1
    replace g := (Bool.and_eq_true_iff.mp g).2
    have e3 := LW.hdF3_ok (Bool.and_eq_true_iff.mp g).1
    replace g := (Bool.and_eq_true_iff.mp g).2
    have e4 := LW.hdF4_ok (Bool.and_eq_true_iff.mp g).1
    replace g := (Bool.and_eq_true_iff.mp g).2
    have e5 := LW.hdF5_ok (Bool.and_eq_true_iff.mp g).1
    replace g := (Bool.and_eq_true_iff.mp g).2
    have e6 := LW.hdF6_ok (Bool.and_eq_true_iff.mp g).1
    replace g := (Bool.and_eq_true_iff.mp g).2
    have e7 := LW.hdF7_ok (Bool.and_eq_true_iff.mp g).1
    replace g := (Bool.and_eq_true_iff.mp g).2
    have e8 := LW.hdF8_ok (Bool.and_eq_true_iff.mp g).1
    replace g := (Bool.and_eq_true_iff.mp g).2
    have e9 := LW.hdF9_ok (Bool.and_eq_true_iff.mp g).1
    replace g := (Bool.and_eq_true_iff.mp g).2
    have e10 := LW.hdF10_ok (Bool.and_eq_true_iff.mp g).1
    replace g := (Bool.and_eq_true_iff.mp g).2
    have e11 := LW.hdF11_ok (Bool.and_eq_true_iff.mp g).1
    replace g := (Bool.and_eq_true_iff.mp g).2
    have e12 := LW.hdF12_ok g
    exact LW.all_mk (l := PySem.Challenge.rw_leastreads_k05_whole_spaces_joined_and_m) KX G hmg e0.1 e0.2.1 e0.2.2.1 e0.2.2.2.1 (c.at_ 0 rfl rfl) e0.2.2.2.2.1 e0.2.2.2.2.2.1 e0.2.2.2.2.2.2.1 (c.at_ 1 rfl rfl) e0.2.2.2.2.2.2.2.1 e0.2.2.2.2.2.2.2.2.1 e0.2.2.2.2.2.2.2.2.2.1 (c.at_ 2 rfl rfl) e0.2.2.2.2.2.2.2.2.2.2.1 e0.2.2.2.2.2.2.2.2.2.2.2.1 e0.2.2.2.2.2.2.2.2.2.2.2.2.1 (c.at_ 3 rfl rfl) e0.2.2.2.2.2.2.2.2.2.2.2.2.2.1 e0.2.2.2.2.2.2.2.2.2.2.2.2.2.2.1 e0.2.2.2.2.2.2.2.2.2.2.2.2.2.2.2.1 (c.at_ 4 rfl rfl) e0.2.2.2.2.2.2.2.2.2.2.2.2.2.2.2.2.1 e0.2.2.2.2.2.2.2.2.2.2.2.2.2.2.2.2.2.1 e0.2.2.2.2.2.2.2.2.2.2.2.2.2.2.2.2.2.2.1 (c.at_ 5 rfl rfl) e0.2.2.2.2.2.2.2.2.2.2.2.2.2.2.2.2.2.2.2.1 e0.2.2.2.2.2.2.2.2.2.2.2.2.2.2.2.2.2.2.2.2.1 e0.2.2.2.2.2.2.2.2.2.2.2.2.2.2.2.2.2.2.2.2.2.1 (c.at_ 6 rfl rfl) e0.2.2.2.2.2.2.2.2.2.2.2.2.2.2.2.2.2.2.2.2.2.2.1 e0.2.2.2.2.2.2.2.2.2.2.2.2.2.2.2.2.2.2.2.2.2.2.2.1 e0.2.2.2.2.2.2.2.2.2.2.2.2.2.2.2.2.2.2.2.2.2.2.2.2 e1.1 (c.at_ 7 rfl rfl) e1.2.1 e1.2.2.1 e1.2.2.2.1 e1.2.2.2.2.1 (c.at_ 8 rfl rfl) e1.2.2.2.2.2.1 e1.2.2.2.2.2.2.1 e1.2.2.2.2.2.2.2.1 (c.at_ 9 rfl rfl) e1.2.2.2.2.2.2.2.2.1 e1.2.2.2.2.2.2.2.2.2.1 e1.2.2.2.2.2.2.2.2.2.2.1 (c.at_ 10 rfl rfl) e1.2.2.2.2.2.2.2.2.2.2.2.1 e1.2.2.2.2.2.2.2.2.2.2.2.2.1 e1.2.2.2.2.2.2.2.2.2.2.2.2.2.1 (c.at_ 11 rfl rfl) e1.2.2.2.2.2.2.2.2.2.2.2.2.2.2.1 e1.2.2.2.2.2.2.2.2.2.2.2.2.2.2.2.1 e1.2.2.2.2.2.2.2.2.2.2.2.2.2.2.2.2.1 (c.at_ 12 rfl rfl) e1.2.2.2.2.2.2.2.2.2.2.2.2.2.2.2.2.2.1 e1.2.2.2.2.2.2.2.2.2.2.2.2.2.2.2.2.2.2.1 e1.2.2.2.2.2.2.2.2.2.2.2.2.2.2.2.2.2.2.2.1 (c.at_ 13 rfl rfl) e1.2.2.2.2.2.2.2.2.2.2.2.2.2.2.2.2.2.2.2.2.1 e1.2.2.2.2.2.2.2.2.2.2.2.2.2.2.2.2.2.2.2.2.2.1 e1.2.2.2.2.2.2.2.2.2.2.2.2.2.2.2.2.2.2.2.2.2.2.1 (c.at_ 14 rfl rfl) e1.2.2.2.2.2.2.2.2.2.2.2.2.2.2.2.2.2.2.2.2.2.2.2.1 e1.2.2.2.2.2.2.2.2.2.2.2.2.2.2.2.2.2.2.2.2.2.2.2.2 e2.1 e2.2.1 (c.at_ 15 rfl rfl) e2.2.2.1 e2.2.2.2.1 e2.2.2.2.2.1 e2.2.2.2.2.2.1 e2.2.2.2.2.2.2.1 e2.2.2.2.2.2.2.2.1 (c.at_ 16 rfl rfl) e2.2.2.2.2.2.2.2.2.1 e2.2.2.2.2.2.2.2.2.2.1 e2.2.2.2.2.2.2.2.2.2.2.1 e2.2.2.2.2.2.2.2.2.2.2.2.1 e2.2.2.2.2.2.2.2.2.2.2.2.2.1 e2.2.2.2.2.2.2.2.2.2.2.2.2.2.1 (c.at_ 17 rfl rfl) e2.2.2.2.2.2.2.2.2.2.2.2.2.2.2.1 e2.2.2.2.2.2.2.2.2.2.2.2.2.2.2.2.1 e2.2.2.2.2.2.2.2.2.2.2.2.2.2.2.2.2.1 e2.2.2.2.2.2.2.2.2.2.2.2.2.2.2.2.2.2.1 e2.2.2.2.2.2.2.2.2.2.2.2.2.2.2.2.2.2.2.1 e2.2.2.2.2.2.2.2.2.2.2.2.2.2.2.2.2.2.2.2.1 (c.at_ 18 rfl rfl) e2.2.2.2.2.2.2.2.2.2.2.2.2.2.2.2.2.2.2.2.2.1 e2.2.2.2.2.2.2.2.2.2.2.2.2.2.2.2.2.2.2.2.2.2.1 e2.2.2.2.2.2.2.2.2.2.2.2.2.2.2.2.2.2.2.2.2.2.2.1 e2.2.2.2.2.2.2.2.2.2.2.2.2.2.2.2.2.2.2.2.2.2.2.2.1 e2.2.2.2.2.2.2.2.2.2.2.2.2.2.2.2.2.2.2.2.2.2.2.2.2 e3.1 (c.at_ 19 rfl rfl) e3.2.1 e3.2.2.1 e3.2.2.2.1 (c.at_ 20 rfl rfl) e3.2.2.2.2.1 e3.2.2.2.2.2.1 e3.2.2.2.2.2.2.1 e3.2.2.2.2.2.2.2.1 e3.2.2.2.2.2.2.2.2.1 e3.2.2.2.2.2.2.2.2.2.1 (c.at_ 21 rfl rfl) e3.2.2.2.2.2.2.2.2.2.2.1 e3.2.2.2.2.2.2.2.2.2.2.2.1 e3.2.2.2.2.2.2.2.2.2.2.2.2.1 (c.at_ 22 rfl rfl) e3.2.2.2.2.2.2.2.2.2.2.2.2.2.1 e3.2.2.2.2.2.2.2.2.2.2.2.2.2.2.1 e3.2.2.2.2.2.2.2.2.2.2.2.2.2.2.2.1 (c.at_ 23 rfl rfl) e3.2.2.2.2.2.2.2.2.2.2.2.2.2.2.2.2.1 e3.2.2.2.2.2.2.2.2.2.2.2.2.2.2.2.2.2.1 e3.2.2.2.2.2.2.2.2.2.2.2.2.2.2.2.2.2.2.1 (c.at_ 24 rfl rfl) e3.2.2.2.2.2.2.2.2.2.2.2.2.2.2.2.2.2.2.2.1 e3.2.2.2.2.2.2.2.2.2.2.2.2.2.2.2.2.2.2.2.2.1 e3.2.2.2.2.2.2.2.2.2.2.2.2.2.2.2.2.2.2.2.2.2.1 (c.at_ 25 rfl rfl) e3.2.2.2.2.2.2.2.2.2.2.2.2.2.2.2.2.2.2.2.2.2.2.1 e3.2.2.2.2.2.2.2.2.2.2.2.2.2.2.2.2.2.2.2.2.2.2.2.1 e3.2.2.2.2.2.2.2.2.2.2.2.2.2.2.2.2.2.2.2.2.2.2.2.2 (c.at_ 26 rfl rfl) e4.1 e4.2.1 e4.2.2.1 (c.at_ 27 rfl rfl) e4.2.2.2.1 e4.2.2.2.2.1 e4.2.2.2.2.2.1 e4.2.2.2.2.2.2.1 (c.at_ 28 rfl rfl) e4.2.2.2.2.2.2.2.1 e4.2.2.2.2.2.2.2.2.1 (c.at_ 29 rfl rfl) (by rfl) (c.at_ 30 rfl rfl) e4.2.2.2.2.2.2.2.2.2.1 (c.at_ 31 rfl rfl) e4.2.2.2.2.2.2.2.2.2.2.1 e4.2.2.2.2.2.2.2.2.2.2.2.1 e4.2.2.2.2.2.2.2.2.2.2.2.2.1 (c.at_ 32 rfl rfl) e4.2.2.2.2.2.2.2.2.2.2.2.2.2.1 e4.2.2.2.2.2.2.2.2.2.2.2.2.2.2.1 e4.2.2.2.2.2.2.2.2.2.2.2.2.2.2.2.1 e4.2.2.2.2.2.2.2.2.2.2.2.2.2.2.2.2.1 (c.at_ 33 rfl rfl) e4.2.2.2.2.2.2.2.2.2.2.2.2.2.2.2.2.2.1 e4.2.2.2.2.2.2.2.2.2.2.2.2.2.2.2.2.2.2.1 e4.2.2.2.2.2.2.2.2.2.2.2.2.2.2.2.2.2.2.2.1 e4.2.2.2.2.2.2.2.2.2.2.2.2.2.2.2.2.2.2.2.2.1 (c.at_ 34 rfl rfl) e4.2.2.2.2.2.2.2.2.2.2.2.2.2.2.2.2.2.2.2.2.2.1 e4.2.2.2.2.2.2.2.2.2.2.2.2.2.2.2.2.2.2.2.2.2.2.1 e4.2.2.2.2.2.2.2.2.2.2.2.2.2.2.2.2.2.2.2.2.2.2.2.1 e4.2.2.2.2.2.2.2.2.2.2.2.2.2.2.2.2.2.2.2.2.2.2.2.2 (c.at_ 35 rfl rfl) e5.1 e5.2.1 e5.2.2.1 (c.at_ 36 rfl rfl) e5.2.2.2.1 e5.2.2.2.2.1 e5.2.2.2.2.2.1 (c.at_ 37 rfl rfl) e5.2.2.2.2.2.2.1 e5.2.2.2.2.2.2.2.1 e5.2.2.2.2.2.2.2.2.1 e5.2.2.2.2.2.2.2.2.2.1 (c.at_ 38 rfl rfl) e5.2.2.2.2.2.2.2.2.2.2.1 e5.2.2.2.2.2.2.2.2.2.2.2.1 e5.2.2.2.2.2.2.2.2.2.2.2.2.1 e5.2.2.2.2.2.2.2.2.2.2.2.2.2.1 (c.at_ 39 rfl rfl) e5.2.2.2.2.2.2.2.2.2.2.2.2.2.2.1 e5.2.2.2.2.2.2.2.2.2.2.2.2.2.2.2.1 e5.2.2.2.2.2.2.2.2.2.2.2.2.2.2.2.2.1 (c.at_ 40 rfl rfl) e5.2.2.2.2.2.2.2.2.2.2.2.2.2.2.2.2.2.1 e5.2.2.2.2.2.2.2.2.2.2.2.2.2.2.2.2.2.2.1 e5.2.2.2.2.2.2.2.2.2.2.2.2.2.2.2.2.2.2.2.1 (by decide +kernel) e5.2.2.2.2.2.2.2.2.2.2.2.2.2.2.2.2.2.2.2.2.1 e5.2.2.2.2.2.2.2.2.2.2.2.2.2.2.2.2.2.2.2.2.2.1 e5.2.2.2.2.2.2.2.2.2.2.2.2.2.2.2.2.2.2.2.2.2.2.1 e5.2.2.2.2.2.2.2.2.2.2.2.2.2.2.2.2.2.2.2.2.2.2.2.1 e5.2.2.2.2.2.2.2.2.2.2.2.2.2.2.2.2.2.2.2.2.2.2.2.2 e6.1 (c.at_ 41 rfl rfl) e6.2.1 (c.at_ 42 rfl rfl) (by rfl) (by decide +kernel) (c.at_ 43 rfl rfl) e6.2.2.1 e6.2.2.2.1 e6.2.2.2.2.1 e6.2.2.2.2.2.1 e6.2.2.2.2.2.2.1 e6.2.2.2.2.2.2.2.1 e6.2.2.2.2.2.2.2.2.1 e6.2.2.2.2.2.2.2.2.2.1 e6.2.2.2.2.2.2.2.2.2.2.1 e6.2.2.2.2.2.2.2.2.2.2.2.1 e6.2.2.2.2.2.2.2.2.2.2.2.2.1 e6.2.2.2.2.2.2.2.2.2.2.2.2.2.1 e6.2.2.2.2.2.2.2.2.2.2.2.2.2.2.1 e6.2.2.2.2.2.2.2.2.2.2.2.2.2.2.2.1 e6.2.2.2.2.2.2.2.2.2.2.2.2.2.2.2.2.1 e6.2.2.2.2.2.2.2.2.2.2.2.2.2.2.2.2.2.1 (c.at_ 44 rfl rfl) e6.2.2.2.2.2.2.2.2.2.2.2.2.2.2.2.2.2.2.1 (c.at_ 45 rfl rfl) (by rfl) (by decide +kernel) (c.at_ 46 rfl rfl) e6.2.2.2.2.2.2.2.2.2.2.2.2.2.2.2.2.2.2.2.1 e6.2.2.2.2.2.2.2.2.2.2.2.2.2.2.2.2.2.2.2.2.1 e6.2.2.2.2.2.2.2.2.2.2.2.2.2.2.2.2.2.2.2.2.2.1 e6.2.2.2.2.2.2.2.2.2.2.2.2.2.2.2.2.2.2.2.2.2.2.1 e6.2.2.2.2.2.2.2.2.2.2.2.2.2.2.2.2.2.2.2.2.2.2.2.1 e6.2.2.2.2.2.2.2.2.2.2.2.2.2.2.2.2.2.2.2.2.2.2.2.2 e7.1 e7.2.1 e7.2.2.1 e7.2.2.2.1 e7.2.2.2.2.1 e7.2.2.2.2.2.1 e7.2.2.2.2.2.2.1 e7.2.2.2.2.2.2.2.1 e7.2.2.2.2.2.2.2.2.1 e7.2.2.2.2.2.2.2.2.2.1 (c.at_ 47 rfl rfl) e7.2.2.2.2.2.2.2.2.2.2.1 (c.at_ 48 rfl rfl) (by rfl) (by decide +kernel) (c.at_ 49 rfl rfl) e7.2.2.2.2.2.2.2.2.2.2.2.1 e7.2.2.2.2.2.2.2.2.2.2.2.2.1 e7.2.2.2.2.2.2.2.2.2.2.2.2.2.1 e7.2.2.2.2.2.2.2.2.2.2.2.2.2.2.1 e7.2.2.2.2.2.2.2.2.2.2.2.2.2.2.2.1 e7.2.2.2.2.2.2.2.2.2.2.2.2.2.2.2.2.1 e7.2.2.2.2.2.2.2.2.2.2.2.2.2.2.2.2.2.1 e7.2.2.2.2.2.2.2.2.2.2.2.2.2.2.2.2.2.2.1 e7.2.2.2.2.2.2.2.2.2.2.2.2.2.2.2.2.2.2.2.1 e7.2.2.2.2.2.2.2.2.2.2.2.2.2.2.2.2.2.2.2.2.1 e7.2.2.2.2.2.2.2.2.2.2.2.2.2.2.2.2.2.2.2.2.2.1 e7.2.2.2.2.2.2.2.2.2.2.2.2.2.2.2.2.2.2.2.2.2.2.1 e7.2.2.2.2.2.2.2.2.2.2.2.2.2.2.2.2.2.2.2.2.2.2.2.1 e7.2.2.2.2.2.2.2.2.2.2.2.2.2.2.2.2.2.2.2.2.2.2.2.2 e8.1 e8.2.1 e8.2.2.1 e8.2.2.2.1 e8.2.2.2.2.1 e8.2.2.2.2.2.1 e8.2.2.2.2.2.2.1 (c.at_ 50 rfl rfl) (by decide) (by rfl) e8.2.2.2.2.2.2.2.1 e8.2.2.2.2.2.2.2.2.1 e8.2.2.2.2.2.2.2.2.2.1 e8.2.2.2.2.2.2.2.2.2.2.1 e8.2.2.2.2.2.2.2.2.2.2.2.1 e8.2.2.2.2.2.2.2.2.2.2.2.2.1 e8.2.2.2.2.2.2.2.2.2.2.2.2.2.1 e8.2.2.2.2.2.2.2.2.2.2.2.2.2.2.1 e8.2.2.2.2.2.2.2.2.2.2.2.2.2.2.2.1 e8.2.2.2.2.2.2.2.2.2.2.2.2.2.2.2.2.1 e8.2.2.2.2.2.2.2.2.2.2.2.2.2.2.2.2.2.1 e8.2.2.2.2.2.2.2.2.2.2.2.2.2.2.2.2.2.2.1 e8.2.2.2.2.2.2.2.2.2.2.2.2.2.2.2.2.2.2.2.1 e8.2.2.2.2.2.2.2.2.2.2.2.2.2.2.2.2.2.2.2.2.1 e8.2.2.2.2.2.2.2.2.2.2.2.2.2.2.2.2.2.2.2.2.2.1 e8.2.2.2.2.2.2.2.2.2.2.2.2.2.2.2.2.2.2.2.2.2.2.1 e8.2.2.2.2.2.2.2.2.2.2.2.2.2.2.2.2.2.2.2.2.2.2.2.1 e8.2.2.2.2.2.2.2.2.2.2.2.2.2.2.2.2.2.2.2.2.2.2.2.2 e9.1 e9.2.1 e9.2.2.1 e9.2.2.2.1 e9.2.2.2.2.1 e9.2.2.2.2.2.1 e9.2.2.2.2.2.2.1 e9.2.2.2.2.2.2.2.1 e9.2.2.2.2.2.2.2.2.1 e9.2.2.2.2.2.2.2.2.2.1 e9.2.2.2.2.2.2.2.2.2.2.1 e9.2.2.2.2.2.2.2.2.2.2.2.1 e9.2.2.2.2.2.2.2.2.2.2.2.2.1 e9.2.2.2.2.2.2.2.2.2.2.2.2.2.1 e9.2.2.2.2.2.2.2.2.2.2.2.2.2.2.1 e9.2.2.2.2.2.2.2.2.2.2.2.2.2.2.2.1 e9.2.2.2.2.2.2.2.2.2.2.2.2.2.2.2.2.1 e9.2.2.2.2.2.2.2.2.2.2.2.2.2.2.2.2.2.1 e9.2.2.2.2.2.2.2.2.2.2.2.2.2.2.2.2.2.2.1 e9.2.2.2.2.2.2.2.2.2.2.2.2.2.2.2.2.2.2.2.1 e9.2.2.2.2.2.2.2.2.2.2.2.2.2.2.2.2.2.2.2.2.1 e9.2.2.2.2.2.2.2.2.2.2.2.2.2.2.2.2.2.2.2.2.2.1 e9.2.2.2.2.2.2.2.2.2.2.2.2.2.2.2.2.2.2.2.2.2.2.1 e9.2.2.2.2.2.2.2.2.2.2.2.2.2.2.2.2.2.2.2.2.2.2.2.1 e9.2.2.2.2.2.2.2.2.2.2.2.2.2.2.2.2.2.2.2.2.2.2.2.2 e10.1 e10.2.1 e10.2.2.1 e10.2.2.2.1 e10.2.2.2.2.1 e10.2.2.2.2.2.1 e10.2.2.2.2.2.2.1 e10.2.2.2.2.2.2.2.1 e10.2.2.2.2.2.2.2.2.1 e10.2.2.2.2.2.2.2.2.2.1 e10.2.2.2.2.2.2.2.2.2.2.1 e10.2.2.2.2.2.2.2.2.2.2.2.1 e10.2.2.2.2.2.2.2.2.2.2.2.2.1 e10.2.2.2.2.2.2.2.2.2.2.2.2.2.1 e10.2.2.2.2.2.2.2.2.2.2.2.2.2.2.1 e10.2.2.2.2.2.2.2.2.2.2.2.2.2.2.2.1 e10.2.2.2.2.2.2.2.2.2.2.2.2.2.2.2.2.1 e10.2.2.2.2.2.2.2.2.2.2.2.2.2.2.2.2.2.1 e10.2.2.2.2.2.2.2.2.2.2.2.2.2.2.2.2.2.2.1 e10.2.2.2.2.2.2.2.2.2.2.2.2.2.2.2.2.2.2.2.1 e10.2.2.2.2.2.2.2.2.2.2.2.2.2.2.2.2.2.2.2.2.1 e10.2.2.2.2.2.2.2.2.2.2.2.2.2.2.2.2.2.2.2.2.2.1 e10.2.2.2.2.2.2.2.2.2.2.2.2.2.2.2.2.2.2.2.2.2.2.1 e10.2.2.2.2.2.2.2.2.2.2.2.2.2.2.2.2.2.2.2.2.2.2.2.1 e10.2.2.2.2.2.2.2.2.2.2.2.2.2.2.2.2.2.2.2.2.2.2.2.2 e11.1 e11.2.1 e11.2.2.1 e11.2.2.2.1 e11.2.2.2.2.1 e11.2.2.2.2.2.1 e11.2.2.2.2.2.2.1 e11.2.2.2.2.2.2.2.1 e11.2.2.2.2.2.2.2.2.1 e11.2.2.2.2.2.2.2.2.2.1 e11.2.2.2.2.2.2.2.2.2.2.1 e11.2.2.2.2.2.2.2.2.2.2.2.1 e11.2.2.2.2.2.2.2.2.2.2.2.2.1 e11.2.2.2.2.2.2.2.2.2.2.2.2.2.1 e11.2.2.2.2.2.2.2.2.2.2.2.2.2.2.1 e11.2.2.2.2.2.2.2.2.2.2.2.2.2.2.2.1 e11.2.2.2.2.2.2.2.2.2.2.2.2.2.2.2.2.1 e11.2.2.2.2.2.2.2.2.2.2.2.2.2.2.2.2.2.1 e11.2.2.2.2.2.2.2.2.2.2.2.2.2.2.2.2.2.2.1 e11.2.2.2.2.2.2.2.2.2.2.2.2.2.2.2.2.2.2.2.1 e11.2.2.2.2.2.2.2.2.2.2.2.2.2.2.2.2.2.2.2.2.1 e11.2.2.2.2.2.2.2.2.2.2.2.2.2.2.2.2.2.2.2.2.2.1 e11.2.2.2.2.2.2.2.2.2.2.2.2.2.2.2.2.2.2.2.2.2.2.1 e11.2.2.2.2.2.2.2.2.2.2.2.2.2.2.2.2.2.2.2.2.2.2.2.1 e11.2.2.2.2.2.2.2.2.2.2.2.2.2.2.2.2.2.2.2.2.2.2.2.2 e12.1 e12.2.1 e12.2.2.1 e12.2.2.2.1 e12.2.2.2.2.1 e12.2.2.2.2.2.1 e12.2.2.2.2.2.2.1 e12.2.2.2.2.2.2.2.1 e12.2.2.2.2.2.2.2.2.1 e12.2.2.2.2.2.2.2.2.2.1 e12.2.2.2.2.2.2.2.2.2.2.1 e12.2.2.2.2.2.2.2.2.2.2.2.1 e12.2.2.2.2.2.2.2.2.2.2.2.2.1 e12.2.2.2.2.2.2.2.2.2.2.2.2.2.1 e12.2.2.2.2.2.2.2.2.2.2.2.2.2.2.1 e12.2.2.2.2.2.2.2.2.2.2.2.2.2.2.2.1 e12.2.2.2.2.2.2.2.2.2.2.2.2.2.2.2.2.1 e12.2.2.2.2.2.2.2.2.2.2.2.2.2.2.2.2.2.1 e12.2.2.2.2.2.2.2.2.2.2.2.2.2.2.2.2.2.2
