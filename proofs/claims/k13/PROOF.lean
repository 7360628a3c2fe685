import PyProof.Rows.All
import Wide.All
import OpenK.AllK
import Wide.FinOn
import HandS.ForMost
import HandS.ForExc
import HandS.Slots
import HandS.SlotsOwn
import HandS.Zip
import HandS.Lambda
import HandS.ExcInit
import HandS.TupAny
import HandS.TupMul
import HandS.TupLe
import HandS.IsInst
import HandS.Wide
import HandS.Flow
import HandS.Deep
import HandS.Star
import HandS.ClsMeth
import KE.KOpsOwn
import HandS.EndTab
import KE.KEqDeep
import HandS.ExcSuper
import HandS.ExcField
import KE.KExcSuper
import HandS.TryMany
import HandS.RaiseMore
import HandS.Dict
import HandS.Text
import HandS.ExcIs
import HandS.SetFor
import HandS.Strs
import KE.GoesMore
import HandS.Style
import HandS.Small
import HandS.Iter
import PyProof.StrBlock2
import KE.KExcIs
import HandS.MakeKwOnly
import HandS.ExcValue
import KE.DataMinMax
import HandS.Conv
import KE.SortKeyHeap
import HandS.SortKw
import HandS.Defaults
import HandS.Head0
import HandS.Head1
import HandS.Head2
import HandS.HeadHook1
import PySem.Challenge.RW_leastreads_k13_prices_of_reads
set_option Elab.async false
set_option linter.all false
set_option maxRecDepth 100000
set_option maxHeartbeats 4000000
namespace DL
open PySem L2
inductive D where
  | non | bl (b : Bool) | int (i : Int) | str (s : Str)
  | lst (xs : List D) | tup (xs : List D) | loc (n : Nat) | obj (c : Nat) (xs : List D) | cls (c : Nat)
  | dct (ks : List Key) (xs : List D) | fdc (ks : List Key) (xs : List D) | err (c : Nat) (xs : List D)
inductive Cell where
  | lst (xs : List D)
  | ins (c : Nat) (xs : List (Option D))
  | dct (ks : List Key) (xs : List D)
abbrev Store := List (Option Cell)
abbrev Lam := List (Addr × Addr)
abbrev DEnv := List (Option D)
inductive Res (α : Type) where
  | ok (a : α) (m : Store)
  | exn (c : Nat) (fs : List D) (m : Store)
  | bad
def M (α : Type) : Type := Store → Res α
def M.pure {α : Type} (a : α) : M α := fun m => .ok a m
def M.bind {α β : Type} (x : M α) (f : α → M β) : M β := fun m =>
  match x m with
  | .ok a m' => f a m'
  | .exn c fs m' => .exn c fs m'
  | .bad => .bad
def M.bad {α : Type} : M α := fun _ => .bad
def M.exn {α : Type} (c : Nat) (fs : List D) : M α := fun m => .exn c fs m
instance : Monad M where
  pure := M.pure
  bind := M.bind
/-- the law's constants: where each class stands, the fields of each error class -/
structure Kx where
  cl : Nat → Addr
  xf : Nat → List Str
  tb : List (Addr × Str) := []
mutual
inductive Rp (k : Kx) (K : PySem.W.Frag) (G : Hp) (L : Lam) : V → D → Prop
  | non : Rp k K G L .non .non
  | bl (b : Bool) : Rp k K G L (.bl b) (.bl b)
  | int (i : Int) : Rp k K G L (.int i) (.int i)
  | str (x : Str) : Rp k K G L (.str x) (.str x)
  | lst {a : Addr} {xs : List V} {ds : List D} : SqL K G a xs → RpA k K G L xs ds → Rp k K G L (.ref a) (.lst ds)
  | tup {a : Addr} {xs : List V} {ds : List D} : SqT K G a xs → RpA k K G L xs ds → Rp k K G L (.ref a) (.tup ds)
  | loc {n : Nat} {a b : Addr} : L[n]? = some (a, b) → Rp k K G L (.ref a) (.loc n)
  | cls (c : Nat) : Rp k K G L (.ref (k.cl c)) (.cls c)
  | dct {ks : List Key} {a : Addr} {vs : List V} {ds : List D} : G a = some (.dK (ks.zip vs)) → ks.length = vs.length → RpA k K G L vs ds → Rp k K G L (.ref a) (.dct ks ds)
  | fdc {ks : List Key} {a : Addr} {o : Obj} {vs : List V} {ds : List D} : G a = some (.frz o (.dK (ks.zip vs))) → ks.length = vs.length → RpA k K G L vs ds → Rp k K G L (.ref a) (.fdc ks ds)
  | err {c : Nat} {a dx : Addr} {vs : List V} {ds : List D} : G a = some (exo a (k.cl c) (some dx)) → G dx = some (exd dx ((k.xf c).zip vs)) → (k.xf c).length = vs.length → RpA k K G L vs ds → Rp k K G L (.ref a) (.err c ds)
  | err0 {c : Nat} {a : Addr} : k.xf c = [] → G a = some (exo a (k.cl c) none) → Rp k K G L (.ref a) (.err c [])
  | obj {c : Nat} {a dx : Addr} {vs : List V} {ds : List D} : SlX.Slt G a (k.cl c) dx (vs.map some) → RpA k K G L vs ds → Rp k K G L (.ref a) (.obj c ds)
inductive RpA (k : Kx) (K : PySem.W.Frag) (G : Hp) (L : Lam) : List V → List D → Prop
  | nil : RpA k K G L [] []
  | cons {v : V} {vs : List V} {d : D} {ds : List D} : Rp k K G L v d → RpA k K G L vs ds → RpA k K G L (v :: vs) (d :: ds)
end
section
variable {k : Kx} {K : PySem.W.Frag} {G G' : Hp} {L L' : Lam}
theorem sqT_mono {H H' : Hp} {a : Addr} {xs : List V} (e : Same H H') (h : SqT K H a xs) : SqT K H' a xs := by
  rcases h with (h | ⟨o, h⟩) | h
  · exact .inl (.inl (e _ _ h))
  · exact .inl (.inr ⟨o, e _ _ h⟩)
  · exact .inr h
theorem slt_mono {H H' : Hp} {a C dx : Addr} {vs : List (Option V)} (e : Same H H') (h : SlX.Slt H a C dx vs) : SlX.Slt H' a C dx vs := by
  rcases h with ⟨h1, h2⟩ | ⟨h1, h2⟩
  · exact .inl ⟨e _ _ h1, h2⟩
  · exact .inr ⟨e _ _ h1, e _ _ h2⟩
theorem pre_get {α : Type} {l l' : List α} {n : Nat} {x : α} (p : l <+: l') (h : l[n]? = some x) : l'[n]? = some x := by
  obtain ⟨t, rfl⟩ := p
  rw [List.getElem?_append_left (List.getElem?_eq_some_iff.mp h).1]
  exact h
mutual
theorem Rp.mono (e : Same G G') (l : L <+: L') : ∀ (d : D) (v : V), Rp k K G L v d → Rp k K G' L' v d
  | .non, _, h => by cases h; exact .non
  | .bl b, _, h => by cases h; exact .bl b
  | .int i, _, h => by cases h; exact .int i
  | .str i, _, h => by cases h; exact .str i
  | .lst ds, _, h => by
    cases h with
    | lst hs ha => exact .lst (e.seq hs) (RpA.mono e l ds _ ha)
  | .tup ds, _, h => by
    cases h with
    | tup hs ha => exact .tup (sqT_mono e hs) (RpA.mono e l ds _ ha)
  | .loc n, _, h => by
    cases h with
    | loc hn => exact .loc (pre_get l hn)
  | .obj c ds, _, h => by
    cases h with
    | obj hs ha => exact .obj (slt_mono e hs) (RpA.mono e l ds _ ha)
  | .cls c, _, h => by cases h; exact .cls c
  | .dct ks ds, _, h => by
    cases h with
    | dct hs hl ha => exact .dct (e _ _ hs) hl (RpA.mono e l ds _ ha)
  | .fdc ks ds, _, h => by
    cases h with
    | fdc hs hl ha => exact .fdc (e _ _ hs) hl (RpA.mono e l ds _ ha)
  | .err c ds, _, h => by
    cases h with
    | err h1 h2 hl ha => exact .err (e _ _ h1) (e _ _ h2) hl (RpA.mono e l ds _ ha)
    | err0 h0 h1 => exact .err0 h0 (e _ _ h1)
theorem RpA.mono (e : Same G G') (l : L <+: L') : ∀ (ds : List D) (vs : List V), RpA k K G L vs ds → RpA k K G' L' vs ds
  | [], _, h => by cases h; exact .nil
  | d :: ds, _, h => by
    cases h with
    | cons h1 h2 => exact .cons (Rp.mono e l d _ h1) (RpA.mono e l ds _ h2)
end
theorem RpA.len : ∀ {vs : List V} {ds : List D}, RpA k K G L vs ds → vs.length = ds.length
  | [], _, h => by cases h; rfl
  | v :: vs, _, h => by
    cases h with
    | cons _ h2 => simp [h2.len]
theorem RpA.get : ∀ {vs : List V} {ds : List D} {i : Nat} {d : D}, RpA k K G L vs ds → ds[i]? = some d → ∃ v, vs[i]? = some v ∧ Rp k K G L v d
  | _, [], _, _, h, e => by simp at e
  | _, d :: ds, 0, _, h, e => by
    cases h with
    | cons h1 _ => simp at e; subst e; exact ⟨_, rfl, h1⟩
  | _, d :: ds, i + 1, _, h, e => by
    cases h with
    | cons _ h2 =>
      obtain ⟨v, e1, e2⟩ := RpA.get (i := i) h2 (by simpa using e)
      exact ⟨v, by simpa using e1, e2⟩
theorem RpA.get2 : ∀ {vs : List V} {ds : List D} {i : Nat} {v : V}, RpA k K G L vs ds → vs[i]? = some v → ∃ d, ds[i]? = some d ∧ Rp k K G L v d
  | [], _, _, _, h, e => by simp at e
  | v :: vs, _, 0, _, h, e => by
    cases h with
    | cons h1 _ => simp at e; subst e; exact ⟨_, rfl, h1⟩
  | v :: vs, _, i + 1, _, h, e => by
    cases h with
    | cons _ h2 =>
      obtain ⟨d, e1, e2⟩ := RpA.get2 (i := i) h2 (by simpa using e)
      exact ⟨d, by simpa using e1, e2⟩
theorem RpA.append : ∀ {vs ws : List V} {ds es : List D}, RpA k K G L vs ds → RpA k K G L ws es → RpA k K G L (vs ++ ws) (ds ++ es)
  | [], _, _, _, h, h' => by cases h; exact h'
  | _ :: _, _, _, _, h, h' => by
    cases h with
    | cons h1 h2 => exact .cons h1 (h2.append h')
theorem RpA.take : ∀ (n : Nat) {vs : List V} {ds : List D}, RpA k K G L vs ds → RpA k K G L (vs.take n) (ds.take n)
  | 0, _, _, _ => .nil
  | n + 1, [], _, h => by cases h; exact .nil
  | n + 1, _ :: _, _, h => by
    cases h with
    | cons h1 h2 => exact .cons h1 (h2.take n)
theorem RpA.drop : ∀ (n : Nat) {vs : List V} {ds : List D}, RpA k K G L vs ds → RpA k K G L (vs.drop n) (ds.drop n)
  | 0, _, _, h => h
  | n + 1, [], _, h => by cases h; exact .nil
  | n + 1, _ :: _, _, h => by
    cases h with
    | cons h1 h2 => exact h2.drop n
theorem RpA.set : ∀ (n : Nat) {vs : List V} {ds : List D} {v : V} {d : D}, RpA k K G L vs ds → Rp k K G L v d → RpA k K G L (vs.set n v) (ds.set n d)
  | _, [], _, _, _, h, _ => by cases h; exact .nil
  | 0, _ :: _, _, _, _, h, hv => by
    cases h with
    | cons h1 h2 => exact .cons hv h2
  | n + 1, _ :: _, _, _, _, h, hv => by
    cases h with
    | cons h1 h2 => exact .cons h1 (h2.set n hv)
end
/-- no table of code objects -/
def NT (o : HO) : Prop := ∀ ps, o ≠ .tbl ps
/-- neither a table nor a code object -/
def NC (o : HO) : Prop := NT o ∧ ∀ c q, o ≠ LamX.CodeO c q
/-- nothing is tracked there, but a table, perhaps -/
def Bare (H : Hp) (a : Addr) : Prop := ∀ o, H a = some o → ¬ NT o
theorem bare_none {H : Hp} {a : Addr} (h : H a = none) : Bare H a := fun o e => by
  rw [h] at e
  cases e
theorem ne_of_bare {H : Hp} {a b : Addr} {o : HO} (h : H a = some o) (n : NT o) (q : Bare H b) : a ≠ b := fun e => by
  subst e
  exact q o h n
theorem tabs_upd {T : List (Addr × Str)} {H : Hp} {p : Addr} {o : HO} (t : LamX.Tabs T H) (h : ∀ u, H p = some u → NC u) : LamX.Tabs T (upd H p o) := fun q hq => by
  obtain ⟨ps, h1, h2, h3⟩ := t q hq
  have ne : ∀ {b : Addr} {u : HO}, H b = some u → ¬ NC u → b ≠ p := fun {b u} e n z => by
    subst z
    exact n (h u e)
  refine ⟨ps, by rw [upd_ne (ne h1 fun z => z.1 ps rfl)]; exact h1, h2, fun pos cv hc => ?_⟩
  obtain ⟨c, e1, e2⟩ := h3 pos cv hc
  exact ⟨c, e1, by rw [upd_ne (ne e2 fun z => z.2 _ _ rfl)]; exact e2⟩
theorem nc_none {H : Hp} {p : Addr} (h : H p = none) : ∀ u, H p = some u → NC u := fun u e => by
  rw [h] at e
  cases e
theorem nc_lst (vs : List V) : NC (.lst vs) := ⟨fun _ e => (by cases e), fun c q e => (by unfold LamX.CodeO at e; cases e)⟩
theorem nc_ins (a b : Addr) (fs : List (Str × V)) : NC (.ins a b fs) := ⟨fun _ e => (by cases e), fun c q e => (by unfold LamX.CodeO at e; cases e)⟩
theorem nc_own (a : Addr) : NC (.own a) := ⟨fun _ e => (by cases e), fun c q e => (by unfold LamX.CodeO at e; cases e)⟩
theorem nc_xd (fs : List (Str × V)) : NC (.xd fs) := ⟨fun _ e => (by cases e), fun c q e => (by unfold LamX.CodeO at e; cases e)⟩
theorem nc_at {H : Hp} {p : Addr} {o : HO} (h : H p = some o) (n : NC o) : ∀ u, H p = some u → NC u := fun u e => by
  rw [h] at e
  cases e
  exact n
/-- a heap with the same object everywhere up to n -/
def fillH (o : Obj) (n : Nat) : Heap := ⟨Array.replicate n o, {}⟩
theorem fillH_get {o : Obj} {n b : Nat} {u : Obj} (e : (fillH o n).get? b = some u) : u = o := by
  unfold fillH Heap.get? at e
  by_cases hb : b < n
  · simp only [Array.getElem?_replicate, hb, if_true] at e
    split at e
    · cases e
    · exact (Option.some.inj e).symm
  · simp only [Array.getElem?_replicate, hb, if_false] at e
    cases e
theorem fillH_at {cl : Value} {vs : Array Value} {n b : Nat} (hb : b < n) : (fillH ({ cls := cl, data := .fields vs } : Obj) n).get? b = some ({ cls := cl, data := .fields vs } : Obj) := by
  unfold fillH Heap.get?
  simp only [Array.getElem?_replicate, hb, if_true]
theorem nc_slO (a C dx : Addr) (vs : List (Option V)) : NC (SlX.SlO a C dx vs) := by
  refine ⟨fun _ e => (by unfold SlX.SlO at e; cases e), fun c q e => ?_⟩
  unfold SlX.SlO LamX.CodeO at e
  have e2 := HO.ext.inj e
  have h2 := congrFun e2 (fillH { cls := .none, data := .fields #[.none, .str q 0] } (c + 1))
  have h3 : ∃ sl : Array (Option Value), (fillH { cls := .none, data := .fields #[.none, .str q 0] } (c + 1)).get? a = some { PySem.W.instObj C dx with slots := sl } ∧ SlX.SlR vs sl := by
    rw [h2]
    exact ⟨_, #[.none, .str q 0], 0, fillH_at (Nat.lt_succ_self c), rfl, rfl⟩
  obtain ⟨sl, h4, _⟩ := h3
  have h5 := fillH_get h4
  have h6 := congrArg Obj.data h5
  cases h6
def RpO (k : Kx) (K : PySem.W.Frag) (G : Hp) (L : Lam) (vs : List (Option V)) (ss : List (Option D)) : Prop :=
  vs.length = ss.length ∧ ∀ (i : Nat) (d : D), ss[i]? = some (some d) → ∃ v, vs[i]? = some (some v) ∧ Rp k K G L v d
def CellR (k : Kx) (K : PySem.W.Frag) (G H : Hp) (L : Lam) (a b : Addr) : Cell → Prop
  | .lst ds => b = a ∧ ∃ vs, H a = some (.lst vs) ∧ RpA k K G L vs ds
  | .ins c ss => ∃ vs, SlX.Slt H a (k.cl c) b vs ∧ RpO k K G L vs ss ∧ (∃ o, H b = some o ∧ NC o) ∧ a ≠ b
  | .dct ks ds => b = a ∧ ∃ vs, H a = some (.dK (ks.zip vs)) ∧ ks.length = vs.length ∧ RpA k K G L vs ds
def Live (m : Store) (n : Nat) : Prop := ∃ c, m[n]? = some (some c)
structure Wd (k : Kx) (K : PySem.W.Frag) (G H : Hp) (L : Lam) (m : Store) : Prop where
  ext : Same G H
  len : L.length = m.length
  tk : ∀ p ∈ L, (∃ o, H p.1 = some o ∧ NT o) ∧ ∃ o, H p.2 = some o ∧ NT o
  tab : LamX.Tabs k.tb H
  gt : ∀ a o, G a = some o → NT o
  cell : ∀ (n : Nat) (c : Cell), m[n]? = some (some c) → ∃ a b, L[n]? = some (a, b) ∧ G a = none ∧ G b = none ∧ CellR k K G H L a b c
  apart : ∀ (i j : Nat) (a b a' b' : Addr), Live m i → Live m j → i ≠ j → L[i]? = some (a, b) → L[j]? = some (a', b') → a ≠ a' ∧ a ≠ b' ∧ b ≠ a' ∧ b ≠ b'
/-- an error's own dict, by its fields -/
def XR (k : Kx) (K : PySem.W.Frag) (G : Hp) (L : Lam) (c : Nat) (fs : List D) (d : Addr) : Prop :=
  ∃ gs : List V, gs.length = (k.xf c).length ∧ G d = some (.xd ((k.xf c).zip gs)) ∧ RpA k K G L gs fs
/-- a step of the world: data grow, locations are added, all else that stands stays and stays out of the data -/
structure Stp (G H : Hp) (L : Lam) (G' H' : Hp) (L' : Lam) : Prop where
  g : Same G G'
  l : L <+: L'
  tr : ∀ a, Bare H' a → Bare H a
  keep : ∀ a o, H a = some o → NT o → (∀ p ∈ L, a ≠ p.1 ∧ a ≠ p.2) → H' a = some o ∧ (G a = none → G' a = none)
  nl : ∀ p ∈ L', p ∈ L ∨ (Bare H p.1 ∧ Bare H p.2)
theorem Stp.refl (G H : Hp) (L : Lam) : Stp G H L G H L := ⟨Same.refl G, List.prefix_rfl, fun _ h => h, fun a o h _ _ => ⟨h, id⟩, fun p h => .inl h⟩
theorem Stp.trans {G H G1 H1 G2 H2 : Hp} {L L1 L2 : Lam} (a : Stp G H L G1 H1 L1) (b : Stp G1 H1 L1 G2 H2 L2) : Stp G H L G2 H2 L2 where
  g := a.g.trans b.g
  l := a.l.trans b.l
  tr := fun x h => a.tr x (b.tr x h)
  keep := fun x o h nt n => by
    obtain ⟨h1, g1⟩ := a.keep x o h nt n
    obtain ⟨h2, g2⟩ := b.keep x o h1 nt fun p hp => by
      rcases a.nl p hp with q | ⟨q1, q2⟩
      · exact n p q
      · exact ⟨ne_of_bare h nt q1, ne_of_bare h nt q2⟩
    exact ⟨h2, fun q => g2 (g1 q)⟩
  nl := fun p hp => by
    rcases b.nl p hp with q | ⟨q1, q2⟩
    · exact a.nl p q
    · exact .inr ⟨a.tr _ q1, a.tr _ q2⟩
def Good {α : Type} (k : Kx) (K : PySem.W.Frag) (E : XK) (G H : Hp) (L : Lam) (r : Res α) (Q : α → Store → Hp → Hp → Lam → Prop) : Prop :=
  match r with
  | .ok a m => ∀ G' H' L', Stp G H L G' H' L' → Wd k K G' H' L' m → Q a m G' H' L'
  | .exn c fs m => ∀ G' H' L' d, Stp G H L G' H' L' → Wd k K G' H' L' m → XR k K G' L' c fs d → E (.ref (k.cl c)) (some d) H'
  | .bad => False
section
variable {k : Kx} {K : PySem.W.Frag} {E : XK} {G H : Hp} {L : Lam} {α β : Type}
theorem pre_refl (l : List α) : l <+: l := List.prefix_rfl
theorem Good.mono {r : Res α} {Q Q' : α → Store → Hp → Hp → Lam → Prop} (h : Good k K E G H L r Q) (q : ∀ a m G' H' L', Stp G H L G' H' L' → Wd k K G' H' L' m → Q a m G' H' L' → Q' a m G' H' L') : Good k K E G H L r Q' := by
  cases r with
  | ok a m => exact fun G' H' L' e w => q a m G' H' L' e w (h G' H' L' e w)
  | exn c fs m => exact h
  | bad => exact h
theorem Good.up {G0 H0 : Hp} {L0 : Lam} {r : Res α} {Q : α → Store → Hp → Hp → Lam → Prop} (h : Good k K E G0 H0 L0 r Q) (e : Stp G0 H0 L0 G H L) : Good k K E G H L r Q := by
  cases r with
  | ok a m => exact fun G' H' L' e' w => h G' H' L' (e.trans e') w
  | exn c fs m => exact fun G' H' L' d e' w x => h G' H' L' d (e.trans e') w x
  | bad => exact h
theorem Good.bind {x : M α} {f : α → M β} {m : Store} {Q : β → Store → Hp → Hp → Lam → Prop} (h : Good k K E G H L ((x >>= f) m) Q) :
    Good k K E G H L (x m) (fun a m' G' H' L' => Good k K E G' H' L' (f a m') Q) := by
  have h' : Good k K E G H L (M.bind x f m) Q := h
  unfold M.bind at h'
  cases e : x m with
  | ok a m' =>
    rw [e] at h'
    exact fun G' H' L' e1 w => Good.up h' e1
  | exn c fs m' =>
    rw [e] at h'
    exact h'
  | bad =>
    rw [e] at h'
    exact h'
theorem Good.ret {a : α} {m : Store} {Q : α → Store → Hp → Hp → Lam → Prop} (h : Good k K E G H L ((pure a : M α) m) Q) (w : Wd k K G H L m) : Q a m G H L :=
  h G H L (Stp.refl G H L) w
theorem Good.okE {a : α} {m : Store} {Q : α → Store → Hp → Hp → Lam → Prop} (h : Good k K E G H L (.ok a m) Q) (w : Wd k K G H L m) : Q a m G H L :=
  h G H L (Stp.refl G H L) w
end
def Sg (k : Kx) (K : PySem.W.Frag) (G : Hp) (L : Lam) (s : L2.St) (e : DEnv) : Prop :=
  s.length = e.length ∧ ∀ (i : Nat) (d : D), e[i]? = some (some d) → ∃ v, s[i]? = some (some v) ∧ Rp k K G L v d
section
variable {k : Kx} {K : PySem.W.Frag} {G G' : Hp} {L L' : Lam} {s : L2.St} {e : DEnv}
theorem Sg.mono (h : Sg k K G L s e) (g : Same G G') (l : L <+: L') : Sg k K G' L' s e :=
  ⟨h.1, fun i d q => let ⟨v, a, b⟩ := h.2 i d q; ⟨v, a, Rp.mono g l _ _ b⟩⟩
theorem Sg.set (h : Sg k K G L s e) (i : Nat) {v : V} {d : D} (r : Rp k K G L v d) : Sg k K G L (s.set i (some v)) (e.set i (some d)) := by
  refine ⟨by rw [List.length_set, List.length_set]; exact h.1, fun j d' q => ?_⟩
  by_cases hj : i = j
  · subst hj
    by_cases hi : i < e.length
    · rw [List.getElem?_set_self hi] at q
      cases q
      exact ⟨v, by rw [List.getElem?_set_self (by rw [h.1]; exact hi)], r⟩
    · rw [List.getElem?_eq_none (by simpa using hi)] at q
      cases q
  · rw [List.getElem?_set_ne hj] at q
    obtain ⟨v', a, b⟩ := h.2 j d' q
    exact ⟨v', by rw [List.getElem?_set_ne hj]; exact a, b⟩
end
inductive Out where
  | nx (e : DEnv) | rt (d : D) | bk (e : DEnv) | ct (e : DEnv)
section
variable (k : Kx) (K : PySem.W.Frag) (E : XK)
def dE (m : DEnv → M D) : TE := fun s H Q => ∃ e G L μ, Sg k K G L s e ∧ Wd k K G H L μ ∧ Good k K E G H L (m e μ) fun d _ G' H' L' => ∀ v, Rp k K G' L' v d → Q v H'
def dT (m : DEnv → M Bool) : TT := fun s H Q => ∃ e G L μ, Sg k K G L s e ∧ Wd k K G H L μ ∧ Good k K E G H L (m e μ) fun b _ _ H' _ => Q b H'
def dA (m : DEnv → M (List D)) : TA := fun s H Q => ∃ e G L μ, Sg k K G L s e ∧ Wd k K G H L μ ∧ Good k K E G H L (m e μ) fun ds _ G' H' L' => ∀ vs, RpA k K G' L' vs ds → Q vs H'
def OutOk (Ds : Ends) (o : Out) (G H : Hp) (L : Lam) : Prop :=
  match o with
  | .nx e => ∀ s, Sg k K G L s e → Ds.nx s H
  | .rt d => ∀ v, Rp k K G L v d → Ds.rt v H
  | .bk e => ∀ s, Sg k K G L s e → Ds.bk s H
  | .ct e => ∀ s, Sg k K G L s e → Ds.ct s H
def dS (m : DEnv → M Out) : TS := fun Ds s H => ∃ e G L μ, Sg k K G L s e ∧ Wd k K G H L μ ∧ Good k K E G H L (m e μ) fun o _ G' H' L' => OutOk k K Ds o G' H' L'
/-- a target: d is handed in; ts: the slots that it may store to -/
def dG (ts : List Nat) (g : D → DEnv → M DEnv) : TG := fun v s H Q => ∃ d e G L μ, Sg k K G L s e ∧ Rp k K G L v d ∧ Wd k K G H L μ ∧ Good k K E G H L (g d e μ) fun e' _ G' H' L' => ∀ s', Sg k K G' L' s' e' → (s'.length = s.length ∧ ∀ i, i ∉ ts → s'[i]? = s[i]?) → Q s' H'
end
abbrev JE (k : Kx) (X : Cx) (E : XK) (e : Expr) (m : DEnv → M D) : Prop := PE X e (dE k X.K E m)
abbrev JT (k : Kx) (X : Cx) (E : XK) (e : Expr) (m : DEnv → M Bool) : Prop := PT X e (dT k X.K E m)
abbrev JW (k : Kx) (X : Cx) (E : XK) (e : Expr) (m : DEnv → M Bool) : Prop := PW X e (dT k X.K E m)
abbrev JA (k : Kx) (X : Cx) (E : XK) (es : List Expr) (m : DEnv → M (List D)) : Prop := PA X es (dA k X.K E m)
abbrev JS (k : Kx) (X : Cx) (E : XK) (st : Stmt) (m : DEnv → M Out) : Prop := PS X st (dS k X.K E m)
abbrev JB (k : Kx) (X : Cx) (E : XK) (st : List Stmt) (m : DEnv → M Out) : Prop := PSs X st (dS k X.K E m)
abbrev JG (k : Kx) (X : Cx) (E : XK) (e : Expr) (ts : List Nat) (g : D → DEnv → M DEnv) : Prop := PG X e (dG k X.K E ts g)
section
variable {X : Cx}
theorem PE.imp {e : Expr} {t t' : TE} (h : PE X e t) (q : ∀ s H Q, t' s H Q → t s H Q) : PE X e t' := ⟨fun pins s σ H Q I hw => h.run pins s σ H Q I (q _ _ _ hw)⟩
theorem PT.imp {e : Expr} {t t' : TT} (h : PT X e t) (q : ∀ s H Q, t' s H Q → t s H Q) : PT X e t' := ⟨fun pins s σ H Q I hw => h.run pins s σ H Q I (q _ _ _ hw)⟩
theorem PW.imp {e : Expr} {t t' : TT} (h : PW X e t) (q : ∀ s H Q, t' s H Q → t s H Q) : PW X e t' := ⟨fun wh pins s σ H Q I hw => h.run wh pins s σ H Q I (q _ _ _ hw)⟩
theorem PA.imp {e : List Expr} {t t' : TA} (h : PA X e t) (q : ∀ s H Q, t' s H Q → t s H Q) : PA X e t' := ⟨fun pos pins s σ H Q I hw => h.run pos pins s σ H Q I (q _ _ _ hw)⟩
theorem PS.imp {e : Stmt} {t t' : TS} (h : PS X e t) (q : ∀ D s H, t' D s H → t D s H) : PS X e t' := ⟨fun pins s σ H D I hw => h.run pins s σ H D I (q _ _ _ hw)⟩
theorem PSs.imp {e : List Stmt} {t t' : TS} (h : PSs X e t) (q : ∀ D s H, t' D s H → t D s H) : PSs X e t' := ⟨fun pins s σ H D I hw => h.run pins s σ H D I (q _ _ _ hw)⟩
theorem PG.imp {e : Expr} {t t' : TG} (h : PG X e t) (q : ∀ v s H Q, t' v s H Q → t v s H Q) : PG X e t' := ⟨fun pins s σ H x u Q I r hw => h.run pins s σ H x u Q I r (q _ _ _ _ hw)⟩
end
end DL
namespace DL
open PySem L2
section
variable {k : Kx} {K : PySem.W.Frag} {G H : Hp} {L : Lam} {m : Store}
theorem Same.new {H : Hp} {p : Addr} {o : HO} (h : H p = none) : Same H (upd H p o) := fun b u e => by
  rw [upd_ne (ne_of_none e h)]
  exact e
theorem nt_upd {H : Hp} {a x : Addr} {o : HO} (n : NT o) (h : ∃ u, H x = some u ∧ NT u) : ∃ u, upd H a o x = some u ∧ NT u := by
  by_cases e : x = a
  · subst e
    exact ⟨o, upd_same, n⟩
  · rw [upd_ne e]
    exact h
theorem nt_keep {H : Hp} {a x : Addr} {o : HO} (hn : H a = none) (h : ∃ u, H x = some u ∧ NT u) : ∃ u, upd H a o x = some u ∧ NT u := by
  obtain ⟨u, e, n⟩ := h
  rw [upd_ne (ne_of_none e hn)]
  exact ⟨u, e, n⟩
theorem gt_upd {G : Hp} {p : Addr} {o : HO} (n : NT o) (g : ∀ a o, G a = some o → NT o) : ∀ a u, upd G p o a = some u → NT u := fun a u e => by
  by_cases h : a = p
  · subst h
    rw [upd_same] at e
    cases e
    exact n
  · rw [upd_ne h] at e
    exact g a u e
theorem bare_upd {H : Hp} {p : Addr} {o : HO} (h : Bare H p) {a : Addr} (e : Bare (upd H p o) a) : Bare H a := by
  by_cases ha : a = p
  · subst ha
    exact h
  · intro u q
    exact e u (by rw [upd_ne ha]; exact q)
theorem Wd.gnone (w : Wd k K G H L m) {p : Addr} (h : H p = none) : G p = none := by
  cases e : G p with
  | none => rfl
  | some o =>
    rw [w.ext p o e] at h
    cases h
theorem CellR.addr {a b : Addr} {c : Cell} (r : CellR k K G H L a b c) : (∃ o, H a = some o) ∧ ∃ o, H b = some o := by
  cases c with
  | lst ds =>
    obtain ⟨rfl, vs, h, _⟩ := r
    exact ⟨⟨_, h⟩, ⟨_, h⟩⟩
  | dct ks ds =>
    obtain ⟨rfl, vs, h, _⟩ := r
    exact ⟨⟨_, h⟩, ⟨_, h⟩⟩
  | ins c ss =>
    obtain ⟨vs, h, _, ⟨ob, hb, _⟩, _⟩ := r
    refine ⟨?_, ⟨ob, hb⟩⟩
    rcases h with ⟨h1, _⟩ | ⟨h1, _⟩
    · exact ⟨_, h1⟩
    · exact ⟨_, h1⟩
/-- H and G may grow where the cell does not look -/
theorem CellR.step {G' H' : Hp} {L' : Lam} {a b : Addr} {c : Cell} (r : CellR k K G H L a b c) (g : Same G G') (l : L <+: L') (ha : H' a = H a) (hb : H' b = H b) : CellR k K G' H' L' a b c := by
  cases c with
  | lst ds =>
    obtain ⟨rfl, vs, h, q⟩ := r
    exact ⟨rfl, vs, by rw [ha]; exact h, RpA.mono g l _ _ q⟩
  | dct ks ds =>
    obtain ⟨rfl, vs, h, hl, q⟩ := r
    exact ⟨rfl, vs, by rw [ha]; exact h, hl, RpA.mono g l _ _ q⟩
  | ins c ss =>
    obtain ⟨vs, h, q, ⟨o, ho, nc⟩, ne⟩ := r
    refine ⟨vs, ?_, ⟨q.1, fun i d e => let ⟨v, x, y⟩ := q.2 i d e; ⟨v, x, Rp.mono g l _ _ y⟩⟩, ⟨o, by rw [hb]; exact ho, nc⟩, ne⟩
    rcases h with ⟨h1, h2⟩ | ⟨h1, h2⟩
    · exact .inl ⟨by rw [ha]; exact h1, h2⟩
    · exact .inr ⟨by rw [ha]; exact h1, by rw [hb]; exact h2⟩
/-- a new object, into the data -/
theorem Wd.new (w : Wd k K G H L m) {p : Addr} {o : HO} (h : H p = none) (no : NT o := by exact fun _ e => (by cases e)) : Wd k K (upd G p o) (upd H p o) L m where
  ext := fun b u e => by
    by_cases hb : b = p
    · subst hb
      rw [upd_same] at e ⊢
      exact e
    · rw [upd_ne hb] at e ⊢
      exact w.ext b u e
  len := w.len
  tk := fun q hq => ⟨nt_upd no (w.tk q hq).1, nt_upd no (w.tk q hq).2⟩
  tab := tabs_upd w.tab (nc_none h)
  gt := gt_upd no w.gt
  cell := fun n c e => by
    obtain ⟨a, b, hl, ga, gb, r⟩ := w.cell n c e
    obtain ⟨⟨oa, ha⟩, ⟨ob, hb⟩⟩ := r.addr
    have na := ne_of_none ha h
    have nb := ne_of_none hb h
    exact ⟨a, b, hl, by rw [upd_ne na]; exact ga, by rw [upd_ne nb]; exact gb, r.step (Same.new (w.gnone h)) (pre_refl L) (upd_ne na) (upd_ne nb)⟩
  apart := w.apart
/-- a new object, not of the data -/
theorem Wd.junk (w : Wd k K G H L m) {p : Addr} {o : HO} (h : H p = none) : Wd k K G (upd H p o) L m where
  ext := fun b u e => by
    have q := w.ext b u e
    rw [upd_ne (ne_of_none q h)]
    exact q
  len := w.len
  tk := fun q hq => ⟨nt_keep h (w.tk q hq).1, nt_keep h (w.tk q hq).2⟩
  tab := tabs_upd w.tab (nc_none h)
  gt := w.gt
  cell := fun n c e => by
    obtain ⟨a, b, hl, ga, gb, r⟩ := w.cell n c e
    obtain ⟨⟨oa, ha⟩, ⟨ob, hb⟩⟩ := r.addr
    exact ⟨a, b, hl, ga, gb, r.step (Same.refl G) (pre_refl L) (upd_ne (ne_of_none ha h)) (upd_ne (ne_of_none hb h))⟩
  apart := w.apart
theorem live_app {m : Store} {c : Option Cell} {i : Nat} (h : Live (m ++ [c]) i) : Live m i ∨ i = m.length := by
  obtain ⟨x, hx⟩ := h
  by_cases hi : i < m.length
  · exact .inl ⟨x, by rw [List.getElem?_append_left hi] at hx; exact hx⟩
  · right
    have h1 := (List.getElem?_eq_some_iff.mp hx).1
    simp at h1
    omega
theorem live_lt {m : Store} {i : Nat} (h : Live m i) : i < m.length := by
  obtain ⟨c, e⟩ := h
  exact (List.getElem?_eq_some_iff.mp e).1
/-- a new mutable list -/
theorem Wd.newLoc (w : Wd k K G H L m) {p : Addr} {vs : List V} {ds : List D} (h : H p = none) (r : RpA k K G L vs ds) : Wd k K G (upd H p (.lst vs)) (L ++ [(p, p)]) (m ++ [some (.lst ds)]) where
  ext := (w.junk h).ext
  len := by simp [w.len]
  tk := fun q hq => by
    rcases List.mem_append.mp hq with z | z
    · exact ⟨nt_keep h (w.tk q z).1, nt_keep h (w.tk q z).2⟩
    · simp at z
      subst z
      exact ⟨⟨_, upd_same, (nc_lst vs).1⟩, ⟨_, upd_same, (nc_lst vs).1⟩⟩
  tab := tabs_upd w.tab (nc_none h)
  gt := w.gt
  cell := fun n c e => by
    by_cases hn : n < m.length
    · rw [List.getElem?_append_left hn] at e
      obtain ⟨a, b, hl, ga, gb, r'⟩ := w.cell n c e
      obtain ⟨⟨oa, ha⟩, ⟨ob, hb⟩⟩ := r'.addr
      exact ⟨a, b, pre_get (List.prefix_append _ _) hl, ga, gb, r'.step (Same.refl G) (List.prefix_append _ _) (upd_ne (ne_of_none ha h)) (upd_ne (ne_of_none hb h))⟩
    · have h1 := (List.getElem?_eq_some_iff.mp e).1
      simp at h1
      have e0 : n = m.length := by omega
      subst e0
      simp at e
      subst e
      exact ⟨p, p, by rw [← w.len]; simp, w.gnone h, w.gnone h, rfl, vs, upd_same, RpA.mono (Same.refl G) (List.prefix_append _ _) _ _ r⟩
  apart := fun i j a b a' b' li lj ne ha hb => by
    have old : ∀ {i : Nat} {a b : Addr}, Live m i → (L ++ [(p, p)])[i]? = some (a, b) → a ≠ p ∧ b ≠ p ∧ L[i]? = some (a, b) := fun {i a b} li ha => by
      have hlt : i < L.length := by rw [w.len]; exact live_lt li
      rw [List.getElem?_append_left hlt] at ha
      obtain ⟨c, hc⟩ := li
      obtain ⟨a0, b0, hl, _, _, r'⟩ := w.cell i c hc
      rw [hl] at ha
      cases ha
      obtain ⟨⟨oa, ha⟩, ⟨ob, hb⟩⟩ := r'.addr
      exact ⟨ne_of_none ha h, ne_of_none hb h, hl⟩
    have new : ∀ {a b : Addr}, (L ++ [(p, p)])[m.length]? = some (a, b) → a = p ∧ b = p := fun {a b} ha => by
      rw [← w.len] at ha
      simp at ha
      exact ⟨ha.1.symm, ha.2.symm⟩
    rcases live_app li with li | e1
    · obtain ⟨n1, n2, q1⟩ := old li ha
      rcases live_app lj with lj | e2
      · obtain ⟨n3, n4, q2⟩ := old lj hb
        exact w.apart i j a b a' b' li lj ne q1 q2
      · subst e2
        obtain ⟨rfl, rfl⟩ := new hb
        exact ⟨n1, n1, n2, n2⟩
    · subst e1
      obtain ⟨rfl, rfl⟩ := new ha
      rcases live_app lj with lj | e2
      · obtain ⟨n3, n4, q2⟩ := old lj hb
        exact ⟨n3.symm, n4.symm, n3.symm, n4.symm⟩
      · exact absurd e2.symm ne
theorem live_set {m : Store} {n : Nat} {c c' : Cell} {i : Nat} (hn : m[n]? = some (some c)) (h : Live (m.set n (some c')) i) : Live m i := by
  obtain ⟨x, hx⟩ := h
  by_cases e : n = i
  · subst e
    exact ⟨c, hn⟩
  · rw [List.getElem?_set_ne e] at hx
    exact ⟨x, hx⟩
/-- a mutable list changed -/
theorem Wd.setLoc (w : Wd k K G H L m) {n : Nat} {a b : Addr} {ds' : List D} {vs : List V} {ds : List D} (hn : m[n]? = some (some (.lst ds'))) (hl : L[n]? = some (a, b)) (r : RpA k K G L vs ds) : Wd k K G (upd H a (.lst vs)) L (m.set n (some (.lst ds))) := by
  obtain ⟨a0, b0, hl0, ga, gb, r0⟩ := w.cell n _ hn
  rw [hl] at hl0
  cases hl0
  obtain ⟨rfl, vs0, h0, _⟩ := id r0
  refine ⟨fun c u e => ?_, by rw [List.length_set]; exact w.len, fun q hq => ⟨nt_upd (nc_lst vs).1 (w.tk q hq).1, nt_upd (nc_lst vs).1 (w.tk q hq).2⟩, tabs_upd w.tab (nc_at h0 (nc_lst vs0)), w.gt, fun i c e => ?_, fun i j a b a' b' li lj => w.apart i j a b a' b' (live_set hn li) (live_set hn lj)⟩
  · have : c ≠ b := fun z => by
      rw [z, ga] at e
      cases e
    rw [upd_ne this]
    exact w.ext c u e
  · by_cases hi : n = i
    · subst hi
      rw [List.getElem?_set_self (List.getElem?_eq_some_iff.mp hn).1] at e
      cases e
      exact ⟨b, b, hl, ga, ga, rfl, vs, upd_same, r⟩
    · rw [List.getElem?_set_ne hi] at e
      obtain ⟨a', b', hl', ga', gb', r'⟩ := w.cell i c e
      obtain ⟨n1, n2, n3, n4⟩ := w.apart i n a' b' b b ⟨c, e⟩ ⟨_, hn⟩ (Ne.symm hi) hl' hl
      exact ⟨a', b', hl', ga', gb', r'.step (Same.refl G) (pre_refl L) (upd_ne n1) (upd_ne n3)⟩
theorem Wd.look (w : Wd k K G H L m) {n : Nat} {ds : List D} (hn : m[n]? = some (some (.lst ds))) {v : V} (r : Rp k K G L v (.loc n)) : ∃ a vs, v = .ref a ∧ L[n]? = some (a, a) ∧ G a = none ∧ H a = some (.lst vs) ∧ RpA k K G L vs ds := by
  obtain ⟨a0, b0, hl0, ga, gb, rfl, vs, h, q⟩ := w.cell n _ hn
  cases r with
  | loc hl =>
    rw [hl] at hl0
    cases hl0
    exact ⟨_, vs, rfl, hl, ga, h, q⟩
/-- dead cells: nothing is asked of them -/
theorem live_kill {m : Store} {n i : Nat} (h : Live (m.set n none) i) : Live m i ∧ i ≠ n := by
  obtain ⟨x, hx⟩ := h
  by_cases e : n = i
  · subst e
    by_cases hn : n < m.length
    · rw [List.getElem?_set_self hn] at hx
      cases hx
    · rw [List.getElem?_eq_none (by simpa using hn)] at hx
      cases hx
  · rw [List.getElem?_set_ne e] at hx
    exact ⟨⟨x, hx⟩, Ne.symm e⟩
/-- a mutable list becomes data -/
theorem Wd.freeze (w : Wd k K G H L m) {n : Nat} {a : Addr} {vs : List V} {ds : List D} (hn : m[n]? = some (some (.lst ds))) (hl : L[n]? = some (a, a)) (h : H a = some (.lst vs)) : Wd k K (upd G a (.lst vs)) H L (m.set n none) := by
  obtain ⟨a0, b0, hl0, ga, gb, r0⟩ := w.cell n _ hn
  rw [hl] at hl0
  cases hl0
  refine ⟨fun c u e => ?_, by rw [List.length_set]; exact w.len, w.tk, w.tab, gt_upd (nc_lst vs).1 w.gt, fun i c e => ?_, fun i j a b a' b' li lj => w.apart i j a b a' b' (live_kill li).1 (live_kill lj).1⟩
  · by_cases hc : c = a
    · subst hc
      rw [upd_same] at e
      cases e
      exact h
    · rw [upd_ne hc] at e
      exact w.ext c u e
  · have hni : n ≠ i := fun z => (live_kill ⟨c, e⟩).2 z.symm
    rw [List.getElem?_set_ne hni] at e
    obtain ⟨a', b', hl', ga', gb', r'⟩ := w.cell i c e
    obtain ⟨n1, n2, n3, n4⟩ := w.apart i n a' b' a a ⟨c, e⟩ ⟨_, hn⟩ (Ne.symm hni) hl' hl
    exact ⟨a', b', hl', by rw [upd_ne n1]; exact ga', by rw [upd_ne n3]; exact gb', r'.step (Same.new ga) (pre_refl L) rfl rfl⟩
/-- a fresh instance -/
theorem Wd.newIns (w : Wd k K G H L m) {x dx : Addr} {c : Nat} (hx : H x = none) (hd : H dx = none) (ne : dx ≠ x) :
    Wd k K G (upd (upd H dx (.own x)) x (.ins (k.cl c) dx [])) (L ++ [(x, dx)]) (m ++ [some (.ins c [])]) := by
  have w1 : Wd k K G (upd (upd H dx (.own x)) x (.ins (k.cl c) dx [])) L m := (w.junk (o := .own x) hd).junk (p := x) (o := .ins (k.cl c) dx []) (by rw [upd_ne ne.symm]; exact hx)
  have old : ∀ {i : Nat} {a b : Addr}, Live m i → (L ++ [(x, dx)])[i]? = some (a, b) → (a ≠ x ∧ a ≠ dx ∧ b ≠ x ∧ b ≠ dx) ∧ L[i]? = some (a, b) := fun {i a b} li ha => by
    have hlt : i < L.length := by rw [w.len]; exact live_lt li
    rw [List.getElem?_append_left hlt] at ha
    obtain ⟨c, hc⟩ := li
    obtain ⟨a0, b0, hl, _, _, r'⟩ := w.cell i c hc
    rw [hl] at ha
    cases ha
    obtain ⟨⟨oa, ha⟩, ⟨ob, hb⟩⟩ := r'.addr
    exact ⟨⟨ne_of_none ha hx, ne_of_none ha hd, ne_of_none hb hx, ne_of_none hb hd⟩, hl⟩
  have new : ∀ {a b : Addr}, (L ++ [(x, dx)])[m.length]? = some (a, b) → a = x ∧ b = dx := fun {a b} ha => by
    rw [← w.len] at ha
    simp at ha
    exact ⟨ha.1.symm, ha.2.symm⟩
  refine ⟨w1.ext, by simp [w.len], fun q hq => ?_, w1.tab, w.gt, fun n c' e => ?_, fun i j a b a' b' li lj nij ha hb => ?_⟩
  · rcases List.mem_append.mp hq with z | z
    · exact w1.tk q z
    · simp at z
      subst z
      exact ⟨⟨_, upd_same, (nc_ins _ _ _).1⟩, ⟨.own x, by rw [upd_ne ne, upd_same], (nc_own x).1⟩⟩
  · by_cases hn : n < m.length
    · rw [List.getElem?_append_left hn] at e
      obtain ⟨a, b, hl, ga, gb, r'⟩ := w1.cell n c' e
      exact ⟨a, b, pre_get (List.prefix_append _ _) hl, ga, gb, r'.step (Same.refl G) (List.prefix_append _ _) rfl rfl⟩
    · have h1 := (List.getElem?_eq_some_iff.mp e).1
      simp at h1
      have e0 : n = m.length := by omega
      subst e0
      simp at e
      subst e
      exact ⟨x, dx, by rw [← w.len]; simp, w.gnone hx, w.gnone hd, [], .inl ⟨upd_same, rfl⟩, ⟨rfl, fun i d e => by simp at e⟩, ⟨.own x, by rw [upd_ne ne, upd_same], nc_own x⟩, ne.symm⟩
  · rcases live_app li with li | e1
    · obtain ⟨⟨n1, n2, n3, n4⟩, q1⟩ := old li ha
      rcases live_app lj with lj | e2
      · obtain ⟨_, q2⟩ := old lj hb
        exact w.apart i j a b a' b' li lj nij q1 q2
      · subst e2
        obtain ⟨rfl, rfl⟩ := new hb
        exact ⟨n1, n2, n3, n4⟩
    · subst e1
      obtain ⟨rfl, rfl⟩ := new ha
      rcases live_app lj with lj | e2
      · obtain ⟨⟨n1, n2, n3, n4⟩, q2⟩ := old lj hb
        exact ⟨n1.symm, n3.symm, n2.symm, n4.symm⟩
      · exact absurd e2.symm nij
theorem Wd.lookIns (w : Wd k K G H L m) {n c : Nat} {ss : List (Option D)} (hn : m[n]? = some (some (.ins c ss))) {v : V} (r : Rp k K G L v (.loc n)) :
    ∃ a dx vs, v = .ref a ∧ L[n]? = some (a, dx) ∧ G a = none ∧ G dx = none ∧ SlX.Slt H a (k.cl c) dx vs ∧ RpO k K G L vs ss ∧ dx ≠ a := by
  obtain ⟨a0, b0, hl0, ga, gb, vs, h, q, _, ne⟩ := w.cell n _ hn
  cases r with
  | loc hl =>
    rw [hl] at hl0
    cases hl0
    exact ⟨_, _, vs, rfl, hl, ga, gb, h, q, ne.symm⟩
def putD (i : Nat) (d : D) (ss : List (Option D)) : List (Option D) := (ss ++ List.replicate (i + 1 - ss.length) none).set i (some d)
theorem RpO.put {vs : List (Option V)} {ss : List (Option D)} {v : V} {d : D} (h : RpO k K G L vs ss) (i : Nat) (r : Rp k K G L v d) : RpO k K G L (SlX.putS i v vs) (putD i d ss) := by
  refine ⟨?_, fun j d' e => ?_⟩
  · unfold SlX.putS putD
    simp [h.1]
  · unfold putD at e
    by_cases hj : i = j
    · subst hj
      rw [List.getElem?_set_self (by simp only [List.length_append, List.length_replicate]; omega)] at e
      cases e
      exact ⟨v, SlX.putS_get i v vs, r⟩
    · rw [List.getElem?_set_ne hj] at e
      have e' : ss[j]? = some (some d') := by
        by_cases hl : j < ss.length
        · rw [List.getElem?_append_left hl] at e
          exact e
        · rw [List.getElem?_append_right (by omega), List.getElem?_replicate] at e
          split at e <;> cases e
      obtain ⟨v', a, b⟩ := h.2 j d' e'
      exact ⟨v', (SlX.putS_ne (Ne.symm hj)).mpr a, b⟩
/-- a slot stored -/
theorem Wd.setIns (w : Wd k K G H L m) {n c : Nat} {ss : List (Option D)} {a dx : Addr} {vs : List (Option V)} {v : V} {d : D} (i : Nat) (hn : m[n]? = some (some (.ins c ss))) (hl : L[n]? = some (a, dx)) (q : RpO k K G L vs ss) (ne : dx ≠ a) (r : Rp k K G L v d) :
    Wd k K G (SlX.slH H a (k.cl c) dx (SlX.putS i v vs)) L (m.set n (some (.ins c (putD i d ss)))) := by
  obtain ⟨a0, b0, hl0, ga, gb, r0⟩ := w.cell n _ hn
  rw [hl] at hl0
  cases hl0
  have hca : ∃ o, H a = some o ∧ NC o := by
    obtain ⟨vs0, hs0, _, _, _⟩ := r0
    rcases hs0 with ⟨h1, _⟩ | ⟨h1, _⟩
    · exact ⟨_, h1, nc_ins _ _ _⟩
    · exact ⟨_, h1, nc_slO _ _ _ _⟩
  have hcb : ∃ o, H dx = some o ∧ NC o := by
    obtain ⟨_, _, _, hb, _⟩ := r0
    exact hb
  have t2 : ∀ u, H dx = some u → NC u := by
    obtain ⟨o, h1, h2⟩ := hcb
    exact nc_at h1 h2
  have t1 : ∀ u, upd H dx (.xd []) a = some u → NC u := by
    obtain ⟨o, h1, h2⟩ := hca
    rw [upd_ne (Ne.symm ne)]
    exact nc_at h1 h2
  refine ⟨fun x u e => ?_, by rw [List.length_set]; exact w.len, fun q hq => ⟨nt_upd (nc_slO _ _ _ _).1 (nt_upd (nc_xd []).1 (w.tk q hq).1), nt_upd (nc_slO _ _ _ _).1 (nt_upd (nc_xd []).1 (w.tk q hq).2)⟩, tabs_upd (tabs_upd w.tab t2) t1, w.gt, fun j c' e => ?_, fun i j a b a' b' li lj => w.apart i j a b a' b' (live_set hn li) (live_set hn lj)⟩
  · have n1 : x ≠ a := fun z => by
      rw [z, ga] at e
      cases e
    have n2 : x ≠ dx := fun z => by
      rw [z, gb] at e
      cases e
    rw [SlX.slH_ne n1 n2]
    exact w.ext x u e
  · by_cases hj : n = j
    · subst hj
      rw [List.getElem?_set_self (List.getElem?_eq_some_iff.mp hn).1] at e
      cases e
      exact ⟨a, dx, hl, ga, gb, _, SlX.slH_slt ne, q.put i r, ⟨.xd [], by unfold SlX.slH; rw [upd_ne ne, upd_same], nc_xd []⟩, ne.symm⟩
    · rw [List.getElem?_set_ne hj] at e
      obtain ⟨a', b', hl', ga', gb', r'⟩ := w.cell j c' e
      obtain ⟨n1, n2, n3, n4⟩ := w.apart j n a' b' a dx ⟨c', e⟩ ⟨_, hn⟩ (Ne.symm hj) hl' hl
      exact ⟨a', b', hl', ga', gb', r'.step (Same.refl G) (pre_refl L) (SlX.slH_ne n1 n2) (SlX.slH_ne n3 n4)⟩
theorem rpA_of_rpO : ∀ {vs : List (Option V)} {ds : List D}, RpO k K G L vs (ds.map some) → ∃ ws, vs = ws.map some ∧ RpA k K G L ws ds
  | [], [], _ => ⟨[], rfl, .nil⟩
  | _ :: _, [], h => by simp [RpO] at h
  | [], _ :: _, h => by simp [RpO] at h
  | o :: vs, d :: ds, h => by
    obtain ⟨v, e, r⟩ := h.2 0 d (by simp)
    simp at e
    subst e
    obtain ⟨ws, rfl, q⟩ := rpA_of_rpO (vs := vs) (ds := ds) ⟨by simpa using h.1, fun i d' e => by
      obtain ⟨v', a, b⟩ := h.2 (i + 1) d' (by simpa using e)
      exact ⟨v', by simpa using a, b⟩⟩
    exact ⟨v :: ws, rfl, .cons r q⟩
/-- an instance becomes data -/
theorem Wd.freezeIns (w : Wd k K G H L m) {n c : Nat} {ds : List D} {v : V} (hn : m[n]? = some (some (.ins c (ds.map some)))) (r : Rp k K G L v (.loc n)) :
    ∃ G', Stp G H L G' H L ∧ Wd k K G' H L (m.set n none) ∧ Rp k K G' L v (.obj c ds) := by
  obtain ⟨a, dx, vs, rfl, hl, ga, gb, hs, q, ne⟩ := w.lookIns hn r
  obtain ⟨ws, rfl, qa⟩ := rpA_of_rpO q
  -- the objects at a and dx go into the data
  have key : ∃ oa od, H a = some oa ∧ H dx = some od ∧ NT oa ∧ NT od ∧ ∀ G', G' a = some oa → G' dx = some od → SlX.Slt G' a (k.cl c) dx (ws.map some) := by
    rcases hs with ⟨h1, h2⟩ | ⟨h1, h2⟩
    · obtain ⟨a0, b0, hl0, _, _, _, _, _, ⟨od, hd, ncd⟩, _⟩ := w.cell n _ hn
      rw [hl] at hl0
      cases hl0
      exact ⟨_, od, h1, hd, (nc_ins _ _ _).1, ncd.1, fun G' q1 q2 => .inl ⟨q1, h2⟩⟩
    · exact ⟨_, _, h1, h2, (nc_slO _ _ _ _).1, (nc_xd []).1, fun G' q1 q2 => .inr ⟨q1, q2⟩⟩
  obtain ⟨oa, od, ha, hd, noa, nod, mk⟩ := key
  refine ⟨upd (upd G dx od) a oa, ?_, ⟨fun x u e => ?_, by rw [List.length_set]; exact w.len, w.tk, w.tab, gt_upd noa (gt_upd nod w.gt), fun i c' e => ?_, fun i j a b a' b' li lj => w.apart i j a b a' b' (live_kill li).1 (live_kill lj).1⟩, ?_⟩
  · exact ⟨fun x u e => by rw [upd_ne (ne_of_none e ga), upd_ne (ne_of_none e gb)]; exact e, pre_refl L, fun _ e => e, fun x u e _ q => ⟨e, fun z => by
      obtain ⟨n1, n2⟩ := q (a, dx) (List.mem_of_getElem? hl)
      rw [upd_ne n1, upd_ne n2]
      exact z⟩, fun p h => .inl h⟩
  · by_cases h1 : x = a
    · subst h1
      rw [upd_same] at e
      cases e
      exact ha
    · rw [upd_ne h1] at e
      by_cases h2 : x = dx
      · subst h2
        rw [upd_same] at e
        cases e
        exact hd
      · rw [upd_ne h2] at e
        exact w.ext x u e
  · have hni : n ≠ i := fun z => (live_kill ⟨c', e⟩).2 z.symm
    rw [List.getElem?_set_ne hni] at e
    obtain ⟨a', b', hl', ga', gb', r'⟩ := w.cell i c' e
    obtain ⟨n1, n2, n3, n4⟩ := w.apart i n a' b' a dx ⟨c', e⟩ ⟨_, hn⟩ (Ne.symm hni) hl' hl
    refine ⟨a', b', hl', by rw [upd_ne n1, upd_ne n2]; exact ga', by rw [upd_ne n3, upd_ne n4]; exact gb', r'.step (fun x u e => ?_) (pre_refl L) rfl rfl⟩
    rw [upd_ne (ne_of_none e ga), upd_ne (ne_of_none e gb)]
    exact e
  · exact .obj (mk _ upd_same (by rw [upd_ne ne, upd_same])) (RpA.mono (fun x u e => by rw [upd_ne (ne_of_none e ga), upd_ne (ne_of_none e gb)]; exact e) (pre_refl L) _ _ qa)
end
section
variable {k : Kx} {K : PySem.W.Frag} {G H : Hp} {L : Lam} {m : Store}
theorem Wd.newS (w : Wd k K G H L m) {p : Addr} {o : HO} (h : H p = none) : Stp G H L (upd G p o) (upd H p o) L where
  g := Same.new (w.gnone h)
  l := pre_refl L
  tr := fun a e => bare_upd (bare_none h) e
  keep := fun a u e _ _ => by
    have ne := ne_of_none e h
    rw [upd_ne ne, upd_ne ne]
    exact ⟨e, id⟩
  nl := fun p h => .inl h
theorem junkS {p : Addr} {o : HO} (h : H p = none) : Stp G H L G (upd H p o) L where
  g := Same.refl G
  l := pre_refl L
  tr := fun a e => bare_upd (bare_none h) e
  keep := fun a u e _ _ => by
    rw [upd_ne (ne_of_none e h)]
    exact ⟨e, id⟩
  nl := fun p h => .inl h
theorem newLocS {p : Addr} {o : HO} (h : H p = none) : Stp G H L G (upd H p o) (L ++ [(p, p)]) where
  g := Same.refl G
  l := List.prefix_append _ _
  tr := (junkS (G := G) (L := L) (o := o) h).tr
  keep := (junkS (G := G) (L := L) (o := o) h).keep
  nl := fun q hq => by
    rcases List.mem_append.mp hq with z | z
    · exact .inl z
    · simp at z
      subst z
      exact .inr ⟨bare_none h, bare_none h⟩
theorem bare_at {H : Hp} {a x : Addr} {o : HO} (no : NT o) (e : Bare (upd H a o) x) : Bare H x := by
  by_cases ha : x = a
  · subst ha
    exact absurd no (e o upd_same)
  · intro u q
    exact e u (by rw [upd_ne ha]; exact q)
theorem setLocS {n : Nat} {a b : Addr} {o o' : HO} (hl : L[n]? = some (a, b)) (h : H a = some o') (no : NT o := by exact fun _ e => (by cases e)) : Stp G H L G (upd H a o) L where
  g := Same.refl G
  l := pre_refl L
  tr := fun x e => bare_at no e
  keep := fun x u e _ q => by
    rw [upd_ne (q (a, b) (List.mem_of_getElem? hl)).1]
    exact ⟨e, id⟩
  nl := fun p h => .inl h
theorem freezeS {n : Nat} {a b : Addr} {o : HO} (hl : L[n]? = some (a, b)) (ga : G a = none) : Stp G H L (upd G a o) H L where
  g := Same.new ga
  l := pre_refl L
  tr := fun _ e => e
  keep := fun x u e _ q => ⟨e, fun z => by
    rw [upd_ne (q (a, b) (List.mem_of_getElem? hl)).1]
    exact z⟩
  nl := fun p h => .inl h
theorem newInsS {x dx : Addr} {o o' : HO} (hx : H x = none) (hd : H dx = none) (ne : dx ≠ x) : Stp G H L G (upd (upd H dx o) x o') (L ++ [(x, dx)]) where
  g := Same.refl G
  l := List.prefix_append _ _
  tr := fun a e => bare_upd (bare_none hd) (bare_upd (bare_none (by rw [upd_ne (Ne.symm ne)]; exact hx)) e)
  keep := fun a u e _ _ => by
    rw [upd_ne (ne_of_none e hx), upd_ne (ne_of_none e hd)]
    exact ⟨e, id⟩
  nl := fun q hq => by
    rcases List.mem_append.mp hq with z | z
    · exact .inl z
    · simp at z
      subst z
      exact .inr ⟨bare_none hx, bare_none hd⟩
theorem setInsS {n : Nat} {a dx C : Addr} {vs : List (Option V)} (hl : L[n]? = some (a, dx)) : Stp G H L G (SlX.slH H a C dx vs) L where
  g := Same.refl G
  l := pre_refl L
  tr := fun x e => bare_at (nc_xd []).1 (bare_at (nc_slO _ _ _ _).1 e)
  keep := fun x u e _ q => by
    obtain ⟨n1, n2⟩ := q (a, dx) (List.mem_of_getElem? hl)
    rw [SlX.slH_ne n1 n2]
    exact ⟨e, id⟩
  nl := fun p h => .inl h
end
end DL
namespace DL
open PySem L2
def getv (i : Nat) (e : DEnv) : M D := match e[i]? with
  | some (some d) => pure d
  | _ => M.bad
def eVar (i : Nat) : DEnv → M D := fun e => getv i e
def eC (d : D) : DEnv → M D := fun _ => pure d
def eOp (g : D → D → M D) (a b : DEnv → M D) : DEnv → M D := fun e => do let x ← a e; let y ← b e; g x y
def eUn (g : D → M D) (a : DEnv → M D) : DEnv → M D := fun e => do let x ← a e; g x
def asB : D → M Bool
  | .bl b => pure b
  | _ => M.bad
def eIf (t : DEnv → M Bool) (a b : DEnv → M D) : DEnv → M D := fun e => do let c ← t e; if c then a e else b e
def eAnd (a b : DEnv → M D) : DEnv → M D := fun e => do let x ← a e; let c ← asB x; if c then b e else pure (.bl false)
def eOr (a b : DEnv → M D) : DEnv → M D := fun e => do let x ← a e; let c ← asB x; if c then pure (.bl true) else b e
def eNot (a : DEnv → M D) : DEnv → M D := fun e => do let x ← a e; let c ← asB x; pure (.bl (!c))
def eChain (g g' : D → D → M D) (a b c : DEnv → M D) : DEnv → M D := fun e => do
  let x ← a e; let y ← b e; let z ← g x y; let k ← asB z
  if k then (do let w ← c e; g' y w) else pure (.bl false)
def tB' (a : DEnv → M D) : DEnv → M Bool := fun e => do let x ← a e; asB x
def tAndD (t u : DEnv → M Bool) : DEnv → M Bool := fun e => do let c ← t e; if c then u e else pure false
def tOrD (t u : DEnv → M Bool) : DEnv → M Bool := fun e => do let c ← t e; if c then pure true else u e
def tNotD (t : DEnv → M Bool) : DEnv → M Bool := fun e => do let c ← t e; pure (!c)
def aNil : DEnv → M (List D) := fun _ => pure []
def aCons (a : DEnv → M D) (r : DEnv → M (List D)) : DEnv → M (List D) := fun e => do let x ← a e; let xs ← r e; pure (x :: xs)
def eCallB (g : List D → M D) (as : DEnv → M (List D)) : DEnv → M D := fun e => do let xs ← as e; g xs
def mkL (ds : List D) : M D := if ds.length ≤ 100000 then pure (.lst ds) else M.bad
def mkT (ds : List D) : M D := if ds.length ≤ 100000 then pure (.tup ds) else M.bad
def newM (ds : List D) : M D := fun m => if ds.length ≤ 100000 then .ok (.loc m.length) (m ++ [some (.lst ds)]) else .bad
def eTup (as : DEnv → M (List D)) : DEnv → M D := fun e => do let xs ← as e; mkT xs
def eLst (as : DEnv → M (List D)) : DEnv → M D := fun e => do let xs ← as e; mkL xs
def eLstM (as : DEnv → M (List D)) : DEnv → M D := fun e => do let xs ← as e; newM xs
/-- the items of a list or tuple -/
def seqD (d : D) : M (List D) := fun m => match d with
  | .lst ds => .ok ds m
  | .tup ds => .ok ds m
  | .loc n => match m[n]? with
    | some (some (.lst ds)) => .ok ds m
    | _ => .bad
  | _ => .bad
/-- a mutable list becomes data -/
def frzD (d : D) : M D := fun m => match d with
  | .loc n => match m[n]? with
    | some (some (.lst ds)) => .ok (.lst ds) (m.set n none)
    | _ => .bad
  | d => .ok d m
section
variable (k : Kx) (K : PySem.W.Frag) (E : XK)
def QV (Q : VK) : D → Store → Hp → Hp → Lam → Prop := fun d _ G' H' L' => ∀ v, Rp k K G' L' v d → Q v H'
def OpD (r : R2) (g : D → D → M D) : Prop := ∀ x y dx dy G H L μ Q, Rp k K G L x dx → Rp k K G L y dy → Wd k K G H L μ → Good k K E G H L (g dx dy μ) (QV k K Q) → r x y H Q
def UnD (r : V → Hp → VK → Prop) (g : D → M D) : Prop := ∀ x dx G H L μ Q, Rp k K G L x dx → Wd k K G H L μ → Good k K E G H L (g dx μ) (QV k K Q) → r x H Q
def ClD (r : List V → Hp → VK → Prop) (g : List D → M D) : Prop := ∀ xs ds G H L μ Q, RpA k K G L xs ds → Wd k K G H L μ → Good k K E G H L (g ds μ) (QV k K Q) → r xs H Q
end
def BinD (k : Kx) (X : Cx) (E : XK) (f : Value → Value → Sem Value) (g : D → D → M D) : Prop := ∃ r, OpR X f r ∧ OpD k X.K E r g
def FunD (k : Kx) (X : Cx) (E : XK) (f : Value) (g : List D → M D) : Prop := ∃ r, CallR X f r ∧ ClD k X.K E r g
def MonD (k : Kx) (X : Cx) (E : XK) (f : Value → Sem Value) (g : D → M D) : Prop := ∃ r, UnR X f r ∧ UnD k X.K E r g
section
variable {k : Kx} {X : Cx} {E : XK} {a b c : Expr} {ma mb mc : DEnv → M D} {pos : Pos}
/-- two parts, then an operation -/
theorem dE_op {r : R2} {g : D → D → M D} (hg : OpD k X.K E r g) {s : L2.St} {H : Hp} {Q : VK} (h : dE k X.K E (eOp g ma mb) s H Q) : tOp r (dE k X.K E ma) (dE k X.K E mb) s H Q := by
  obtain ⟨e, G, L, μ, sg, w, gd⟩ := h
  refine ⟨e, G, L, μ, sg, w, Good.mono (Good.bind gd) fun d1 m1 G1 H1 L1 st1 w1 q1 x r1 => ?_⟩
  refine ⟨e, G1, L1, m1, sg.mono st1.g st1.l, w1, Good.mono (Good.bind q1) fun d2 m2 G2 H2 L2 st2 w2 q2 y r2 => ?_⟩
  exact hg x y d1 d2 G2 H2 L2 m2 Q (Rp.mono st2.g st2.l _ _ r1) r2 w2 q2
theorem dE_val {d : D} {s : L2.St} {H : Hp} {Q : VK} (h : dE k X.K E (eC d) s H Q) {v : V} (r : ∀ G L, Rp k X.K G L v d) : Q v H := by
  obtain ⟨e, G, L, μ, sg, w, g⟩ := h
  exact Good.ret g w v (r G L)
theorem j_var (i : Nat) {x : Str} (hN : X.N[i]? = some x := by rfl) (hv : Vis X.env.scope x := by first | exact Or.inl rfl | exact Or.inr (Or.inl rfl) | exact Or.inr (Or.inr rfl)) (hd : (x == ("__debug__" : Str)) = false := by decide)
    (hcd : (x == ("__classdict__" : Str)) = false := by decide) : JE k X E (.Name x pos) (eVar i) := by
  refine PE.imp (pe_var hN hv hd hcd) fun s H Q h => ?_
  obtain ⟨e, G, L, μ, sg, w, g⟩ := h
  unfold eVar getv at g
  cases he : e[i]? with
  | none =>
    simp only [he] at g
    exact False.elim g
  | some o =>
    cases o with
    | none =>
      simp only [he] at g
      exact False.elim g
    | some d =>
      simp only [he] at g
      obtain ⟨v, hv, r⟩ := sg.2 i d he
      exact ⟨v, hv, Good.ret g w v r⟩
theorem j_int {i : Int} {j} : JE k X E (.Constant (.int i) j pos) (eC (.int i)) := PE.imp pe_int fun s H Q h => dE_val h fun _ _ => .int i
theorem j_bl {i : Bool} {j} : JE k X E (.Constant (.bool i) j pos) (eC (.bl i)) := PE.imp pe_bl fun s H Q h => dE_val h fun _ _ => .bl i
theorem j_non {j} : JE k X E (.Constant .none j pos) (eC .non) := PE.imp pe_non fun s H Q h => dE_val h fun _ _ => .non
theorem j_glob {x : Str} {v : V} {u : Value} {d : D} (hg : Gl X x) (hm : X.mg x = some u) (r : RelV v u) (hr : ∀ G L, Rp k X.K G L v d) (hd : (x == ("__debug__" : Str)) = false := by decide) : JE k X E (.Name x pos) (eC d) :=
  PE.imp (pe_glob hg hm r hd) fun s H Q h => dE_val h hr
theorem j_op {op : Operator} {g : D → D → M D} (ho : BinD k X E (binaryOp op) g) (ha : JE k X E a ma) (hb : JE k X E b mb) : JE k X E (.BinOp a op b pos) (eOp g ma mb) := by
  obtain ⟨r, h1, h2⟩ := ho
  exact PE.imp (pe_op h1 ha hb) fun s H Q h => dE_op h2 h
theorem j_cmp {op : CmpOp} {g : D → D → M D} (ho : BinD k X E (compareOp op) g) (ha : JE k X E a ma) (hb : JE k X E b mb) (hm : behindInMarks op b = false) : JE k X E (.Compare a [op] [b] pos) (eOp g ma mb) := by
  obtain ⟨r, h1, h2⟩ := ho
  exact PE.imp (pe_cmpR h1 ha hb hm) fun s H Q h => dE_op h2 h
theorem j_un {op : UnaryOp} {g : D → M D} (ho : MonD k X E (unaryOp op) g) (ha : JE k X E a ma) : JE k X E (.UnaryOp op a pos) (eUn g ma) := by
  obtain ⟨r, h1, h2⟩ := ho
  refine PE.imp (pe_un h1 ha) fun s H Q h => ?_
  obtain ⟨e, G, L, μ, sg, w, gd⟩ := h
  refine ⟨e, G, L, μ, sg, w, Good.mono (Good.bind gd) fun d1 m1 G1 H1 L1 st1 w1 q1 x r1 => ?_⟩
  exact h2 x d1 G1 H1 L1 m1 Q r1 w1 q1
theorem asB_good {β : Type} {d : D} {f : Bool → M β} {G H : Hp} {L : Lam} {μ : Store} {Q : β → Store → Hp → Hp → Lam → Prop} {v : V} (r : Rp k X.K G L v d) (g : Good k X.K E G H L ((asB d >>= f) μ) Q) : ∃ b, v = .bl b ∧ d = .bl b ∧ Good k X.K E G H L (f b μ) Q := by
  cases d with
  | bl b =>
    cases r
    exact ⟨b, rfl, rfl, g⟩
  | _ => exact False.elim g
variable {rest : List Expr}
theorem j_one {op} (h : JE k X E a ma) : JE k X E (.BoolOp op [a] pos) ma := pe_one h
theorem j_and (ha : JE k X E a ma) (hb : JE k X E (.BoolOp .And (b :: rest) pos) mb) : JE k X E (.BoolOp .And (a :: b :: rest) pos) (eAnd ma mb) := by
  refine PE.imp (pe_and ha hb) fun s H Q h => ?_
  obtain ⟨e, G, L, μ, sg, w, gd⟩ := h
  refine ⟨e, G, L, μ, sg, w, Good.mono (Good.bind gd) fun d m1 G1 H1 L1 st1 w1 q1 v r => ?_⟩
  obtain ⟨c, rfl, rfl, q⟩ := asB_good r q1
  refine ⟨c, rfl, ?_⟩
  cases c with
  | true => exact ⟨e, G1, L1, m1, sg.mono st1.g st1.l, w1, q⟩
  | false => exact Good.ret q w1 _ (.bl false)
theorem j_not (ha : JE k X E a ma) : JE k X E (.UnaryOp .Not a pos) (eNot ma) := by
  refine PE.imp (pe_not ha) fun s H Q h => ?_
  obtain ⟨e, G, L, μ, sg, w, gd⟩ := h
  refine ⟨e, G, L, μ, sg, w, Good.mono (Good.bind gd) fun d m1 G1 H1 L1 st1 w1 q1 v r => ?_⟩
  obtain ⟨c, rfl, rfl, q⟩ := asB_good r q1
  exact ⟨c, rfl, Good.ret q w1 _ (.bl _)⟩
theorem dE_chain {r r' : R2} {g g' : D → D → M D} (h1 : OpD k X.K E r g) (h2 : OpD k X.K E r' g') {s : L2.St} {H : Hp} {Q : VK} (h : dE k X.K E (eChain g g' ma mb mc) s H Q) : tChain r r' (dE k X.K E ma) (dE k X.K E mb) (dE k X.K E mc) s H Q := by
  obtain ⟨e, G, L, μ, sg, w, gd⟩ := h
  refine ⟨e, G, L, μ, sg, w, Good.mono (Good.bind gd) fun d1 m1 G1 H1 L1 st1 w1 q1 x r1 => ?_⟩
  refine ⟨e, G1, L1, m1, sg.mono st1.g st1.l, w1, Good.mono (Good.bind q1) fun d2 m2 G2 H2 L2 st2 w2 q2 y r2 => ?_⟩
  refine h1 x y d1 d2 G2 H2 L2 m2 _ (Rp.mono st2.g st2.l _ _ r1) r2 w2 (Good.mono (Good.bind q2) fun d3 m3 G3 H3 L3 st3 w3 q3 z r3 => ?_)
  obtain ⟨c, rfl, rfl, q⟩ := asB_good r3 q3
  refine ⟨c, rfl, ?_⟩
  cases c with
  | false => exact Good.ret q w3 _ (.bl false)
  | true =>
    refine ⟨e, G3, L3, m3, ((sg.mono st1.g st1.l).mono st2.g st2.l).mono st3.g st3.l, w3, Good.mono (Good.bind q) fun d4 m4 G4 H4 L4 st4 w4 q4 u r4 => ?_⟩
    exact h2 y u d2 d4 G4 H4 L4 m4 Q (Rp.mono st4.g st4.l _ _ (Rp.mono st3.g st3.l _ _ r2)) r4 w4 q4
theorem j_chain {op op' : CmpOp} {g g' : D → D → M D} (ho : BinD k X E (compareOp op) g) (ho' : BinD k X E (compareOp op') g') (ha : JE k X E a ma) (hb : JE k X E b mb) (hc : JE k X E c mc)
    (hm : lastMarks [op, op'] [b, c] = false := by with_unfolding_all rfl) : JE k X E (.Compare a [op, op'] [b, c] pos) (eChain g g' ma mb mc) := by
  obtain ⟨r, h1, h2⟩ := ho
  obtain ⟨r', h1', h2'⟩ := ho'
  exact PE.imp (pe_chain h1 h1' ha hb hc hm) fun s H Q h => dE_chain h2 h2' h
theorem dT_B {t : TE → TT} {te : TE} {s : L2.St} {H : Hp} {Q : Bool → Hp → Prop} {m : DEnv → M D} (h : dT k X.K E (tB' m) s H Q) : dE k X.K E m s H fun x H' => ∃ c, x = .bl c ∧ Q c H' := by
  obtain ⟨e, G, L, μ, sg, w, gd⟩ := h
  refine ⟨e, G, L, μ, sg, w, Good.mono (Good.bind gd) fun d m1 G1 H1 L1 st1 w1 q1 v r => ?_⟩
  obtain ⟨c, rfl, rfl, q⟩ := asB_good (f := fun b => (pure b : M Bool)) r (show Good k X.K E G1 H1 L1 ((asB d >>= fun b => (pure b : M Bool)) m1) _ by
    have e2 : (asB d >>= fun b => (pure b : M Bool)) m1 = asB d m1 := by
      cases d <;> rfl
    rw [e2]
    exact q1)
  exact ⟨c, rfl, Good.ret q w1⟩
theorem jt_val (h : JE k X E a ma) (he : ∀ whole, isTrue a X.env whole = (do let v ← whole; standAt a.pos; holding [v] (truthy v)) := by intro _; rfl) : JT k X E a (tB' ma) :=
  PT.imp (pt_val h he) fun s H Q h => dT_B (t := fun _ => tYes) (te := tC .non) h
theorem jt_cmp {op : CmpOp} {g : D → D → M D} (ho : BinD k X E (compareOp op) g) (ha : JE k X E a ma) (hb : JE k X E b mb) (hm : behindInMarks op b = false) : JT k X E (.Compare a [op] [b] pos) (tB' (eOp g ma mb)) := by
  obtain ⟨r, h1, h2⟩ := ho
  exact PT.imp (pt_cmpR h1 ha hb hm) fun s H Q h => dE_op h2 (dT_B (t := fun _ => tYes) (te := tC .non) h)
theorem jt_chain {op op' : CmpOp} {g g' : D → D → M D} (ho : BinD k X E (compareOp op) g) (ho' : BinD k X E (compareOp op') g') (ha : JE k X E a ma) (hb : JE k X E b mb) (hc : JE k X E c mc)
    (hm : lastMarks [op, op'] [b, c] = false := by with_unfolding_all rfl) : JT k X E (.Compare a [op, op'] [b, c] pos) (tB' (eChain g g' ma mb mc)) := by
  obtain ⟨r, h1, h2⟩ := ho
  obtain ⟨r', h1', h2'⟩ := ho'
  exact PT.imp (pt_chain h1 h1' ha hb hc hm) fun s H Q h => dE_chain h2 h2' (dT_B (t := fun _ => tYes) (te := tC .non) h)
theorem size_of {n : Nat} (h : n ≤ 100000) : n ≤ sizeLine := Nat.le_trans h (by decide)
variable {t : Expr} {mt mu : DEnv → M Bool}
theorem jt_w (h : JW k X E t mt) : JT k X E t mt := h.pt
theorem jt_not (h : JT k X E t mt) : JT k X E (.UnaryOp .Not t pos) (tNotD mt) := by
  refine PT.imp (pt_not h) fun s H Q h => ?_
  obtain ⟨e, G, L, μ, sg, w, gd⟩ := h
  refine ⟨e, G, L, μ, sg, w, Good.mono (Good.bind gd) fun c m1 G1 H1 L1 st1 w1 q1 => ?_⟩
  exact Good.ret q1 w1
theorem jw_and1 (h : JT k X E t mt) : JW k X E (.BoolOp .And [t] pos) mt := pw_and1 h
theorem jw_or1 (h : JT k X E t mt) : JW k X E (.BoolOp .Or [t] pos) mt := pw_or1 h
theorem jw_and (h : JT k X E t mt) (hb : JW k X E (.BoolOp .And (b :: rest) pos) mu) : JW k X E (.BoolOp .And (t :: b :: rest) pos) (tAndD mt mu) := by
  refine PW.imp (pw_and h hb) fun s H Q h => ?_
  obtain ⟨e, G, L, μ, sg, w, gd⟩ := h
  refine ⟨e, G, L, μ, sg, w, Good.mono (Good.bind gd) fun c m1 G1 H1 L1 st1 w1 q1 => ?_⟩
  cases c with
  | true => exact ⟨e, G1, L1, m1, sg.mono st1.g st1.l, w1, q1⟩
  | false => exact Good.ret q1 w1
theorem jw_or (h : JT k X E t mt) (hb : JW k X E (.BoolOp .Or (b :: rest) pos) mu) : JW k X E (.BoolOp .Or (t :: b :: rest) pos) (tOrD mt mu) := by
  refine PW.imp (pw_or h hb) fun s H Q h => ?_
  obtain ⟨e, G, L, μ, sg, w, gd⟩ := h
  refine ⟨e, G, L, μ, sg, w, Good.mono (Good.bind gd) fun c m1 G1 H1 L1 st1 w1 q1 => ?_⟩
  cases c with
  | false => exact ⟨e, G1, L1, m1, sg.mono st1.g st1.l, w1, q1⟩
  | true => exact Good.ret q1 w1
variable {es : List Expr} {ms : DEnv → M (List D)}
theorem ja_nil : JA k X E [] aNil := by
  refine PA.imp pa_nil fun s H Q h => ?_
  obtain ⟨e, G, L, μ, sg, w, gd⟩ := h
  exact Good.ret gd w [] .nil
theorem ja_cons (ha : JE k X E a ma) (hr : JA k X E es ms) (hs : starEach (a :: es) X.env = (false, eval a X.env) :: starEach es X.env := by rfl) : JA k X E (a :: es) (aCons ma ms) := by
  refine PA.imp (pa_cons ha hr hs) fun s H Q h => ?_
  obtain ⟨e, G, L, μ, sg, w, gd⟩ := h
  refine ⟨e, G, L, μ, sg, w, Good.mono (Good.bind gd) fun d1 m1 G1 H1 L1 st1 w1 q1 x r1 => ?_⟩
  refine ⟨e, G1, L1, m1, sg.mono st1.g st1.l, w1, Good.mono (Good.bind q1) fun d2 m2 G2 H2 L2 st2 w2 q2 xs r2 => ?_⟩
  exact Good.ret q2 w2 _ (.cons (Rp.mono st2.g st2.l _ _ r1) r2)
theorem good_ite {α : Type} {c : Prop} [Decidable c] {x : M α} {G H : Hp} {L : Lam} {μ : Store} {Q : α → Store → Hp → Hp → Lam → Prop} (g : Good k X.K E G H L ((if c then x else M.bad) μ) Q) : c ∧ Good k X.K E G H L (x μ) Q := by
  by_cases h : c
  · rw [if_pos h] at g
    exact ⟨h, g⟩
  · rw [if_neg h] at g
    exact False.elim g
/-- a new list, as data -/
theorem good_mkL {G H : Hp} {L : Lam} {μ : Store} {Q : VK} {vs : List V} {ds : List D} (r : RpA k X.K G L vs ds) (w : Wd k X.K G H L μ) (g : Good k X.K E G H L (mkL ds μ) (QV k X.K Q)) :
    vs.length ≤ sizeLine ∧ ∀ p, H p = none → Q (.ref p) (upd H p (.lst vs)) := by
  obtain ⟨hz, g⟩ := good_ite g
  refine ⟨by rw [r.len]; exact size_of hz, fun p hp => ?_⟩
  exact g _ _ _ (w.newS hp) (w.new hp) _ (.lst (SqL.of upd_same) (RpA.mono (w.newS (o := .lst vs) hp).g (pre_refl L) _ _ r))
theorem good_mkT {G H : Hp} {L : Lam} {μ : Store} {Q : VK} {vs : List V} {ds : List D} (r : RpA k X.K G L vs ds) (w : Wd k X.K G H L μ) (g : Good k X.K E G H L (mkT ds μ) (QV k X.K Q)) :
    vs.length ≤ sizeLine ∧ ∀ p, H p = none → Q (.ref p) (upd H p (.tup vs)) := by
  obtain ⟨hz, g⟩ := good_ite g
  refine ⟨by rw [r.len]; exact size_of hz, fun p hp => ?_⟩
  exact g _ _ _ (w.newS hp) (w.new hp) _ (.tup (SqT.of upd_same) (RpA.mono (w.newS (o := .tup vs) hp).g (pre_refl L) _ _ r))
theorem good_newM {G H : Hp} {L : Lam} {μ : Store} {Q : VK} {vs : List V} {ds : List D} (r : RpA k X.K G L vs ds) (w : Wd k X.K G H L μ) (g : Good k X.K E G H L (newM ds μ) (QV k X.K Q)) :
    vs.length ≤ sizeLine ∧ ∀ p, H p = none → Q (.ref p) (upd H p (.lst vs)) := by
  unfold newM at g
  by_cases hz : ds.length ≤ 100000
  · rw [if_pos hz] at g
    refine ⟨by rw [r.len]; exact size_of hz, fun p hp => ?_⟩
    exact g _ _ _ (newLocS hp) (w.newLoc hp r) _ (.loc (a := p) (b := p) (by rw [← w.len]; simp))
  · rw [if_neg hz] at g
    exact False.elim g
theorem j_tup {x1} (h : JA k X E es ms) : JE k X E (.Tuple es x1 pos) (eTup ms) := by
  refine PE.imp (pe_tup h) fun s H Q h => ?_
  obtain ⟨e, G, L, μ, sg, w, gd⟩ := h
  exact ⟨e, G, L, μ, sg, w, Good.mono (Good.bind gd) fun d1 m1 G1 H1 L1 st1 w1 q1 x r1 => good_mkT r1 w1 q1⟩
theorem j_lst (h : JA k X E es ms) : JE k X E (.List es pos) (eLst ms) := by
  refine PE.imp (pe_lst h) fun s H Q h => ?_
  obtain ⟨e, G, L, μ, sg, w, gd⟩ := h
  exact ⟨e, G, L, μ, sg, w, Good.mono (Good.bind gd) fun d1 m1 G1 H1 L1 st1 w1 q1 x r1 => good_mkL r1 w1 q1⟩
theorem j_lstM (h : JA k X E es ms) : JE k X E (.List es pos) (eLstM ms) := by
  refine PE.imp (pe_lst h) fun s H Q h => ?_
  obtain ⟨e, G, L, μ, sg, w, gd⟩ := h
  exact ⟨e, G, L, μ, sg, w, Good.mono (Good.bind gd) fun d1 m1 G1 H1 L1 st1 w1 q1 x r1 => good_newM r1 w1 q1⟩
variable {x : Str} {p : Pos} {id T : String} {g : List D → M D}
theorem j_callB (hc : FunD k X E (.builtin id) g) (hg : Gl X x) (hm : X.mg x = none) (hv : bootBuiltins x = some (.builtin id)) (ha : JA k X E (a :: es) ms) (hn : x ≠ "__name__" := by decide) (hdb : (x == ("__debug__" : Str)) = false := by decide)
    (he : starEach (a :: es) X.env = (false, eval a X.env) :: starEach es X.env := by rfl) (hpl : (backTo pos (starEach es X.env)).any (·.1) = false := by rfl) : JE k X E (.Call (.Name x p) (a :: es) [] pos) (eCallB g ms) := by
  obtain ⟨r, h1, h2⟩ := hc
  refine PE.imp (pe_callB h1 hg hm hv ha hn hdb he hpl) fun s H Q h => ?_
  obtain ⟨e, G, L, μ, sg, w, gd⟩ := h
  exact ⟨e, G, L, μ, sg, w, Good.mono (Good.bind gd) fun d1 m1 G1 H1 L1 st1 w1 q1 x r1 => h2 x d1 G1 H1 L1 m1 Q r1 w1 q1⟩
theorem j_callTy (hc : FunD k X E (.type T) g) (hg : Gl X x) (hm : X.mg x = none) (hv : bootBuiltins x = some (.type T)) (ha : JA k X E (a :: es) ms) (hn : x ≠ "__name__" := by decide) (hdb : (x == ("__debug__" : Str)) = false := by decide)
    (he : starEach (a :: es) X.env = (false, eval a X.env) :: starEach es X.env := by rfl) (hpl : (backTo pos (starEach es X.env)).any (·.1) = false := by rfl) : JE k X E (.Call (.Name x p) (a :: es) [] pos) (eCallB g ms) := by
  obtain ⟨r, h1, h2⟩ := hc
  refine PE.imp (pe_callTy h1 hg hm hv ha hn hdb he hpl) fun s H Q h => ?_
  obtain ⟨e, G, L, μ, sg, w, gd⟩ := h
  exact ⟨e, G, L, μ, sg, w, Good.mono (Good.bind gd) fun d1 m1 G1 H1 L1 st1 w1 q1 x r1 => h2 x d1 G1 H1 L1 m1 Q r1 w1 q1⟩
end
end DL
namespace DL
open PySem L2 PyProof.Rows
def gI (C : Int → Int → Prop) [∀ i j, Decidable (C i j)] (f : Int → Int → D) : D → D → M D
  | .int i, .int j => if C i j then pure (f i j) else M.bad
  | _, _ => M.bad
def gI0 (f : Int → Int → D) : D → D → M D
  | .int i, .int j => pure (f i j)
  | _, _ => M.bad
def addD (x y : D) : M D := match x, y with
  | .int i, .int j => pure (.int (i + j))
  | .str i, .str j => if i.length + j.length ≤ 100000 then pure (.str (i ++ j)) else M.bad
  | .tup i, .tup j => mkT (i ++ j)
  | x, y => do let i ← (match x with | .tup _ => M.bad | _ => seqD x); let j ← (match y with | .tup _ => M.bad | _ => seqD y); mkL (i ++ j)
abbrev CM (i j : Int) : Prop := (-(2 ^ 64) < i ∧ i < 2 ^ 64) ∨ (-(2 ^ 64) < j ∧ j < 2 ^ 64)
abbrev CDv (_ j : Int) : Prop := 0 < j ∧ j < 2 ^ 100
abbrev CPw (i j : Int) : Prop := 0 ≤ j ∧ j ≤ 1000 ∧ i.natAbs < 2 ^ 64
def subD : D → D → M D := gI0 fun i j => .int (i - j)
def modD : D → D → M D := gI (fun _ j => 0 < j) fun i j => .int (i % j)
def fdvD : D → D → M D := gI CDv fun i j => .int (i / j)
def powD : D → D → M D := gI CPw fun i j => .int (i ^ j.toNat)
def negD : D → M D
  | .int i => pure (.int (-i))
  | _ => M.bad
def mulD (x y : D) : M D := match x, y with
  | .int i, .int j => if CM i j then pure (.int (i * j)) else M.bad
  | .tup i, .int j => if 1 ≤ j ∧ j ≤ 1000 ∧ i.length ≤ 1000 ∧ 0 < i.length then pure (.tup (List.replicate j.toNat i).flatten) else M.bad
  | _, _ => M.bad
section
variable {k : Kx} {X : Cx} {E : XK}
theorem OpR.or {f : Value → Value → Sem Value} {r r' : R2} (h : OpR X f r) (h' : OpR X f r') : OpR X f (fun x y H Q => r x y H Q ∨ r' x y H Q) := by
  intro pins s σ H x y v u Q I rx ry q
  rcases q with q | q
  · exact h pins s σ H x y v u Q I rx ry q
  · exact h' pins s σ H x y v u Q I rx ry q
theorem opD_I {C : Int → Int → Prop} [∀ i j, Decidable (C i j)] {C' : Int → Int → Prop} {f : Int → Int → D} {g : Int → Int → V} (hC : ∀ i j, C i j → C' i j) (hr : ∀ G L i j, Rp k X.K G L (g i j) (f i j)) : OpD k X.K E (rI C' g) (gI C f) := by
  intro x y dx dy G H L μ Q rx ry w gd
  cases dx with
  | int i =>
    cases dy with
    | int j =>
      cases rx
      cases ry
      obtain ⟨hc, gd⟩ := good_ite gd
      exact ⟨i, j, rfl, rfl, hC i j hc, Good.ret gd w _ (hr _ _ i j)⟩
    | _ => exact False.elim gd
  | _ => exact False.elim gd
theorem opD_I0 {f : Int → Int → D} {g : Int → Int → V} (hr : ∀ G L i j, Rp k X.K G L (g i j) (f i j)) : OpD k X.K E (rI0 g) (gI0 f) := by
  intro x y dx dy G H L μ Q rx ry w gd
  cases dx with
  | int i =>
    cases dy with
    | int j =>
      cases rx
      cases ry
      exact ⟨i, j, rfl, rfl, Good.ret gd w _ (hr _ _ i j)⟩
    | _ => exact False.elim gd
  | _ => exact False.elim gd
theorem b_sub : BinD k X E (binaryOp .Sub) subD := ⟨_, op_sub, opD_I0 fun _ _ _ _ => .int _⟩
theorem b_mod : BinD k X E (binaryOp .Mod) modD := ⟨_, op_mod, opD_I (fun _ _ h => h) fun _ _ _ _ => .int _⟩
theorem fdv_ok {i j : Int} (h : CDv i j) : CDivW i j := ⟨h.1, by
  have h2 : j.natAbs < 2 ^ 100 := by omega
  exact Nat.lt_of_lt_of_le (PySem.Flt.log2_lt_of (by decide) h2) (by decide)⟩
theorem b_fdv : BinD k X E (binaryOp .FloorDiv) fdvD := ⟨_, op_fdivW, opD_I (fun _ _ h => fdv_ok h) fun _ _ _ _ => .int _⟩
theorem b_pow : BinD k X E (binaryOp .Pow) powD := ⟨_, op_pow, opD_I (fun _ _ h => ⟨h.1, by have := h.2.1; omega, h.2.2⟩) fun _ _ _ _ => .int _⟩
theorem u_neg : MonD k X E (unaryOp .USub) negD := by
  refine ⟨_, un_neg, fun x dx G H L μ Q r w g => ?_⟩
  cases dx with
  | int i => cases r; exact ⟨i, rfl, Good.ret g w _ (.int _)⟩
  | _ => exact False.elim g
/-- what a list or tuple is read as, by its data -/
theorem seq_of {d : D} {x : V} {G H : Hp} {L : Lam} {μ : Store} {β : Type} {f : List D → M β} {Q : β → Store → Hp → Hp → Lam → Prop} (r : Rp k X.K G L x d) (w : Wd k X.K G H L μ) (g : Good k X.K E G H L ((seqD d >>= f) μ) Q) :
    ∃ a vs ds, x = .ref a ∧ RpA k X.K G L vs ds ∧ ((SqL X.K H a vs ∧ ∀ t, d ≠ .tup t) ∨ (SqT X.K H a vs ∧ d = .tup ds)) ∧ Good k X.K E G H L (f ds μ) Q := by
  cases d with
  | lst ds =>
    cases r with
    | lst hs ha => exact ⟨_, _, ds, rfl, ha, .inl ⟨w.ext.seq hs, fun _ z => nomatch z⟩, g⟩
  | tup ds =>
    cases r with
    | tup hs ha => exact ⟨_, _, ds, rfl, ha, .inr ⟨sqT_mono w.ext hs, rfl⟩, g⟩
  | loc n =>
    have g' : Good k X.K E G H L (M.bind (seqD (.loc n)) f μ) Q := g
    unfold M.bind seqD at g'
    simp only at g'
    cases hm : μ[n]? with
    | none => rw [hm] at g'; exact False.elim g'
    | some o =>
      cases o with
      | none => rw [hm] at g'; exact False.elim g'
      | some c =>
        cases c with
        | ins _ _ => rw [hm] at g'; exact False.elim g'
        | dct _ _ => rw [hm] at g'; exact False.elim g'
        | lst ds =>
          rw [hm] at g'
          obtain ⟨a, vs, rfl, _, _, h, ra⟩ := w.look hm r
          exact ⟨a, vs, ds, rfl, ra, .inl ⟨SqL.of h, fun _ z => nomatch z⟩, g'⟩
  | _ => exact False.elim g
/-- list + list, whatever they are read from -/
def rCatS (K : PySem.W.Frag) : R2 := fun x y H Q => ∃ l b xs zs, x = .ref l ∧ y = .ref b ∧ SqL K H l xs ∧ SqL K H b zs ∧ xs.length + zs.length ≤ sizeLine ∧ ∀ p, H p = none → Q (.ref p) (upd H p (.lst (xs ++ zs)))
theorem op_catS : OpR X (binaryOp .Add) (rCatS X.K) := by
  intro pins s σ H x y v u Q I rx ry h
  obtain ⟨l, b, xs, zs, rfl, rfl, hH, hB, hz, q⟩ := h
  cases rx
  cases ry
  obtain ⟨its, r, pl, z⟩ := I.list hH
  obtain ⟨its2, r2, pl2, z2⟩ := I.list hB
  have hl := r.length
  have hl2 := r2.length
  obtain ⟨⟨cls, dd, data, sl⟩, ho, hc, n, hd⟩ := pl.isList
  obtain ⟨⟨cls2, dd2, data2, sl2⟩, ho2, hc2, n2, hd2⟩ := pl2.isList
  simp only at hc hd hc2 hd2
  subst hc hd hc2 hd2
  have e : its.toArray ++ its2.toArray = (its ++ its2).toArray := by simp
  refine concat_meets ⟨_, ho, rfl⟩ ⟨_, ho2, rfl⟩ noFill_list_add seq_list_add PySem.F.slot_list_add PySem.F.entry_list_add (PySem.F.args_list_add_2 _ _) (list_addW l b its.toArray its2.toArray n n2 dd dd2 sl sl2 (by simp only [List.size_toArray]; omega)) ⟨ho, ho2, ?_⟩
  rw [e]
  exact ⟨.ref _, _, I.lnew (t' := s.toks) (r.append r2) (by rw [List.length_append]; omega), rfl, q _ I.fresh⟩
theorem b_add : BinD k X E (binaryOp .Add) addD := by
  refine ⟨_, OpR.or op_add (OpR.or op_add_str (OpR.or op_catA op_catS)), fun x y dx dy G H L μ Q rx ry w g => ?_⟩
  have lst : Good k X.K E G H L ((do let i ← seqD dx; let j ← seqD dy; mkL (i ++ j)) μ) (QV k X.K Q) → (∀ t, dx ≠ .tup t) → (∀ t, dy ≠ .tup t) → rCatS X.K x y H Q := fun g n1 n2 => by
    obtain ⟨a, vs, ds, rfl, ra, hs, g⟩ := seq_of rx w g
    obtain ⟨b, ws, es, rfl, rb, ht, g⟩ := seq_of ry w g
    rcases hs with ⟨hs, _⟩ | ⟨_, e⟩
    · rcases ht with ⟨ht, _⟩ | ⟨_, e⟩
      · obtain ⟨hz, q⟩ := good_mkL (ra.append rb) w g
        exact ⟨a, b, vs, ws, rfl, rfl, hs, ht, by rw [List.length_append] at hz; exact hz, q⟩
      · exact absurd e (n2 es)
    · exact absurd e (n1 ds)
  cases dx with
  | int i =>
    cases dy with
    | int j => cases rx; cases ry; exact .inl ⟨i, j, rfl, rfl, Good.ret g w _ (.int _)⟩
    | _ => exact False.elim g
  | str i =>
    cases dy with
    | str j =>
      cases rx
      cases ry
      obtain ⟨hz, g⟩ := good_ite g
      exact .inr (.inl ⟨i, j, rfl, rfl, size_of hz, Good.ret g w _ (.str _)⟩)
    | _ => exact False.elim g
  | tup ds =>
    cases dy with
    | tup es =>
      cases rx with
      | @tup a xs _ hs ha =>
        cases ry with
        | @tup b ys _ ht hb =>
          have g2 := g
          obtain ⟨hz, g1⟩ := good_ite g2
          have hs' := sqT_mono w.ext hs
          have ht' := sqT_mono w.ext ht
          refine .inr (.inr (.inl ⟨a, b, xs, ys, rfl, rfl, hs', ht', ?_, fun e => ?_, fun _ e => ?_, fun _ _ p hp => ?_⟩))
          · rw [ha.len, hb.len, ← List.length_append]
            exact size_of hz
          · subst e
            cases ha
            exact Good.ret g1 w _ (.tup ht hb)
          · subst e
            cases hb
            rw [List.append_nil] at g1
            exact Good.ret g1 w _ (.tup hs ha)
          · exact (good_mkT (ha.append hb) w g).2 p hp
    | _ => exact False.elim g
  | lst ds =>
    cases dy with
    | tup _ => exact False.elim g
    | lst es => exact .inr (.inr (.inr (lst g (fun _ z => nomatch z) fun _ z => nomatch z)))
    | loc n => exact .inr (.inr (.inr (lst g (fun _ z => nomatch z) fun _ z => nomatch z)))
    | _ => exact False.elim g
  | loc n =>
    refine .inr (.inr (.inr ?_))
    cases dy with
    | tup _ =>
      obtain ⟨a, vs, ds, rfl, ra, hs, g⟩ := seq_of (f := fun i => do let j ← (M.bad : M (List D)); mkL (i ++ j)) rx w g
      exact False.elim g
    | lst es => exact lst g (fun _ z => nomatch z) fun _ z => nomatch z
    | loc n => exact lst g (fun _ z => nomatch z) fun _ z => nomatch z
    | _ =>
      obtain ⟨a, vs, ds, rfl, ra, hs, g⟩ := seq_of rx w g
      exact False.elim g
  | _ =>
    cases dy <;> exact False.elim g
end
end DL
namespace DL
open PySem L2 PyProof.Rows
section
variable {k : Kx} {X : Cx} {E : XK}
theorem tuple_mul1 (l : Addr) (items : Array Value) (n : Nat) (dd : Option Addr) (sl : Array (Option Value)) (u : Tok) :
    Meets (Builtin.«tuple.__mul__» ⟨[.ref l, .int 1 u], []⟩) (fun _ R s => s.heap.get? l = some { cls := .type "tuple", dict := dd, data := .seq items n, slots := sl } ∧ R (.ok (.ret (Value.ref l))) s) :=
  .of_wp fun prog w A R s h => by
    obtain ⟨hp, g, d, tk, os⟩ := s
    obtain ⟨hl, h⟩ := h
    have f1 := AutoSeq1.idx_int
    have c1 : (items.isEmpty || (1 : Int) == 1) = true := by simp
    wp_walk using wpAny_loadPart' hl
    repeat (first
      | (refine wpAny_ite_true (decide_eq_true c1) ?_; wp_walk using wpAny_loadPart' hl))
    exact ⟨_, rfl, h⟩
theorem op_repT1 : OpR X (binaryOp .Mult) (fun x y H Q => ∃ l xs, x = .ref l ∧ y = .int 1 ∧ SqT X.K H l xs ∧ Q (.ref l) H) := by
  intro pins s σ H x y v u Q I rx ry h
  obtain ⟨l, xs, rfl, rfl, hT, q⟩ := h
  cases rx
  obtain ⟨t, rfl⟩ := ry
  obtain ⟨its, r, ⟨⟨cls, dd, data, sl⟩, ho, hc, n, hd⟩, hs⟩ := I.tuple hT
  simp only at hc hd
  subst hc hd
  refine wpAny_binaryOp_repeat_ref (T := "tuple") (U := "int") (by decide) ⟨_, ho, rfl⟩ (fun s' => typeIs_int s' 1 t) noFill_tuple_mul PySem.F.fills_int_mul PySem.F.slot_int_rmul repeat_tuple PySem.F.slot_int_index.lookup
    (call_meets PySem.F.slot_int_rmul (typeIs_int s 1 t) PySem.F.entry_int_rmul (PySem.F.args_int_rmul_2 _ _) (int_rmul_tuple 1 t l its.toArray n dd sl)
      ⟨ho, rfl, ⟨_, ho, rfl⟩, call_meets PySem.F.slot_tuple_mul ⟨_, ho, rfl⟩ PySem.F.entry_tuple_mul (PySem.F.args_tuple_mul_2 _ _) (tuple_mul1 l its.toArray n dd sl t) ⟨ho, ?_⟩⟩)
  exact ⟨.ref l, H, I, rfl, q⟩
theorem rpA_rep {G : Hp} {L : Lam} {vs : List V} {ds : List D} (r : RpA k X.K G L vs ds) : ∀ n : Nat, RpA k X.K G L (List.replicate n vs).flatten (List.replicate n ds).flatten
  | 0 => .nil
  | n + 1 => by
    rw [List.replicate_succ, List.replicate_succ, List.flatten_cons, List.flatten_cons]
    exact r.append (rpA_rep r n)
theorem b_mul : BinD k X E (binaryOp .Mult) mulD := by
  refine ⟨_, OpR.or op_mul (OpR.or op_repT op_repT1), fun x y dx dy G H L μ Q rx ry w g => ?_⟩
  cases dx with
  | int i =>
    cases dy with
    | int j =>
      cases rx
      cases ry
      obtain ⟨hz, g⟩ := good_ite g
      exact .inl ⟨i, j, rfl, rfl, hz, Good.ret g w _ (.int _)⟩
    | _ => exact False.elim g
  | tup ds =>
    cases dy with
    | int j =>
      cases rx with
      | @tup a xs _ hs ha =>
        cases ry
        obtain ⟨⟨h1, h2, h3, h4⟩, g⟩ := good_ite g
        by_cases hj : j = 1
        · subst hj
          refine .inr (.inr ⟨a, xs, rfl, rfl, sqT_mono w.ext hs, ?_⟩)
          have e : (List.replicate (1 : Int).toNat ds).flatten = ds := by simp
          rw [e] at g
          exact Good.ret g w _ (.tup hs ha)
        · refine .inr (.inl ⟨a, j, xs, rfl, rfl, sqT_mono w.ext hs, fun e => ?_, by omega, h2, by rw [ha.len]; exact h3, fun p hp => ?_⟩)
          · subst e
            cases ha
            simp at h4
          · exact g _ _ _ (w.newS hp) (w.new hp) _ (.tup (SqT.of upd_same) (RpA.mono (w.newS (o := .tup (List.replicate j.toNat xs).flatten) hp).g (pre_refl L) _ _ (rpA_rep ha j.toNat)))
    | _ => exact False.elim g
  | _ => cases dy <;> exact False.elim g
mutual
def toPD : D → Option PyData
  | .non => some .none
  | .bl b => some (.bool b)
  | .int i => some (.int i)
  | .str s => some (.str s)
  | .lst ds => (toPDs ds).map .list
  | .tup ds => (toPDs ds).map .tuple
  | .loc _ => none
  | .obj _ _ => none
  | .cls _ => none
  | .dct _ _ => none
  | .fdc _ _ => none
  | .err _ _ => none
def toPDs : List D → Option (List PyData)
  | [] => some []
  | d :: ds => match toPD d, toPDs ds with
    | some x, some xs => some (x :: xs)
    | _, _ => none
end
theorem toPDs_cons {d : D} {ds : List D} {xs : List PyData} (h : toPDs (d :: ds) = some xs) : ∃ y ys, xs = y :: ys ∧ toPD d = some y ∧ toPDs ds = some ys := by
  rw [toPDs] at h
  cases e1 : toPD d with
  | none => rw [e1] at h; cases h
  | some y =>
    cases e2 : toPDs ds with
    | none => rw [e1, e2] at h; cases h
    | some ys =>
      rw [e1, e2] at h
      cases h
      exact ⟨y, ys, rfl, rfl, rfl⟩
mutual
theorem dp_of {G H : Hp} {L : Lam} (e : Same G H) : ∀ (d : D) (v : V) (x : PyData), Rp k X.K G L v d → toPD d = some x → Dp X.K H v x
  | .non, _, _, r, h => by cases r; simp only [toPD] at h; cases h; exact .non
  | .bl b, _, _, r, h => by cases r; simp only [toPD] at h; cases h; exact .bl b
  | .int i, _, _, r, h => by cases r; simp only [toPD] at h; cases h; exact .int i
  | .str i, _, _, r, h => by cases r; simp only [toPD] at h; cases h; exact .str i
  | .lst ds, _, _, r, h => by
    cases r with
    | lst hs ha =>
      simp only [toPD] at h
      cases e2 : toPDs ds with
      | none => rw [e2] at h; cases h
      | some ys =>
        rw [e2] at h
        cases h
        exact .lst (e.seq hs) (dpA_of e ds _ ys ha e2)
  | .tup ds, _, _, r, h => by
    cases r with
    | tup hs ha =>
      simp only [toPD] at h
      cases e2 : toPDs ds with
      | none => rw [e2] at h; cases h
      | some ys =>
        rw [e2] at h
        cases h
        exact .tup (sqT_mono e hs) (dpA_of e ds _ ys ha e2)
  | .loc _, _, _, r, h => by simp only [toPD] at h; cases h
  | .obj _ _, _, _, r, h => by simp only [toPD] at h; cases h
  | .cls _, _, _, r, h => by simp only [toPD] at h; cases h
  | .dct _ _, _, _, r, h => by simp only [toPD] at h; cases h
  | .fdc _ _, _, _, r, h => by simp only [toPD] at h; cases h
  | .err _ _, _, _, r, h => by simp only [toPD] at h; cases h
theorem dpA_of {G H : Hp} {L : Lam} (e : Same G H) : ∀ (ds : List D) (vs : List V) (xs : List PyData), RpA k X.K G L vs ds → toPDs ds = some xs → DpAll X.K H vs xs
  | [], _, _, r, h => by cases r; simp only [toPDs] at h; cases h; exact .nil
  | d :: ds, _, _, r, h => by
    cases r with
    | cons h1 h2 =>
      obtain ⟨y, ys, rfl, e1, e2⟩ := toPDs_cons h
      exact .cons (dp_of e d _ y h1 e1) (dpA_of e ds _ ys h2 e2)
end
/-- with a mutable list's items at the top -/
def topPD (d : D) (m : Store) : Option PyData := match d with
  | .loc n => match m[n]? with
    | some (some (.lst ds)) => (toPDs ds).map .list
    | _ => none
  | d => toPD d
theorem dp_top {G H : Hp} {L : Lam} {μ : Store} (w : Wd k X.K G H L μ) {d : D} {v : V} {x : PyData} (r : Rp k X.K G L v d) (h : topPD d μ = some x) : Dp X.K H v x := by
  cases d with
  | loc n =>
    simp only [topPD] at h
    cases hm : μ[n]? with
    | none => rw [hm] at h; cases h
    | some o =>
      cases o with
      | none => rw [hm] at h; cases h
      | some c =>
        cases c with
        | ins _ _ => rw [hm] at h; cases h
        | dct _ _ => rw [hm] at h; cases h
        | lst ds =>
          rw [hm] at h
          obtain ⟨a, vs, rfl, hl, ga, hh, ra⟩ := w.look hm r
          simp only at h
          cases e2 : toPDs ds with
          | none => rw [e2] at h; cases h
          | some ys =>
            rw [e2] at h
            cases h
            exact .lst (SqL.of hh) (dpA_of w.ext ds _ ys ra e2)
  | _ => exact dp_of w.ext _ v x r h
def onPD (f : PyData → PyData → Bool) (x y : D) : M D := fun m => match topPD x m, topPD y m with
  | some a, some b => if (SeqAt.shaped a && SeqAt.shaped b) = true then .ok (.bl (f a b)) m else .bad
  | _, _ => .bad
def eqD : D → D → M D := onPD PyData.eqv
def neD : D → D → M D := onPD fun a b => !PyData.eqv a b
theorem onPD_good {f : PyData → PyData → Bool} {x y : D} {G H : Hp} {L : Lam} {μ : Store} {Q : VK} (w : Wd k X.K G H L μ) (g : Good k X.K E G H L (onPD f x y μ) (QV k X.K Q)) :
    ∃ a b, topPD x μ = some a ∧ topPD y μ = some b ∧ SeqAt.shaped a = true ∧ SeqAt.shaped b = true ∧ Q (.bl (f a b)) H := by
  unfold onPD at g
  cases e1 : topPD x μ with
  | none => rw [e1] at g; exact False.elim g
  | some a =>
    cases e2 : topPD y μ with
    | none => rw [e1, e2] at g; exact False.elim g
    | some b =>
      simp only [e1, e2] at g
      by_cases hc : (SeqAt.shaped a && SeqAt.shaped b) = true
      · rw [if_pos hc] at g
        obtain ⟨h1, h2⟩ := Bool.and_eq_true_iff.mp hc
        exact ⟨a, b, rfl, rfl, h1, h2, Good.okE g w _ (.bl _)⟩
      · rw [if_neg hc] at g
        exact False.elim g
theorem b_eq (hu : X.A.units + 64 < cLine) : BinD k X E (compareOp .Eq) eqD := by
  refine ⟨_, op_eqD hu, fun x y dx dy G H L μ Q rx ry w g => ?_⟩
  obtain ⟨a, b, e1, e2, h1, h2, q⟩ := onPD_good w g
  exact ⟨a, b, dp_top w rx e1, dp_top w ry e2, h1, h2, q⟩
theorem b_ne (hu : X.A.units + 64 < cLine) : BinD k X E (compareOp .NotEq) neD := by
  refine ⟨_, op_neD hu, fun x y dx dy G H L μ Q rx ry w g => ?_⟩
  obtain ⟨a, b, e1, e2, h1, h2, q⟩ := onPD_good w g
  exact ⟨a, b, dp_top w rx e1, dp_top w ry e2, h1, h2, q⟩
def intsD : List D → Option (List Int)
  | [] => some []
  | .int i :: ds => (intsD ds).map (i :: ·)
  | _ :: _ => none
theorem intsD_of {G : Hp} {L : Lam} : ∀ {ds : List D} {vs : List V} {ns : List Int}, RpA k X.K G L vs ds → intsD ds = some ns → vs = ns.map V.int
  | [], _, _, r, h => by cases r; cases h; rfl
  | d :: ds, _, _, r, h => by
    cases d with
    | int i =>
      simp only [intsD] at h
      cases e : intsD ds with
      | none => rw [e] at h; cases h
      | some ms =>
        rw [e] at h
        cases h
        cases r with
        | cons h1 h2 =>
          cases h1
          rw [intsD_of h2 e]
          rfl
    | _ => cases h
def ltD (x y : D) : M D := match x, y with
  | .int i, .int j => pure (.bl (decide (i < j)))
  | .tup a, .tup b => match intsD a, intsD b with
    | some ns, some ms => pure (.bl (HT.lexLt ns ms))
    | _, _ => M.bad
  | _, _ => M.bad
def leD : D → D → M D := gI0 fun i j => .bl (decide (i ≤ j))
def gtD : D → D → M D := gI0 fun i j => .bl (decide (j < i))
def geD : D → D → M D := gI0 fun i j => .bl (decide (j ≤ i))
theorem b_lt (hu : X.A.units < cLine) : BinD k X E (compareOp .Lt) ltD := by
  refine ⟨_, OpR.or op_lt (op_ltT hu), fun x y dx dy G H L μ Q rx ry w g => ?_⟩
  cases dx with
  | int i =>
    cases dy with
    | int j => cases rx; cases ry; exact .inl ⟨i, j, rfl, rfl, Good.ret g w _ (.bl _)⟩
    | _ => exact False.elim g
  | tup a =>
    cases dy with
    | tup b =>
      have g' : Good k X.K E G H L ((match intsD a, intsD b with | some ns, some ms => (pure (.bl (HT.lexLt ns ms)) : M D) | _, _ => M.bad) μ) (QV k X.K Q) := g
      cases e1 : intsD a with
      | none => rw [e1] at g'; exact False.elim g'
      | some ns =>
        cases e2 : intsD b with
        | none => rw [e1, e2] at g'; exact False.elim g'
        | some ms =>
          rw [e1, e2] at g'
          cases rx with
          | tup hs ha =>
            cases ry with
            | tup ht hb =>
              have z1 := intsD_of ha e1
              have z2 := intsD_of hb e2
              subst z1 z2
              exact .inr ⟨_, _, ns, ms, rfl, rfl, sqT_mono w.ext hs, sqT_mono w.ext ht, Good.ret g' w _ (.bl _)⟩
    | _ => exact False.elim g
  | _ => cases dy <;> exact False.elim g
theorem b_le : BinD k X E (compareOp .LtE) leD := ⟨_, op_le, opD_I0 fun _ _ _ _ => .bl _⟩
theorem b_gt : BinD k X E (compareOp .Gt) gtD := ⟨_, op_gt, opD_I0 fun _ _ _ _ => .bl _⟩
theorem b_ge : BinD k X E (compareOp .GtE) geD := ⟨_, op_ge, opD_I0 fun _ _ _ _ => .bl _⟩
def isD (neg : Bool) (x y : D) : M D := match x, y with
  | .bl a, .bl b => pure (.bl (if neg then !decide (a = b) else decide (a = b)))
  | x, .non => pure (.bl (match x with | .non => !neg | _ => neg))
  | _, _ => M.bad
theorem rp_non {G : Hp} {L : Lam} {x : V} {d : D} (r : Rp k X.K G L x d) : decide (x = V.non) = (match d with | .non => true | _ => false) := by
  cases r <;> simp
theorem isD_of {neg : Bool} {x y : V} {dx dy : D} {G H : Hp} {L : Lam} {μ : Store} {Q : VK} (rx : Rp k X.K G L x dx) (ry : Rp k X.K G L y dy) (w : Wd k X.K G H L μ) (g : Good k X.K E G H L (isD neg dx dy μ) (QV k X.K Q)) :
    (y = .non ∧ Q (.bl (if neg then !decide (x = .non) else decide (x = .non))) H) ∨ ∃ a b, x = .bl a ∧ y = .bl b ∧ Q (.bl (if neg then !decide (a = b) else decide (a = b))) H := by
  cases dy with
  | non =>
    cases ry
    refine .inl ⟨rfl, ?_⟩
    rw [rp_non rx]
    cases dx <;> (cases neg <;> exact Good.ret g w _ (.bl _))
  | bl b =>
    cases dx with
    | bl a =>
      cases rx
      cases ry
      exact .inr ⟨a, b, rfl, rfl, Good.ret g w _ (.bl _)⟩
    | _ => exact False.elim g
  | _ => cases dx <;> exact False.elim g
theorem b_isnot : BinD k X E (compareOp .IsNot) (isD true) := ⟨_, OpR.or op_notN op_isnot_bl, fun x y dx dy G H L μ Q rx ry w g => isD_of (neg := true) rx ry w g⟩
def flatD : D → Bool
  | .non => true
  | .bl _ => true
  | .int _ => true
  | .str _ => true
  | _ => false
def eqFl : D → D → Bool
  | .non, .non => true
  | .bl a, .bl b => a == b
  | .bl a, .int b => (if a then 1 else 0) == b
  | .int a, .bl b => a == (if b then 1 else 0)
  | .int a, .int b => a == b
  | .str a, .str b => a == b
  | _, _ => false
def rInT (K : PySem.W.Frag) (neg : Bool) : R2 := fun x y H Q => ∃ d ds, Dp K H x d ∧ Dp K H y (.tuple ds) ∧ SeqAt.shaped d = true ∧ SeqAt.shaped (.tuple ds) = true ∧ Q (.bl (if neg then !(ds.any fun z => PyData.eqv z d) else ds.any fun z => PyData.eqv z d)) H
theorem op_inT (hu : X.A.units + 65 < cLine) : OpR X (compareOp .In) (rInT X.K false) := by
  intro pins s σ H x y v u Q I rx ry h
  obtain ⟨d, ds, hd, he, sd, se, q⟩ := h
  obtain ⟨as, r1⟩ := Dp.reads I d x v hd rx
  obtain ⟨bs, r2⟩ := Dp.reads I (.tuple ds) y u he ry
  exact SeqAt.in_tuple_reads r2 r1 (SeqAt.canLay_of_shaped se) (SeqAt.canLay_of_shaped sd) (room_in_shaped sd hu) ⟨.bl _, H, I, rfl, q⟩
def inD (neg : Bool) (x y : D) : M D := fun m => match y with
  | .tup ds => if (flatD x && ds.all flatD) = true then .ok (.bl (if neg then !(ds.any fun z => eqFl z x) else ds.any fun z => eqFl z x)) m else (match topPD x m, toPDs ds with
    | some a, some bs => if (SeqAt.shaped a && SeqAt.shaped (.tuple bs)) = true then .ok (.bl (if neg then !(bs.any fun z => PyData.eqv z a) else bs.any fun z => PyData.eqv z a)) m else .bad
    | _, _ => .bad)
  | y => match topPD x m, topPD y m with
    | some a, some (.list bs) => if (SeqAt.shaped a && SeqAt.shaped (.list bs)) = true then .ok (.bl (if neg then !(bs.any fun z => PyData.eqv z a) else bs.any fun z => PyData.eqv z a)) m else .bad
    | _, _ => .bad
theorem flat_of {G : Hp} {L : Lam} {x : V} {d : D} (r : Rp k X.K G L x d) (h : flatD d = true) : flatV x = true := by
  cases r <;> first | rfl | cases h
theorem eqFl_of {G : Hp} {L : Lam} {x y : V} {d e : D} (r : Rp k X.K G L x d) (q : Rp k X.K G L y e) (h : flatD d = true) (h' : flatD e = true) : eqV x y = eqFl d e := by
  cases r <;> first | (cases q <;> first | rfl | (exact absurd h' (by simp [flatD]))) | (exact absurd h (by simp [flatD]))
theorem flatA_of {G : Hp} {L : Lam} {y : V} {e : D} (q : Rp k X.K G L y e) (h' : flatD e = true) : ∀ {vs : List V} {ds : List D}, RpA k X.K G L vs ds → ds.all flatD = true → vs.all flatV = true ∧ inV y vs = ds.any fun z => eqFl z e
  | _, [], r, _ => by cases r; exact ⟨rfl, rfl⟩
  | _, d :: ds, r, h => by
    cases r with
    | cons h1 h2 =>
      rw [List.all_cons, Bool.and_eq_true] at h
      obtain ⟨i1, i2⟩ := flatA_of q h' h2 h.2
      refine ⟨by rw [List.all_cons, flat_of h1 h.1, i1]; rfl, ?_⟩
      unfold inV at i2 ⊢
      rw [List.any_cons, List.any_cons, i2, eqFl_of h1 q h.1 h']
theorem inD_of {neg : Bool} {x y : V} {dx dy : D} {G H : Hp} {L : Lam} {μ : Store} {Q : VK} (rx : Rp k X.K G L x dx) (ry : Rp k X.K G L y dy) (w : Wd k X.K G H L μ) (g : Good k X.K E G H L (inD neg dx dy μ) (QV k X.K Q)) :
    rIn X.K neg x y H Q ∨ (∃ d ds, Dp X.K H x d ∧ Dp X.K H y (.list ds) ∧ SeqAt.shaped d = true ∧ SeqAt.shaped (.list ds) = true ∧ Q (.bl (if neg then !(ds.any fun z => PyData.eqv z d) else ds.any fun z => PyData.eqv z d)) H) ∨ rInT X.K neg x y H Q := by
  have two : Good k X.K E G H L (match topPD dx μ, topPD dy μ with
    | some a, some (.list bs) => if (SeqAt.shaped a && SeqAt.shaped (.list bs)) = true then .ok (.bl (if neg then !(bs.any fun z => PyData.eqv z a) else bs.any fun z => PyData.eqv z a)) μ else .bad
    | _, _ => .bad) (QV k X.K Q) → ∃ d ds, Dp X.K H x d ∧ Dp X.K H y (.list ds) ∧ SeqAt.shaped d = true ∧ SeqAt.shaped (.list ds) = true ∧ Q (.bl (if neg then !(ds.any fun z => PyData.eqv z d) else ds.any fun z => PyData.eqv z d)) H := fun g => by
    cases e1 : topPD dx μ with
    | none => rw [e1] at g; exact False.elim g
    | some a =>
      cases e2 : topPD dy μ with
      | none => rw [e1, e2] at g; exact False.elim g
      | some b =>
        cases b with
        | list bs =>
          simp only [e1, e2] at g
          by_cases hc : (SeqAt.shaped a && SeqAt.shaped (.list bs)) = true
          · rw [if_pos hc] at g
            obtain ⟨h1, h2⟩ := Bool.and_eq_true_iff.mp hc
            exact ⟨a, bs, dp_top w rx e1, dp_top w ry e2, h1, h2, Good.okE g w _ (.bl _)⟩
          · rw [if_neg hc] at g
            exact False.elim g
        | _ => rw [e1, e2] at g; exact False.elim g
  cases dy with
  | tup ds =>
    simp only [inD] at g
    by_cases hc : (flatD dx && ds.all flatD) = true
    · rw [if_pos hc] at g
      obtain ⟨h1, h2⟩ := Bool.and_eq_true_iff.mp hc
      cases ry with
      | tup hs ha =>
        obtain ⟨i1, i2⟩ := flatA_of rx h1 ha h2
        refine .inl ⟨_, _, rfl, .inr (sqT_mono w.ext hs), flat_of rx h1, i1, ?_⟩
        rw [i2]
        exact Good.okE g w _ (.bl _)
    · rw [if_neg hc] at g
      cases e1 : topPD dx μ with
      | none => rw [e1] at g; exact False.elim g
      | some a =>
        cases e2 : toPDs ds with
        | none => rw [e1, e2] at g; exact False.elim g
        | some bs =>
          simp only [e1, e2] at g
          by_cases hs : (SeqAt.shaped a && SeqAt.shaped (.tuple bs)) = true
          · rw [if_pos hs] at g
            obtain ⟨h1, h2⟩ := Bool.and_eq_true_iff.mp hs
            exact .inr (.inr ⟨a, bs, dp_top w rx e1, dp_of w.ext (.tup ds) _ (.tuple bs) ry (by simp [toPD, e2]), h1, h2, Good.okE g w _ (.bl _)⟩)
          · rw [if_neg hs] at g
            exact False.elim g
  | _ => exact .inr (.inl (two g))
theorem b_in (hu : X.A.units + 65 < cLine) : BinD k X E (compareOp .In) (inD false) := ⟨_, OpR.or op_in_seq (OpR.or (op_inD hu) (op_inT hu)), fun x y dx dy G H L μ Q rx ry w g => inD_of (neg := false) rx ry w g⟩
end
end DL
namespace DL
open PySem L2 PyProof.Rows
def lenD : List D → M D
  | [.str x] => if x.length ≤ 100000 then pure (.int x.length) else M.bad
  | [d] => do let ds ← seqD d; pure (.int ds.length)
  | _ => M.bad
def tupleD : List D → M D
  | [.tup ds] => pure (.tup ds)
  | [d] => do let ds ← seqD d; mkT ds
  | _ => M.bad
def listD : List D → M D
  | [d] => do let ds ← seqD d; mkL ds
  | _ => M.bad
def intD : List D → M D
  | [.int i] => pure (.int i)
  | [.bl b] => pure (.int (if b then 1 else 0))
  | _ => M.bad
def maxD : List D → M D
  | [.int i, .int j] => pure (.int (if j > i then j else i))
  | _ => M.bad
def minD : List D → M D
  | [.int i, .int j] => pure (.int (if j < i then j else i))
  | _ => M.bad
def sumD : List D → M D
  | [.tup _] => M.bad
  | [d] => do
    let ds ← seqD d
    match intsD ds with
      | some ns => pure (.int ns.sum)
      | none => M.bad
  | _ => M.bad
/-- truth of a flat thing -/
def truF : D → Option Bool
  | .non => some false
  | .bl b => some b
  | .int i => some (i != 0)
  | _ => none
def truFs : List D → Option (List Bool)
  | [] => some []
  | d :: ds => match truF d, truFs ds with
    | some b, some bs => some (b :: bs)
    | _, _ => none
def allD : List D → M D
  | [d] => do
    let ds ← seqD d
    match truFs ds with
      | some bs => pure (.bl (bs.all id))
      | none => M.bad
  | _ => M.bad
def anyD : List D → M D
  | [d] => do
    let ds ← seqD d
    match truFs ds with
      | some bs => pure (.bl (bs.any id))
      | none => M.bad
  | _ => M.bad
section
variable {k : Kx} {X : Cx} {E : XK}
theorem one_of {G H : Hp} {L : Lam} {xs : List V} {d : D} (r : RpA k X.K G L xs [d]) : ∃ v, xs = [v] ∧ Rp k X.K G L v d := by
  cases r with
  | cons h1 h2 => cases h2; exact ⟨_, rfl, h1⟩
theorem two_of {G H : Hp} {L : Lam} {xs : List V} {d e : D} (r : RpA k X.K G L xs [d, e]) : ∃ v u, xs = [v, u] ∧ Rp k X.K G L v d ∧ Rp k X.K G L u e := by
  cases r with
  | cons h1 h2 =>
    cases h2 with
    | cons h3 h4 => cases h4; exact ⟨_, _, rfl, h1, h3⟩
theorem f_len : FunD k X E (.builtin "len") lenD := by
  refine ⟨_, CallR.or call_len_seq call_len_str, fun xs ds G H L μ Q r w g => ?_⟩
  match ds, r, g with
  | [], _, g => exact False.elim g
  | [d], r, g =>
    obtain ⟨v, rfl, r'⟩ := one_of (H := H) r
    replace r := r'
    have sq : Good k X.K E G H L ((do let ds ← seqD d; (pure (D.int ds.length) : M D)) μ) (QV k X.K Q) → ∃ p ys, [v] = [V.ref p] ∧ (SqL X.K H p ys ∨ SqT X.K H p ys) ∧ Q (.int ys.length) H := fun g => by
      obtain ⟨a, vs, ds, rfl, ra, hs, g⟩ := seq_of r w g
      refine ⟨a, vs, rfl, ?_, ?_⟩
      · rcases hs with ⟨hs, _⟩ | ⟨hs, _⟩
        · exact .inl hs
        · exact .inr hs
      · rw [ra.len]
        exact Good.ret g w _ (.int _)
    cases d with
    | str x =>
      cases r
      obtain ⟨hz, g⟩ := good_ite g
      exact .inr ⟨x, rfl, size_of hz, Good.ret g w _ (.int _)⟩
    | _ => exact .inl (sq g)
  | x :: _ :: _, _, g => cases x <;> exact False.elim g
theorem f_tuple : FunD k X E (.type "tuple") tupleD := by
  refine ⟨_, call_tuple_of, fun xs ds G H L μ Q r w g => ?_⟩
  match ds, r, g with
  | [], _, g => exact False.elim g
  | [d], r, g =>
    obtain ⟨v, rfl, r'⟩ := one_of (H := H) r
    replace r := r'
    have sq : Good k X.K E G H L ((do let ds ← seqD d; mkT ds) μ) (QV k X.K Q) → (∀ t, d ≠ .tup t) → ∃ p ys, [v] = [V.ref p] ∧ ((SqL X.K H p ys ∧ ∀ l, H l = none → Q (.ref l) (upd H l (.tup ys))) ∨ (SqT X.K H p ys ∧ Q (.ref p) H)) := fun g nt => by
      obtain ⟨a, vs, ds, rfl, ra, hs, g⟩ := seq_of r w g
      rcases hs with ⟨hs, _⟩ | ⟨hs, e⟩
      · exact ⟨a, vs, rfl, .inl ⟨hs, (good_mkT ra w g).2⟩⟩
      · exact absurd e (nt ds)
    cases d with
    | tup ds =>
      cases r with
      | tup hs ha => exact ⟨_, _, rfl, .inr ⟨sqT_mono w.ext hs, Good.ret g w _ (.tup hs ha)⟩⟩
    | _ => exact sq g fun _ z => nomatch z
  | x :: _ :: _, _, g => cases x <;> exact False.elim g
theorem f_list : FunD k X E (.type "list") listD := by
  refine ⟨_, call_list_of, fun xs ds G H L μ Q r w g => ?_⟩
  match ds, r, g with
  | [], _, g => exact False.elim g
  | [d], r, g =>
    obtain ⟨v, rfl, r'⟩ := one_of (H := H) r
    replace r := r'
    obtain ⟨a, vs, ds, rfl, ra, hs, g⟩ := seq_of r w g
    refine ⟨a, vs, rfl, ?_, (good_mkL ra w g).2⟩
    rcases hs with ⟨hs, _⟩ | ⟨hs, _⟩
    · exact .inl hs
    · exact .inr hs
  | _ :: _ :: _, _, g => exact False.elim g
theorem f_int : FunD k X E (.type "int") intD := by
  refine ⟨_, call_int1, fun xs ds G H L μ Q r w g => ?_⟩
  match ds, r, g with
  | [], _, g => exact False.elim g
  | [d], r, g =>
    obtain ⟨v, rfl, r'⟩ := one_of (H := H) r
    replace r := r'
    cases d with
    | int i => cases r; exact .inl ⟨i, rfl, Good.ret g w _ (.int _)⟩
    | bl i => cases r; exact .inr ⟨i, rfl, Good.ret g w _ (.int _)⟩
    | _ => exact False.elim g
  | x :: _ :: _, _, g => cases x <;> exact False.elim g
theorem f_max (hc : X.calm = true) : FunD k X E (.builtin "max") maxD := by
  refine ⟨_, call_max2 hc, fun xs ds G H L μ Q r w g => ?_⟩
  match ds, r, g with
  | [], _, g => exact False.elim g
  | [x], _, g => cases x <;> exact False.elim g
  | [x, y], r, g =>
    obtain ⟨v, u, rfl, r1, r2⟩ := two_of (H := H) r
    cases x with
    | int i =>
      cases y with
      | int j => cases r1; cases r2; exact ⟨i, j, rfl, Good.ret g w _ (.int _)⟩
      | _ => exact False.elim g
    | _ => exact False.elim g
  | x :: y :: _ :: _, _, g => cases x <;> (cases y <;> exact False.elim g)
theorem f_min (hc : X.calm = true) : FunD k X E (.builtin "min") minD := by
  refine ⟨_, call_min2 hc, fun xs ds G H L μ Q r w g => ?_⟩
  match ds, r, g with
  | [], _, g => exact False.elim g
  | [x], _, g => cases x <;> exact False.elim g
  | [x, y], r, g =>
    obtain ⟨v, u, rfl, r1, r2⟩ := two_of (H := H) r
    cases x with
    | int i =>
      cases y with
      | int j => cases r1; cases r2; exact ⟨i, j, rfl, Good.ret g w _ (.int _)⟩
      | _ => exact False.elim g
    | _ => exact False.elim g
  | x :: y :: _ :: _, _, g => cases x <;> (cases y <;> exact False.elim g)
theorem f_sum (hc : X.calm = true) : FunD k X E (.builtin "sum") sumD := by
  refine ⟨_, cr_sum hc, fun xs ds G H L μ Q r w g => ?_⟩
  match ds, r, g with
  | [], _, g => exact False.elim g
  | [d], r, g =>
    obtain ⟨v, rfl, r'⟩ := one_of (H := H) r
    replace r := r'
    have sq : Good k X.K E G H L ((do let ds ← seqD d; match intsD ds with | some ns => (pure (.int ns.sum) : M D) | none => M.bad) μ) (QV k X.K Q) → (∀ t, d ≠ .tup t) → rSum X.K [v] H Q := fun g nt => by
      obtain ⟨a, vs, ds, rfl, ra, hs, g⟩ := seq_of (f := fun ds => match intsD ds with | some ns => (pure (.int ns.sum) : M D) | none => M.bad) r w g
      rcases hs with ⟨hs, _⟩ | ⟨hs, e⟩
      · cases e : intsD ds with
        | none => simp only [e] at g; exact False.elim g
        | some ns =>
          simp only [e] at g
          rw [intsD_of ra e] at hs
          exact ⟨a, ns, rfl, hs, Good.ret g w _ (.int _)⟩
      · exact absurd e (nt ds)
    cases d with
    | tup ds => exact False.elim g
    | _ => exact sq g fun _ z => nomatch z
  | x :: _ :: _, _, g => cases x <;> exact False.elim g
def truV : V → Option Bool
  | .non => some false
  | .bl b => some b
  | .int i => some (i != 0)
  | _ => none
def TruL (vs : List V) (bs : List Bool) : Prop := vs.map truV = bs.map some
theorem truL_of {G : Hp} {L : Lam} : ∀ {vs : List V} {ds : List D} {bs : List Bool}, RpA k X.K G L vs ds → truFs ds = some bs → TruL vs bs
  | _, [], bs, r, h => by cases r; cases h; rfl
  | _, d :: ds, bs, r, h => by
    cases r with
    | @cons v vs _ _ h1 h2 =>
      rw [truFs] at h
      cases e1 : truF d with
      | none => rw [e1] at h; cases h
      | some b =>
        cases e2 : truFs ds with
        | none => rw [e1, e2] at h; cases h
        | some bs' =>
          rw [e1, e2] at h
          cases h
          have i := truL_of h2 e2
          unfold TruL at i ⊢
          rw [List.map_cons, List.map_cons, i]
          have : truV v = some b := by
            cases h1 <;> first | exact e1 | cases e1
          rw [this]
theorem truth_flat {prog : Program} {w : World} {A : Around} {vs : List V} {bs : List Bool} {its : List Value} (h : TruL vs bs) (r : Vals vs its) :
    TruthOf prog w A (fun i v => its.toArray[i]? = some v) (fun i => bs.getD i false) := fun i v s Q E' hv hq => by
  have hv' : its[i]? = some v := by simpa using hv
  have hi : i < vs.length := by
    have := (List.getElem?_eq_some_iff.mp hv').1
    rw [r.length]
    exact this
  obtain ⟨u, e1, e2⟩ := r.get (List.getElem?_eq_getElem hi)
  rw [hv'] at e1
  cases e1
  have hb : (vs.map truV)[i]? = (bs.map some)[i]? := by rw [h]
  rw [List.getElem?_map, List.getElem?_map, List.getElem?_eq_getElem hi] at hb
  cases eb : bs[i]? with
  | none => rw [eb] at hb; cases hb
  | some b =>
    rw [eb] at hb
    have ht : truV vs[i] = some b := by simpa using hb
    have hg : bs.getD i false = b := by rw [List.getD_eq_getElem?_getD, eb] <;> rfl
    have hq' : Q (bs.getD i false) s := hq
    rw [hg] at hq'
    cases ev : vs[i] with
    | non =>
      rw [ev] at e2 ht
      cases e2
      cases ht
      exact truthy_none hq'
    | bl c =>
      rw [ev] at e2 ht
      cases e2
      cases ht
      exact wpAny_truthy_bool hq'
    | int c =>
      rw [ev] at e2 ht
      obtain ⟨t, rfl⟩ := e2
      cases ht
      exact PySem.P.truthy_int hq'
    | _ => rw [ev] at ht; cases ht
def rAnyS (K : PySem.W.Frag) (f : List Bool → Bool) : List V → Hp → VK → Prop := fun xs H Q => ∃ (a : Addr) (vs : List V) (bs : List Bool), xs = [V.ref a] ∧ (SqL K H a vs ∨ SqT K H a vs) ∧ TruL vs bs ∧ Q (.bl (f bs)) H
theorem truL_len {vs : List V} {bs : List Bool} (h : TruL vs bs) : vs.length = bs.length := by
  have := congrArg List.length h
  simpa using this
theorem iter_anyT {prog : Program} {w : World} {A : Around} {E : Value → Shared → Prop} {s : Shared} {l : Addr} {items : Array Value} {Q : Value → Shared → Prop} (hl : s.heap.IsTuple l items)
    (h : ∀ s₂ : Shared, s₂ = { s with heap := s.heap.push { cls := .type "tuple_iterator", data := .fields #[.ref l, .int 0 0] } } →
      (s₂.heap.IsTupleIter s.heap.objs.size l 0 ∧ s₂.heap.IsTuple l items) → l ≠ s.heap.objs.size → Q (.ref s.heap.objs.size) s₂) : wpAny (model prog w) A (pyIter (.ref l)) Q E s := by
  have hlt : l < s.heap.objs.size := by obtain ⟨_, e, _⟩ := hl; exact Heap.lt_size e
  refine wpAny_pyIter_tuple hl (h _ rfl ⟨⟨_, Heap.get?_push_size _ rfl, rfl, rfl⟩, ?_⟩ (Nat.ne_of_lt hlt))
  obtain ⟨o, e, c⟩ := hl
  exact ⟨o, Heap.get?_push_of_some _ e, c⟩
theorem cr_anyS (hc : X.calm = true) : CallR X (.builtin "any") (rAnyS X.K fun bs => bs.any id) := by
  intro pins s σ H vs us Q I r h
  obtain ⟨a, xs, bs, rfl, hs, ht, q⟩ := h
  rw [Vals.ref1 r]
  have hn := truL_len ht
  rcases hs with hs | hs
  · obtain ⟨its, rv, hl, _⟩ := I.list hs
    have hln := rv.length
    refine call_any_walk (iter_any hl.isList fun s₂ e2 st hne => ?_)
    subst e2
    refine ⟨_, _, _, _, _, _, _, rfl, Walks.list (A := X.A.in1) (I.ok.hd hc) _ a hne its.toArray, st, truth_flat ht rv, fun h' tk hk => ?_⟩
    refine ⟨.bl _, H, I.kept fun b o eo => hk b o (fun hmem => ?_) (Heap.get?_push_of_some _ eo), ?_, q⟩
    · rcases List.mem_cons.mp hmem with e1 | hmem
      · exact absurd (e1 ▸ Heap.lt_size eo) (Nat.lt_irrefl _)
      · cases hmem
    · show Value.bool _ = Value.bool _
      show Value.bool _ = Value.bool (bs.any id)
      rw [← L2.any_range, List.size_toArray, ← hln, hn]
  · obtain ⟨its, rv, hl, _⟩ := I.tuple hs
    have hln := rv.length
    refine call_any_walk (iter_anyT hl fun s₂ e2 st hne => ?_)
    subst e2
    refine ⟨_, _, _, _, _, _, _, rfl, Walks.tuple (A := X.A.in1) (I.ok.hd hc) _ a hne its.toArray, st, truth_flat ht rv, fun h' tk hk => ?_⟩
    refine ⟨.bl _, H, I.kept fun b o eo => hk b o (fun hmem => ?_) (Heap.get?_push_of_some _ eo), ?_, q⟩
    · rcases List.mem_cons.mp hmem with e1 | hmem
      · exact absurd (e1 ▸ Heap.lt_size eo) (Nat.lt_irrefl _)
      · cases hmem
    · show Value.bool _ = Value.bool _
      show Value.bool _ = Value.bool (bs.any id)
      rw [← L2.any_range, List.size_toArray, ← hln, hn]
theorem cr_allS (hc : X.calm = true) : CallR X (.builtin "all") (rAnyS X.K fun bs => bs.all id) := by
  intro pins s σ H vs us Q I r h
  obtain ⟨a, xs, bs, rfl, hs, ht, q⟩ := h
  rw [Vals.ref1 r]
  have hn := truL_len ht
  rcases hs with hs | hs
  · obtain ⟨its, rv, hl, _⟩ := I.list hs
    have hln := rv.length
    refine call_all_walk (iter_any hl.isList fun s₂ e2 st hne => ?_)
    subst e2
    refine ⟨_, _, _, _, _, _, _, rfl, Walks.list (A := X.A.in1) (I.ok.hd hc) _ a hne its.toArray, st, truth_flat ht rv, fun h' tk hk => ?_⟩
    refine ⟨.bl _, H, I.kept fun b o eo => hk b o (fun hmem => ?_) (Heap.get?_push_of_some _ eo), ?_, q⟩
    · rcases List.mem_cons.mp hmem with e1 | hmem
      · exact absurd (e1 ▸ Heap.lt_size eo) (Nat.lt_irrefl _)
      · cases hmem
    · show Value.bool _ = Value.bool _
      show Value.bool _ = Value.bool (bs.all id)
      rw [← L2.all_range, List.size_toArray, ← hln, hn]
  · obtain ⟨its, rv, hl, _⟩ := I.tuple hs
    have hln := rv.length
    refine call_all_walk (iter_anyT hl fun s₂ e2 st hne => ?_)
    subst e2
    refine ⟨_, _, _, _, _, _, _, rfl, Walks.tuple (A := X.A.in1) (I.ok.hd hc) _ a hne its.toArray, st, truth_flat ht rv, fun h' tk hk => ?_⟩
    refine ⟨.bl _, H, I.kept fun b o eo => hk b o (fun hmem => ?_) (Heap.get?_push_of_some _ eo), ?_, q⟩
    · rcases List.mem_cons.mp hmem with e1 | hmem
      · exact absurd (e1 ▸ Heap.lt_size eo) (Nat.lt_irrefl _)
      · cases hmem
    · show Value.bool _ = Value.bool _
      show Value.bool _ = Value.bool (bs.all id)
      rw [← L2.all_range, List.size_toArray, ← hln, hn]
theorem clD_any {f : List Bool → Bool} {G H : Hp} {L : Lam} {μ : Store} {Q : VK} {xs : List V} {d : D} (r : RpA k X.K G L xs [d]) (w : Wd k X.K G H L μ)
    (g : Good k X.K E G H L ((do let ds ← seqD d; match truFs ds with | some bs => (pure (.bl (f bs)) : M D) | none => M.bad) μ) (QV k X.K Q)) : rAnyS X.K f xs H Q := by
  obtain ⟨v, rfl, r'⟩ := one_of (H := H) r
  replace r := r'
  obtain ⟨a, vs, ds, rfl, ra, hs, g⟩ := seq_of (f := fun ds => match truFs ds with | some bs => (pure (.bl (f bs)) : M D) | none => M.bad) r w g
  cases e : truFs ds with
  | none => simp only [e] at g; exact False.elim g
  | some bs =>
    simp only [e] at g
    refine ⟨a, vs, bs, rfl, ?_, truL_of ra e, Good.ret g w _ (.bl _)⟩
    rcases hs with ⟨hs, _⟩ | ⟨hs, _⟩
    · exact .inl hs
    · exact .inr hs
theorem f_any (hc : X.calm = true) : FunD k X E (.builtin "any") anyD := by
  refine ⟨_, cr_anyS hc, fun xs ds G H L μ Q r w g => ?_⟩
  match ds, r, g with
  | [], _, g => exact False.elim g
  | [d], r, g => exact clD_any (f := fun bs => bs.any id) r w g
  | _ :: _ :: _, _, g => exact False.elim g
theorem f_all (hc : X.calm = true) : FunD k X E (.builtin "all") allD := by
  refine ⟨_, cr_allS hc, fun xs ds G H L μ Q r w g => ?_⟩
  match ds, r, g with
  | [], _, g => exact False.elim g
  | [d], r, g => exact clD_any (f := fun bs => bs.all id) r w g
  | _ :: _ :: _, _, g => exact False.elim g
def ixD (x y : D) : M D := match y with
  | .int i => do
    let ds ← seqD x
    match atI ds i with
      | some d => pure d
      | none => M.bad
  | _ => M.bad
theorem atI_of {G : Hp} {L : Lam} {vs : List V} {ds : List D} {i : Int} {d : D} (r : RpA k X.K G L vs ds) (h : atI ds i = some d) : ∃ v, atI vs i = some v ∧ Rp k X.K G L v d := by
  unfold atI at h ⊢
  rw [r.len]
  cases e : ixN ds.length i with
  | none => rw [e] at h; cases h
  | some j =>
    rw [e] at h
    exact r.get h
theorem j_ix {a b : Expr} {ma mb : DEnv → M D} {pos : Pos} (ha : JE k X E a ma) (hb : JE k X E b mb) (hs : PlainIx b) : JE k X E (.Subscript a b pos) (eOp ixD ma mb) := by
  refine PE.imp (pe_ix ix_seq ha hb hs) fun s H Q h => dE_op (fun x y dx dy G H L μ Q rx ry w g => ?_) h
  cases dy with
  | int i =>
    cases ry
    obtain ⟨a, vs, ds, rfl, ra, hs, g⟩ := seq_of (f := fun ds => match atI ds i with | some d => (pure d : M D) | none => M.bad) rx w g
    cases e : atI ds i with
    | none => simp only [e] at g; exact False.elim g
    | some d =>
      simp only [e] at g
      obtain ⟨v, hv, rv⟩ := atI_of ra e
      rcases hs with ⟨hs, _⟩ | ⟨hs, _⟩
      · exact .inl ⟨a, vs, i, v, rfl, rfl, hs, hv, Good.ret g w _ rv⟩
      · exact .inr (.inl ⟨a, vs, i, v, rfl, rfl, hs, hv, Good.ret g w _ rv⟩)
  | _ => exact False.elim g
end
end DL
namespace DL
open PySem L2 PyProof.Rows
mutual
def D.dec : (a b : D) → Decidable (a = b)
  | .non, b => match b with
    | .non => Decidable.isTrue rfl
    | .bl _ => Decidable.isFalse nofun | .int _ => Decidable.isFalse nofun | .str _ => Decidable.isFalse nofun | .lst _ => Decidable.isFalse nofun | .tup _ => Decidable.isFalse nofun | .loc _ => Decidable.isFalse nofun | .obj _ _ => Decidable.isFalse nofun | .cls _ => Decidable.isFalse nofun | .dct _ _ => Decidable.isFalse nofun | .fdc _ _ => Decidable.isFalse nofun | .err _ _ => Decidable.isFalse nofun
  | .bl x, b => match b with
    | .bl y => if h : x = y then Decidable.isTrue (by rw [h]) else Decidable.isFalse (by intro z; cases z; exact h rfl)
    | .non => Decidable.isFalse nofun | .int _ => Decidable.isFalse nofun | .str _ => Decidable.isFalse nofun | .lst _ => Decidable.isFalse nofun | .tup _ => Decidable.isFalse nofun | .loc _ => Decidable.isFalse nofun | .obj _ _ => Decidable.isFalse nofun | .cls _ => Decidable.isFalse nofun | .dct _ _ => Decidable.isFalse nofun | .fdc _ _ => Decidable.isFalse nofun | .err _ _ => Decidable.isFalse nofun
  | .int x, b => match b with
    | .int y => if h : x = y then Decidable.isTrue (by rw [h]) else Decidable.isFalse (by intro z; cases z; exact h rfl)
    | .non => Decidable.isFalse nofun | .bl _ => Decidable.isFalse nofun | .str _ => Decidable.isFalse nofun | .lst _ => Decidable.isFalse nofun | .tup _ => Decidable.isFalse nofun | .loc _ => Decidable.isFalse nofun | .obj _ _ => Decidable.isFalse nofun | .cls _ => Decidable.isFalse nofun | .dct _ _ => Decidable.isFalse nofun | .fdc _ _ => Decidable.isFalse nofun | .err _ _ => Decidable.isFalse nofun
  | .str x, b => match b with
    | .str y => if h : x = y then Decidable.isTrue (by rw [h]) else Decidable.isFalse (by intro z; cases z; exact h rfl)
    | .non => Decidable.isFalse nofun | .bl _ => Decidable.isFalse nofun | .int _ => Decidable.isFalse nofun | .lst _ => Decidable.isFalse nofun | .tup _ => Decidable.isFalse nofun | .loc _ => Decidable.isFalse nofun | .obj _ _ => Decidable.isFalse nofun | .cls _ => Decidable.isFalse nofun | .dct _ _ => Decidable.isFalse nofun | .fdc _ _ => Decidable.isFalse nofun | .err _ _ => Decidable.isFalse nofun
  | .lst x, b => match b with
    | .lst y => match D.decL x y with
      | Decidable.isTrue h => Decidable.isTrue (by rw [h])
      | Decidable.isFalse h => Decidable.isFalse (by intro z; cases z; exact h rfl)
    | .non => Decidable.isFalse nofun | .bl _ => Decidable.isFalse nofun | .int _ => Decidable.isFalse nofun | .str _ => Decidable.isFalse nofun | .tup _ => Decidable.isFalse nofun | .loc _ => Decidable.isFalse nofun | .obj _ _ => Decidable.isFalse nofun | .cls _ => Decidable.isFalse nofun | .dct _ _ => Decidable.isFalse nofun | .fdc _ _ => Decidable.isFalse nofun | .err _ _ => Decidable.isFalse nofun
  | .tup x, b => match b with
    | .tup y => match D.decL x y with
      | Decidable.isTrue h => Decidable.isTrue (by rw [h])
      | Decidable.isFalse h => Decidable.isFalse (by intro z; cases z; exact h rfl)
    | .non => Decidable.isFalse nofun | .bl _ => Decidable.isFalse nofun | .int _ => Decidable.isFalse nofun | .str _ => Decidable.isFalse nofun | .lst _ => Decidable.isFalse nofun | .loc _ => Decidable.isFalse nofun | .obj _ _ => Decidable.isFalse nofun | .cls _ => Decidable.isFalse nofun | .dct _ _ => Decidable.isFalse nofun | .fdc _ _ => Decidable.isFalse nofun | .err _ _ => Decidable.isFalse nofun
  | .loc x, b => match b with
    | .loc y => if h : x = y then Decidable.isTrue (by rw [h]) else Decidable.isFalse (by intro z; cases z; exact h rfl)
    | .non => Decidable.isFalse nofun | .bl _ => Decidable.isFalse nofun | .int _ => Decidable.isFalse nofun | .str _ => Decidable.isFalse nofun | .lst _ => Decidable.isFalse nofun | .tup _ => Decidable.isFalse nofun | .obj _ _ => Decidable.isFalse nofun | .cls _ => Decidable.isFalse nofun | .dct _ _ => Decidable.isFalse nofun | .fdc _ _ => Decidable.isFalse nofun | .err _ _ => Decidable.isFalse nofun
  | .obj c x, b => match b with
    | .obj c' y => if h : c = c' then (match D.decL x y with
      | Decidable.isTrue h' => Decidable.isTrue (by rw [h, h'])
      | Decidable.isFalse h' => Decidable.isFalse (by intro z; cases z; exact h' rfl)) else Decidable.isFalse (by intro z; cases z; exact h rfl)
    | .non => Decidable.isFalse nofun | .bl _ => Decidable.isFalse nofun | .int _ => Decidable.isFalse nofun | .str _ => Decidable.isFalse nofun | .lst _ => Decidable.isFalse nofun | .tup _ => Decidable.isFalse nofun | .loc _ => Decidable.isFalse nofun | .cls _ => Decidable.isFalse nofun | .dct _ _ => Decidable.isFalse nofun | .fdc _ _ => Decidable.isFalse nofun | .err _ _ => Decidable.isFalse nofun
  | .cls x, b => match b with
    | .cls y => if h : x = y then Decidable.isTrue (by rw [h]) else Decidable.isFalse (by intro z; cases z; exact h rfl)
    | .non => Decidable.isFalse nofun | .bl _ => Decidable.isFalse nofun | .int _ => Decidable.isFalse nofun | .str _ => Decidable.isFalse nofun | .lst _ => Decidable.isFalse nofun | .tup _ => Decidable.isFalse nofun | .loc _ => Decidable.isFalse nofun | .obj _ _ => Decidable.isFalse nofun | .dct _ _ => Decidable.isFalse nofun | .fdc _ _ => Decidable.isFalse nofun | .err _ _ => Decidable.isFalse nofun
  | .dct c x, b => match b with
    | .dct c' y => if h : c = c' then (match D.decL x y with
      | Decidable.isTrue h' => Decidable.isTrue (by rw [h, h'])
      | Decidable.isFalse h' => Decidable.isFalse (by intro z; cases z; exact h' rfl)) else Decidable.isFalse (by intro z; cases z; exact h rfl)
    | .non => Decidable.isFalse nofun | .bl _ => Decidable.isFalse nofun | .int _ => Decidable.isFalse nofun | .str _ => Decidable.isFalse nofun | .lst _ => Decidable.isFalse nofun | .tup _ => Decidable.isFalse nofun | .loc _ => Decidable.isFalse nofun | .obj _ _ => Decidable.isFalse nofun | .cls _ => Decidable.isFalse nofun | .fdc _ _ => Decidable.isFalse nofun | .err _ _ => Decidable.isFalse nofun
  | .fdc c x, b => match b with
    | .fdc c' y => if h : c = c' then (match D.decL x y with
      | Decidable.isTrue h' => Decidable.isTrue (by rw [h, h'])
      | Decidable.isFalse h' => Decidable.isFalse (by intro z; cases z; exact h' rfl)) else Decidable.isFalse (by intro z; cases z; exact h rfl)
    | .non => Decidable.isFalse nofun | .bl _ => Decidable.isFalse nofun | .int _ => Decidable.isFalse nofun | .str _ => Decidable.isFalse nofun | .lst _ => Decidable.isFalse nofun | .tup _ => Decidable.isFalse nofun | .loc _ => Decidable.isFalse nofun | .obj _ _ => Decidable.isFalse nofun | .cls _ => Decidable.isFalse nofun | .dct _ _ => Decidable.isFalse nofun | .err _ _ => Decidable.isFalse nofun
  | .err c x, b => match b with
    | .err c' y => if h : c = c' then (match D.decL x y with
      | Decidable.isTrue h' => Decidable.isTrue (by rw [h, h'])
      | Decidable.isFalse h' => Decidable.isFalse (by intro z; cases z; exact h' rfl)) else Decidable.isFalse (by intro z; cases z; exact h rfl)
    | .non => Decidable.isFalse nofun | .bl _ => Decidable.isFalse nofun | .int _ => Decidable.isFalse nofun | .str _ => Decidable.isFalse nofun | .lst _ => Decidable.isFalse nofun | .tup _ => Decidable.isFalse nofun | .loc _ => Decidable.isFalse nofun | .obj _ _ => Decidable.isFalse nofun | .cls _ => Decidable.isFalse nofun | .dct _ _ => Decidable.isFalse nofun | .fdc _ _ => Decidable.isFalse nofun
def D.decL : (a b : List D) → Decidable (a = b)
  | [], [] => Decidable.isTrue rfl
  | [], _ :: _ => Decidable.isFalse nofun
  | _ :: _, [] => Decidable.isFalse nofun
  | x :: xs, y :: ys => match D.dec x y with
    | Decidable.isTrue h => match D.decL xs ys with
      | Decidable.isTrue h' => Decidable.isTrue (by rw [h, h'])
      | Decidable.isFalse h' => Decidable.isFalse (by intro z; cases z; exact h' rfl)
    | Decidable.isFalse h => Decidable.isFalse (by intro z; cases z; exact h rfl)
end
instance : DecidableEq D := D.dec
structure Src where
  items : List D
  gd : List (Nat × List D) := []
def cellIs (m : Store) (p : Nat × List D) : Bool := match m[p.1]? with
  | some (some (.lst es)) => decide (es = p.2)
  | _ => false
def Src.okB (s : Src) (m : Store) : Bool := s.gd.all (cellIs m)
def chk (s : Src) : M Unit := fun m => if s.okB m = true then .ok () m else .bad
section
variable (k : Kx) (K : PySem.W.Frag) (E : XK)
def ItOk (G : Hp) (L : Lam) (J : It) (src : Src) : Prop := ∀ G2 H2 L2 μ, Same G G2 → L <+: L2 → Wd k K G2 H2 L2 μ → src.okB μ = true → ∀ i : Nat,
  (∀ d, src.items[i]? = some d → J.go i H2 ∧ ∀ x H3, J.yld i H2 x H3 → ∃ G3, Stp G2 H2 L2 G3 H3 L2 ∧ Wd k K G3 H3 L2 μ ∧ Rp k K G3 L2 x d) ∧ (src.items.length ≤ i → J.stop i H2)
def dI (m : DEnv → M Src) : TI := fun s H R => ∃ e G L μ, Sg k K G L s e ∧ Wd k K G H L μ ∧ Good k K E G H L (m e μ) fun src _ G' H' L' => ∀ J, ItOk k K G' L' J src → R J H'
end
abbrev JI (k : Kx) (X : Cx) (E : XK) (tg iter : Expr) (m : DEnv → M Src) : Prop := PI X tg iter (dI k X.K E m)
theorem PI.imp {X : Cx} {tg e : Expr} {t t' : TI} (h : PI X tg e t) (q : ∀ s H R, t' s H R → t s H R) : PI X tg e t' := ⟨fun pins s σ H R I hw => h.run pins s σ H R I (q _ _ _ hw)⟩
section
variable {k : Kx} {K : PySem.W.Frag} {E : XK} {G H : Hp} {L : Lam} {α β : Type}
theorem chk_good {src : Src} {f : Unit → M β} {m : Store} {Q : β → Store → Hp → Hp → Lam → Prop} (h : Good k K E G H L ((chk src >>= f) m) Q) : src.okB m = true ∧ Good k K E G H L (f () m) Q := by
  have h' : Good k K E G H L (M.bind (chk src) f m) Q := h
  unfold M.bind chk at h'
  by_cases hc : src.okB m = true
  · rw [if_pos hc] at h'
    exact ⟨hc, h'⟩
  · rw [if_neg hc] at h'
    exact False.elim h'
/-- a private object changes -/
theorem Wd.priv {m : Store} (w : Wd k K G H L m) {a : Addr} {o o' : HO} (ga : G a = none) (ha : H a = some o') (nc : NC o') (no : NT o) (nl : ∀ p ∈ L, a ≠ p.1 ∧ a ≠ p.2) : Wd k K G (upd H a o) L m where
  ext := fun b u e => by
    rw [upd_ne (ne_of_none e ga)]
    exact w.ext b u e
  len := w.len
  tk := fun q hq => ⟨nt_upd no (w.tk q hq).1, nt_upd no (w.tk q hq).2⟩
  tab := tabs_upd w.tab (nc_at ha nc)
  gt := w.gt
  cell := fun n c e => by
    obtain ⟨x, y, hl, gx, gy, r⟩ := w.cell n c e
    obtain ⟨n1, n2⟩ := nl (x, y) (List.mem_of_getElem? hl)
    exact ⟨x, y, hl, gx, gy, r.step (Same.refl G) (pre_refl L) (upd_ne (Ne.symm n1)) (upd_ne (Ne.symm n2))⟩
  apart := w.apart
/-- a private object becomes data -/
theorem Wd.adopt {m : Store} (w : Wd k K G H L m) {a : Addr} {o : HO} (ga : G a = none) (ha : H a = some o) (no : NT o) (nl : ∀ p ∈ L, a ≠ p.1 ∧ a ≠ p.2) : Wd k K (upd G a o) H L m where
  ext := fun b u e => by
    by_cases hb : b = a
    · subst hb
      rw [upd_same] at e
      cases e
      exact ha
    · rw [upd_ne hb] at e
      exact w.ext b u e
  len := w.len
  tk := w.tk
  tab := w.tab
  gt := gt_upd no w.gt
  cell := fun n c e => by
    obtain ⟨x, y, hl, gx, gy, r⟩ := w.cell n c e
    obtain ⟨n1, n2⟩ := nl (x, y) (List.mem_of_getElem? hl)
    exact ⟨x, y, hl, by rw [upd_ne (Ne.symm n1)]; exact gx, by rw [upd_ne (Ne.symm n2)]; exact gy, r.step (Same.new ga) (pre_refl L) rfl rfl⟩
  apart := w.apart
end
def sNil : DEnv → M Out := fun e => pure (.nx e)
def andThen (o : Out) (s : DEnv → M Out) : M Out := match o with
  | .nx e => s e
  | o => pure o
def sSeq (s t : DEnv → M Out) : DEnv → M Out := fun e => do let o ← s e; andThen o t
def sSet (i : Nat) (a : DEnv → M D) : DEnv → M Out := fun e => do let x ← a e; pure (.nx (e.set i (some x)))
def sAsg (a : DEnv → M D) (g : D → DEnv → M DEnv) : DEnv → M Out := fun e => do let x ← a e; let e' ← g x e; pure (.nx e')
def sIf (t : DEnv → M Bool) (s u : DEnv → M Out) : DEnv → M Out := fun e => do let c ← t e; if c then s e else u e
def sRet (a : DEnv → M D) : DEnv → M Out := fun e => do let x ← a e; pure (.rt x)
def sExpr (a : DEnv → M D) : DEnv → M Out := fun e => do let _ ← a e; pure (.nx e)
def forL (src : Src) (g : D → DEnv → M DEnv) (b : DEnv → M Out) : List D → DEnv → M Out
  | [], e => do chk src; pure (.nx e)
  | d :: ds, e => do
    chk src
    let e1 ← g d e
    let o ← b e1
    match o with
      | .nx e2 => forL src g b ds e2
      | .ct e2 => forL src g b ds e2
      | .bk e2 => pure (.nx e2)
      | .rt d => pure (.rt d)
def sFor (it : DEnv → M Src) (g : D → DEnv → M DEnv) (b : DEnv → M Out) : DEnv → M Out := fun e => do let src ← it e; forL src g b src.items e
def gNm (i : Nat) : D → DEnv → M DEnv := fun d e => pure (e.set i (some d))
def gTp (n : Nat) (g : List D → DEnv → M DEnv) : D → DEnv → M DEnv := fun d e => match d with
  | .tup ds => if ds.length = n then g ds e else M.bad
  | _ => M.bad
def gsNil : List D → DEnv → M DEnv := fun _ e => pure e
def gsCons (g : D → DEnv → M DEnv) (gs : List D → DEnv → M DEnv) : List D → DEnv → M DEnv := fun ds e => match ds with
  | d :: r => do let e1 ← g d e; gs r e1
  | [] => M.bad
section
variable {k : Kx} {X : Cx} {E : XK} {e a b : Expr} {ma mb : DEnv → M D} {pos : Pos} {st : Stmt} {rest : List Stmt} {ms mr mt' : DEnv → M Out} {mt : DEnv → M Bool}
theorem jb_nil : JB k X E [] sNil := by
  refine PSs.imp pss_nil fun D s H h => ?_
  obtain ⟨e, G, L, μ, sg, w, gd⟩ := h
  exact Good.ret gd w s sg
theorem jb_one (h : JS k X E st ms) : JB k X E [st] ms := pss_one h
theorem jb_cons (h : JS k X E st ms) (hr : JB k X E rest mr) : JB k X E (st :: rest) (sSeq ms mr) := by
  refine PSs.imp (pss_cons h hr) fun D s H h => ?_
  obtain ⟨e, G, L, μ, sg, w, gd⟩ := h
  refine ⟨e, G, L, μ, sg, w, Good.mono (Good.bind gd) fun o m1 G1 H1 L1 st1 w1 q1 => ?_⟩
  cases o with
  | nx e1 => exact fun s1 sg1 => ⟨e1, G1, L1, m1, sg1, w1, q1⟩
  | rt d => exact Good.ret q1 w1
  | bk e1 => exact Good.ret q1 w1
  | ct e1 => exact Good.ret q1 w1
theorem js_set (i : Nat) {x : Str} {pos' : Pos} (hN : X.N.Nodup) (hi : X.N[i]? = some x) (hx : Loc X.env.scope x) (ha : JE k X E a ma) (hs : swapsWith a (some (.Name x pos')) pos.line X.env = pure false := by rfl)
    (hf : X.fn x = true ∨ X.env.scope.names.lookup x = some .local := by first | exact .inl rfl | exact .inr rfl | assumption) : JS k X E (.Assign [.Name x pos'] a pos) (sSet i ma) := by
  refine PS.imp (ps_set hN hi hx ha hs hf) fun D s H h => ?_
  obtain ⟨e, G, L, μ, sg, w, gd⟩ := h
  refine ⟨e, G, L, μ, sg, w, Good.mono (Good.bind gd) fun d m1 G1 H1 L1 st1 w1 q1 v r => ?_⟩
  exact Good.ret q1 w1 _ ((sg.mono st1.g st1.l).set i r)
theorem js_ret (ha : JE k X E a ma) : JS k X E (.Return (some a) pos) (sRet ma) := by
  refine PS.imp (ps_ret ha) fun D s H h => ?_
  obtain ⟨e, G, L, μ, sg, w, gd⟩ := h
  exact ⟨e, G, L, μ, sg, w, Good.mono (Good.bind gd) fun d m1 G1 H1 L1 st1 w1 q1 v r => Good.ret q1 w1 _ r⟩
theorem js_expr (ha : JE k X E a ma) (hs : swapsWith a none pos.line X.env = pure false := by rfl) : JS k X E (.Expr a pos) (sExpr ma) := by
  refine PS.imp (ps_expr ha hs) fun D s H h => ?_
  obtain ⟨e, G, L, μ, sg, w, gd⟩ := h
  exact ⟨e, G, L, μ, sg, w, Good.mono (Good.bind gd) fun d m1 G1 H1 L1 st1 w1 q1 v r => Good.ret q1 w1 _ (sg.mono st1.g st1.l)⟩
theorem js_if {c : Expr} {sa sb : List Stmt} (hc : JT k X E c mt) (ha : JB k X E sa ms) (hb : JB k X E sb mr) : JS k X E (.If c sa sb pos) (sIf mt ms mr) := by
  refine PS.imp (ps_if hc ha hb) fun D s H h => ?_
  obtain ⟨e, G, L, μ, sg, w, gd⟩ := h
  refine ⟨e, G, L, μ, sg, w, Good.mono (Good.bind gd) fun c m1 G1 H1 L1 st1 w1 q1 => ?_⟩
  cases c with
  | true => exact ⟨e, G1, L1, m1, sg.mono st1.g st1.l, w1, q1⟩
  | false => exact ⟨e, G1, L1, m1, sg.mono st1.g st1.l, w1, q1⟩
theorem set_agree {s : L2.St} {i : Nat} {v : V} : (s.set i (some v)).length = s.length ∧ ∀ j, j ∉ [i] → (s.set i (some v))[j]? = s[j]? := ⟨List.length_set, fun j hj => List.getElem?_set_ne (by simp at hj; exact Ne.symm hj)⟩
theorem jg_name (i : Nat) {x : Str} (hN : X.N.Nodup) (hi : X.N[i]? = some x) (hx : Loc X.env.scope x) (hf : X.fn x = true ∨ X.env.scope.names.lookup x = some .local := by first | exact .inl rfl | exact .inr rfl | assumption) : JG k X E (.Name x pos) [i] (gNm i) := by
  refine PG.imp (pg_name hN hi hx hf) fun v s H Q h => ?_
  obtain ⟨d, e, G, L, μ, sg, r, w, gd⟩ := h
  exact Good.ret gd w _ (sg.set i r) set_agree
/-- several targets -/
def dGs (k : Kx) (K : PySem.W.Frag) (E : XK) (ts : List Nat) (g : List D → DEnv → M DEnv) : TGs := fun vs s H Q => ∃ ds e G L μ, Sg k K G L s e ∧ RpA k K G L vs ds ∧ Wd k K G H L μ ∧ Good k K E G H L (g ds e μ) fun e' _ G' H' L' => ∀ s', Sg k K G' L' s' e' → (s'.length = s.length ∧ ∀ i, i ∉ ts → s'[i]? = s[i]?) → Q s' H'
abbrev JGs (k : Kx) (X : Cx) (E : XK) (n : Nat) (es : List Expr) (ts : List Nat) (g : List D → DEnv → M DEnv) : Prop := ∃ t, PGs X es t ∧ ∀ vs s H Q, vs.length = n → dGs k X.K E ts g vs s H Q → t vs s H Q
theorem jgs_nil : JGs k X E 0 [] [] gsNil := by
  refine ⟨_, pgs_nil, fun vs s H Q hl h => ?_⟩
  obtain ⟨ds, e, G, L, μ, sg, r, w, gd⟩ := h
  exact ⟨List.eq_nil_of_length_eq_zero hl, Good.ret gd w _ sg ⟨rfl, fun _ _ => rfl⟩⟩
theorem jgs_cons {n : Nat} {tg : Expr} {tgs : List Expr} {ts us : List Nat} {g : D → DEnv → M DEnv} {gs : List D → DEnv → M DEnv} (h : JG k X E tg ts g) (hs : JGs k X E n tgs us gs) (hst : (assignEach (tg :: tgs) X.env).map (·.2) = assign tg X.env :: (assignEach tgs X.env).map (·.2) := by rfl) : JGs k X E (n + 1) (tg :: tgs) (ts ++ us) (gsCons g gs) := by
  obtain ⟨t, h2, q⟩ := hs
  refine ⟨_, pgs_cons h h2 hst, fun vs s H Q hl hd => ?_⟩
  obtain ⟨ds, e, G, L, μ, sg, r, w, gd⟩ := hd
  cases r with
  | nil => cases hl
  | @cons v vs d ds h1 hr =>
    refine ⟨v, vs, rfl, ⟨d, e, G, L, μ, sg, h1, w, Good.mono (Good.bind gd) fun e1 m1 G1 H1 L1 st1 w1 q1 s1 sg1 ag => ?_⟩⟩
    refine q vs s1 H1 Q (by simpa using hl) ⟨ds, e1, G1, L1, m1, sg1, RpA.mono st1.g st1.l _ _ hr, w1, Good.mono q1 fun e2 m2 G2 H2 L2 st2 w2 q2 s2 sg2 ag2 => ?_⟩
    refine q2 s2 sg2 ⟨ag2.1.trans ag.1, fun i hi => ?_⟩
    rw [List.mem_append, not_or] at hi
    rw [ag2.2 i hi.2, ag.2 i hi.1]
theorem jg_tup {n : Nat} {es : List Expr} {kk : Nat} {ts : List Nat} {g : List D → DEnv → M DEnv} (hc : X.calm = true) (h : JGs k X E n es ts g)
    (hn : (assignEach es X.env).length = n := by rfl) (hst : (assignEach es X.env).findIdx? (·.1) = none := by rfl) : JG k X E (.Tuple es kk pos) ts (gTp n g) := by
  obtain ⟨t, h1, q⟩ := h
  refine PG.imp (pg_tup hc h1 hn hst) fun v s H Q hd => ?_
  obtain ⟨d, e, G, L, μ, sg, r, w, gd⟩ := hd
  cases d with
  | tup ds =>
    cases r with
    | @tup a xs _ hs ha =>
      obtain ⟨hl, gd⟩ := good_ite gd
      exact ⟨a, xs, rfl, sqT_mono w.ext hs, by rw [ha.len]; exact hl, q xs s H Q (by rw [ha.len]; exact hl) ⟨ds, e, G, L, μ, sg, ha, w, gd⟩⟩
  | _ => exact False.elim gd
theorem js_asg {tg : Expr} {ts : List Nat} {g : D → DEnv → M DEnv} (ha : JE k X E a ma) (hg : JG k X E tg ts g) (hs : swapsWithSole [tg] a pos.line X.env = pure false := by rfl) (hw : swappedStores [tg] a X.env = pure none := by rfl)
    (h1 : (assignEach [tg] X.env).map (·.2) = [assign tg X.env] := by rfl) : JS k X E (.Assign [tg] a pos) (sAsg ma g) := by
  refine PS.imp (ps_asg ha hg hs hw h1) fun D s H h => ?_
  obtain ⟨e, G, L, μ, sg, w, gd⟩ := h
  refine ⟨e, G, L, μ, sg, w, Good.mono (Good.bind gd) fun d m1 G1 H1 L1 st1 w1 q1 v r => ?_⟩
  refine ⟨d, e, G1, L1, m1, sg.mono st1.g st1.l, r, w1, Good.mono (Good.bind q1) fun e2 m2 G2 H2 L2 st2 w2 q2 s2 sg2 ag => ?_⟩
  exact Good.ret q2 w2 _ sg2
end
end DL
namespace DL
open PySem L2 PyProof.Rows
section
variable {k : Kx} {X : Cx} {E : XK} {tg iter : Expr} {pos : Pos}
theorem js_for {body : List Stmt} {mi : DEnv → M Src} {ts : List Nat} {g : D → DEnv → M DEnv} {mb : DEnv → M Out} (hp : PassesOwn (model X.prog X.w) X.A X.env X.xe) (hc : X.calm = true) (hi : JI k X E tg iter mi) (hg : JG k X E tg ts g) (hb : JB k X E body mb)
    (hs : ∀ x, foldedSetIterable iter X.env x = pure x := by intro _; rfl) : JS k X E (.For tg iter body [] pos) (sFor mi g mb) := by
  refine PS.imp (ps_for hp hc hi hg hb hs) fun Ds s H h => ?_
  obtain ⟨e, G, L, μ, sg, w, gd⟩ := h
  refine ⟨e, G, L, μ, sg, w, Good.mono (Good.bind gd) fun src m1 G1 H1 L1 st1 w1 q1 J ok => ?_⟩
  refine ⟨fun i m σ H => m = src.items.length - i ∧ i ≤ src.items.length ∧ ∃ e G L μ, Sg k X.K G L σ e ∧ Wd k X.K G H L μ ∧ Same G1 G ∧ L1 <+: L ∧ Good k X.K E G H L (forL src g mb (src.items.drop i) e μ) (fun o _ G' H' L' => OutOk k X.K Ds o G' H' L'),
    ⟨src.items.length, by simp, Nat.zero_le _, e, G1, L1, m1, sg.mono st1.g st1.l, w1, Same.refl _, pre_refl _, by simpa using q1⟩, ?_⟩
  rintro i m σ H2 ⟨rfl, hi, e2, G2, L2, μ2, sg2, w2, ge, le, q2⟩
  by_cases hlt : i < src.items.length
  · have hd : src.items.drop i = src.items[i] :: src.items.drop (i + 1) := List.drop_eq_getElem_cons hlt
    rw [hd] at q2
    obtain ⟨hok, q2⟩ := chk_good q2
    obtain ⟨ho, _⟩ := ok G2 H2 L2 μ2 ge le w2 hok i
    obtain ⟨go, yl⟩ := ho src.items[i] (List.getElem?_eq_getElem hlt)
    refine .inr ⟨go, fun σ' H' => ∃ e G L μ, Sg k X.K G L σ' e ∧ Wd k X.K G H' L μ ∧ Same G1 G ∧ L1 <+: L ∧ Good k X.K E G H' L (forL src g mb (src.items.drop (i + 1)) e μ) (fun o _ G' H' L' => OutOk k X.K Ds o G' H' L'), ?_, fun x H3 y => ?_⟩
    · rintro σ' H' q
      exact ⟨src.items.length - (i + 1), by omega, rfl, hlt, q⟩
    · obtain ⟨G3, st3, w3, r3⟩ := yl x H3 y
      refine ⟨src.items[i], e2, G3, L2, μ2, sg2.mono st3.g st3.l, r3, w3, Good.mono (Good.bind (Good.up q2 st3)) fun e4 m4 G4 H4 L4 st4 w4 q4 s4 sg4 ag => ?_⟩
      refine ⟨e4, G4, L4, m4, sg4, w4, Good.mono (Good.bind q4) fun o m5 G5 H5 L5 st5 w5 q5 => ?_⟩
      have ge5 : Same G1 G5 := ((ge.trans st3.g).trans st4.g).trans st5.g
      have le5 : L1 <+: L5 := ((le.trans st3.l).trans st4.l).trans st5.l
      cases o with
      | nx e5 => exact fun s5 sg5 => ⟨e5, G5, L5, m5, sg5, w5, ge5, le5, q5⟩
      | ct e5 => exact fun s5 sg5 => ⟨e5, G5, L5, m5, sg5, w5, ge5, le5, q5⟩
      | bk e5 => exact fun s5 sg5 => Good.ret q5 w5 s5 sg5
      | rt d => exact Good.ret q5 w5
  · have e0 : i = src.items.length := by omega
    subst e0
    rw [List.drop_length] at q2
    obtain ⟨hok, q2⟩ := chk_good q2
    obtain ⟨_, stp⟩ := ok G2 H2 L2 μ2 ge le w2 hok src.items.length
    exact .inl ⟨stp (Nat.le_refl _), Good.ret q2 w2 σ sg2⟩
def srcD (d : D) : M Src := fun m => match d with
  | .lst ds => .ok ⟨ds, []⟩ m
  | .tup ds => .ok ⟨ds, []⟩ m
  | .loc n => match m[n]? with
    | some (some (.lst ds)) => .ok ⟨ds, [(n, ds)]⟩ m
    | _ => .bad
  | _ => .bad
def iSeqD (a : DEnv → M D) : DEnv → M Src := fun e => do let x ← a e; srcD x
def iSeqT (K : PySem.W.Frag) (tl : TE) : TI := fun σ H R => tl σ H fun x H1 => ∃ a, x = .ref a ∧ (((∃ xs, SqL K H1 a xs) ∧ R (Itl K a) H1) ∨ ((∃ xs, SqT K H1 a xs) ∧ R (Itt K a) H1))
theorem pi_seq {l : Expr} {tl : TE} (hl : PE X l tl) : PI X tg l (iSeqT X.K tl) := by
  refine ⟨fun pins s σ H R I h => ?_⟩
  refine thn (hl.run pins s σ H _ I h) fun v s1 ⟨x, H1, I1, r1, q1⟩ => ?_
  obtain ⟨a, e, q1⟩ := q1
  subst e
  cases r1
  have fin : ∀ b ∈ [s1.heap.objs.size], FpOk X pins H1 b := fun b hb => by
    have e : b = s1.heap.objs.size := by simpa using hb
    subst e
    exact I1.fpOk (Nat.le_refl _) (I1.hok.fresh (Nat.le_refl _))
  rcases q1 with ⟨⟨xs, hq⟩, q⟩ | ⟨⟨xs, hq⟩, q⟩
  · obtain ⟨its, rv, p, hz⟩ := I1.list hq
    refine wpAny_pyIter_list p.isList ?_
    exact ⟨s1.heap.objs.size, [s1.heap.objs.size], _, _, H1, rfl, I1.kept (t' := s1.toks) fun b o e => Heap.get?_push_of_some _ e, turn_list a _, ⟨_, Heap.get?_push_size _ rfl, rfl, rfl⟩, fin, q⟩
  · obtain ⟨its, rv, p, hz⟩ := I1.tuple hq
    refine wpAny_pyIter_tuple (show s1.heap.IsTuple a its.toArray from p) ?_
    exact ⟨s1.heap.objs.size, [s1.heap.objs.size], _, _, H1, rfl, I1.kept (t' := s1.toks) fun b o e => Heap.get?_push_of_some _ e, turn_tuple a _, ⟨_, Heap.get?_push_size _ rfl, rfl, rfl⟩, fin, q⟩
theorem cellIs_of {m : Store} {n : Nat} {ds : List D} (h : cellIs m (n, ds) = true) : m[n]? = some (some (.lst ds)) := by
  unfold cellIs at h
  split at h
  · rename_i es e
    have := of_decide_eq_true h
    simp only at this e
    rw [e, this]
  · cases h
/-- a source's address, and its items through all that follows -/
def Stand (k : Kx) (K : PySem.W.Frag) (G : Hp) (L : Lam) (src : Src) (a : Addr) (isL : Bool) : Prop :=
  ∀ G2 H2 L2 μ, Same G G2 → L <+: L2 → Wd k K G2 H2 L2 μ → src.okB μ = true → ∃ vs, (if isL = true then SqL K H2 a vs else SqT K H2 a vs) ∧ RpA k K G2 L2 vs src.items
theorem okB_app {s t : Src} {m : Store} {xs : List D} (h : (Src.mk xs (s.gd ++ t.gd)).okB m = true) : s.okB m = true ∧ t.okB m = true := by
  unfold Src.okB at h ⊢
  rw [List.all_append, Bool.and_eq_true] at h
  exact h
theorem src_at {d : D} {x : V} {G H : Hp} {L : Lam} {μ : Store} {β : Type} {f : Src → M β} {Q : β → Store → Hp → Hp → Lam → Prop} (r : Rp k X.K G L x d) (w : Wd k X.K G H L μ) (g : Good k X.K E G H L ((srcD d >>= f) μ) Q) :
    ∃ a isL src, x = .ref a ∧ (∃ vs, if isL = true then SqL X.K H a vs else SqT X.K H a vs) ∧ Stand k X.K G L src a isL ∧ Good k X.K E G H L (f src μ) Q := by
  cases d with
  | lst ds =>
    cases r with
    | @lst a xs _ hs ha => exact ⟨a, true, ⟨ds, []⟩, rfl, ⟨xs, w.ext.seq hs⟩, fun G2 H2 L2 μ2 ge le w2 _ => ⟨xs, (ge.trans w2.ext).seq hs, RpA.mono ge le _ _ ha⟩, g⟩
  | tup ds =>
    cases r with
    | @tup a xs _ hs ha => exact ⟨a, false, ⟨ds, []⟩, rfl, ⟨xs, sqT_mono w.ext hs⟩, fun G2 H2 L2 μ2 ge le w2 _ => ⟨xs, sqT_mono (ge.trans w2.ext) hs, RpA.mono ge le _ _ ha⟩, g⟩
  | loc n =>
    have g' : Good k X.K E G H L (M.bind (srcD (.loc n)) f μ) Q := g
    unfold M.bind srcD at g'
    simp only at g'
    cases hm : μ[n]? with
    | none => rw [hm] at g'; exact False.elim g'
    | some o =>
      cases o with
      | none => rw [hm] at g'; exact False.elim g'
      | some c =>
        cases c with
        | ins _ _ => rw [hm] at g'; exact False.elim g'
        | dct _ _ => rw [hm] at g'; exact False.elim g'
        | lst ds =>
          rw [hm] at g'
          obtain ⟨a, vs, rfl, hl, _, h, ra⟩ := w.look hm r
          refine ⟨a, true, ⟨ds, [(n, ds)]⟩, rfl, ⟨vs, SqL.of h⟩, fun G2 H2 L2 μ2 ge le w2 ok => ?_, g'⟩
          have hc : cellIs μ2 (n, ds) = true := by
            have : ([(n, ds)] : List (Nat × List D)).all (cellIs μ2) = true := ok
            simpa using this
          obtain ⟨a', vs', e1, hl', _, h', ra'⟩ := w2.look (cellIs_of hc) (Rp.mono ge le _ _ r)
          cases e1
          exact ⟨vs', SqL.of h', ra'⟩
  | _ => exact False.elim g
theorem itt_ok {G : Hp} {L : Lam} {src : Src} {a : Addr} (h : Stand k X.K G L src a false) : ItOk k X.K G L (Itt X.K a) src := by
  intro G2 H2 L2 μ ge le w ok i
  obtain ⟨vs, hs, ra⟩ := h G2 H2 L2 μ ge le w ok
  refine ⟨fun d hd => ?_, fun hl => ⟨vs, hs, by rw [ra.len]; exact hl⟩⟩
  obtain ⟨v, hv, rv⟩ := ra.get hd
  refine ⟨⟨vs, v, hs, hv⟩, fun x H3 y => ?_⟩
  obtain ⟨rfl, y⟩ := y
  have := y vs hs
  rw [hv] at this
  cases this
  exact ⟨G2, Stp.refl _ _ _, w, rv⟩
theorem itl_ok' {G : Hp} {L : Lam} {src : Src} {a : Addr} (h : Stand k X.K G L src a true) : ItOk k X.K G L (Itl X.K a) src := by
  intro G2 H2 L2 μ ge le w ok i
  obtain ⟨vs, hs, ra⟩ := h G2 H2 L2 μ ge le w ok
  refine ⟨fun d hd => ?_, fun hl => ⟨vs, hs, by rw [ra.len]; exact hl⟩⟩
  obtain ⟨v, hv, rv⟩ := ra.get hd
  refine ⟨⟨vs, v, hs, hv⟩, fun x H3 y => ?_⟩
  obtain ⟨rfl, y⟩ := y
  have := y vs hs
  rw [hv] at this
  cases this
  exact ⟨G2, Stp.refl _ _ _, w, rv⟩
theorem ji_seq {a : Expr} {ma : DEnv → M D} (ha : JE k X E a ma) : JI k X E tg a (iSeqD ma) := by
  refine PI.imp (pi_seq ha) fun s H R h => ?_
  obtain ⟨e, G, L, μ, sg, w, gd⟩ := h
  refine ⟨e, G, L, μ, sg, w, Good.mono (Good.bind gd) fun d m1 G1 H1 L1 st1 w1 q1 v r => ?_⟩
  obtain ⟨a, isL, src, rfl, ⟨vs, hv⟩, sd, q⟩ := src_at (f := fun s => (pure s : M Src)) r w1 (show Good k X.K E G1 H1 L1 ((srcD d >>= fun s => (pure s : M Src)) m1) _ by
    have e2 : (srcD d >>= fun s => (pure s : M Src)) m1 = srcD d m1 := by
      show M.bind (srcD d) _ m1 = _
      unfold M.bind
      cases srcD d m1 <;> rfl
    rw [e2]
    exact q1)
  refine ⟨a, rfl, ?_⟩
  cases isL with
  | true => exact .inl ⟨⟨vs, hv⟩, Good.ret q w1 _ (itl_ok' sd)⟩
  | false => exact .inr ⟨⟨vs, hv⟩, Good.ret q w1 _ (itt_ok sd)⟩
def rngI (lo : Int) (n : Nat) : List D := (List.range n).map fun (i : Nat) => D.int (lo + (i : Int))
def iRg1 (a : DEnv → M (List D)) : DEnv → M Src := fun e => do
  let xs ← a e
  match xs with
    | [.int n] => if -(2 ^ 62) ≤ n ∧ n < 2 ^ 62 then pure ⟨rngI 0 n.toNat, []⟩ else M.bad
    | _ => M.bad
theorem itr_ok {G : Hp} {L : Lam} {lo : Int} {n : Nat} : ItOk k X.K G L (Itr lo n) ⟨rngI lo n, []⟩ := by
  intro G2 H2 L2 μ ge le w ok i
  refine ⟨fun d hd => ?_, fun hl => show n ≤ i by simpa [rngI] using hl⟩
  have hi : i < n := by
    have := (List.getElem?_eq_some_iff.mp hd).1
    simpa [rngI] using this
  refine ⟨hi, fun x H3 y => ?_⟩
  obtain ⟨rfl, rfl⟩ := y
  have : d = .int (lo + (i : Int)) := by
    simp [rngI, hi] at hd
    exact hd.symm
  subst this
  exact ⟨G2, Stp.refl _ _ _, w, .int _⟩
theorem ji_range1 {a : Expr} {ms : DEnv → M (List D)} {p : Pos} (hg : Gl X "range") (hm : X.mg "range" = none) (ha : JA k X E [a] ms) (hs : starEach [a] X.env = [(false, eval a X.env)] := by rfl) : JI k X E tg (.Call (.Name "range" p) [a] [] pos) (iRg1 ms) := by
  refine PI.imp (pi_range1 hg hm ha hs) fun s H R h => ?_
  obtain ⟨e, G, L, μ, sg, w, gd⟩ := h
  refine ⟨e, G, L, μ, sg, w, Good.mono (Good.bind gd) fun ds m1 G1 H1 L1 st1 w1 q1 vs r => ?_⟩
  match ds, r, q1 with
  | [.int n], r, q1 =>
    obtain ⟨v, rfl, r'⟩ := one_of (H := H1) r
    cases r'
    obtain ⟨⟨h1, h2⟩, q1⟩ := good_ite q1
    exact ⟨n, rfl, h1, h2, Good.ret q1 w1 _ itr_ok⟩
  | [], _, q1 => exact False.elim q1
  | [.non], _, q1 => exact False.elim q1
  | [.bl _], _, q1 => exact False.elim q1
  | [.str _], _, q1 => exact False.elim q1
  | [.lst _], _, q1 => exact False.elim q1
  | [.tup _], _, q1 => exact False.elim q1
  | [.loc _], _, q1 => exact False.elim q1
  | [.obj _ _], _, q1 => exact False.elim q1
  | [.cls _], _, q1 => exact False.elim q1
  | [.dct _ _], _, q1 => exact False.elim q1
  | [.fdc _ _], _, q1 => exact False.elim q1
  | [.err _ _], _, q1 => exact False.elim q1
  | x :: _ :: _, _, q1 => cases x <;> exact False.elim q1
def zipT (xs ys : List D) : List D := (xs.zip ys).map fun p => D.tup [p.1, p.2]
def enumT (xs : List D) : List D := xs.zipIdx.map fun p => D.tup [.int (p.2 : Int), p.1]
theorem zipT_get {xs ys : List D} {i : Nat} {d : D} (h : (zipT xs ys)[i]? = some d) : ∃ x y, xs[i]? = some x ∧ ys[i]? = some y ∧ d = .tup [x, y] := by
  unfold zipT at h
  rw [List.getElem?_map] at h
  cases e : (xs.zip ys)[i]? with
  | none => rw [e] at h; cases h
  | some p =>
    rw [e] at h
    cases h
    rw [List.getElem?_zip_eq_some] at e
    exact ⟨p.1, p.2, e.1, e.2, rfl⟩
theorem zipT_len (xs ys : List D) : (zipT xs ys).length = min xs.length ys.length := by simp [zipT]
theorem two_new {G H : Hp} {L : Lam} {μ : Store} {T : Addr} {x y : V} {dx dy : D} (w : Wd k X.K G H L μ) (hT : H T = none) (r1 : Rp k X.K G L x dx) (r2 : Rp k X.K G L y dy) :
    ∃ G3, Stp G H L G3 (upd H T (.tup [x, y])) L ∧ Wd k X.K G3 (upd H T (.tup [x, y])) L μ ∧ Rp k X.K G3 L (.ref T) (.tup [dx, dy]) := by
  have st := w.newS (o := .tup [x, y]) hT
  exact ⟨_, st, w.new hT, .tup (SqT.of upd_same) (.cons (Rp.mono st.g st.l _ _ r1) (.cons (Rp.mono st.g st.l _ _ r2) .nil))⟩
def notTup : D → Bool
  | .tup _ => false
  | _ => true
/-- src_at, with the kind told by the data -/
theorem src_atK {d : D} {x : V} {G H : Hp} {L : Lam} {μ : Store} {β : Type} {f : Src → M β} {Q : β → Store → Hp → Hp → Lam → Prop} (r : Rp k X.K G L x d) (w : Wd k X.K G H L μ) (g : Good k X.K E G H L ((srcD d >>= f) μ) Q) :
    ∃ a src, x = .ref a ∧ (∃ vs, if notTup d = true then SqL X.K H a vs else SqT X.K H a vs) ∧ Stand k X.K G L src a (notTup d) ∧ Good k X.K E G H L (f src μ) Q := by
  cases d with
  | lst ds =>
    cases r with
    | @lst a xs _ hs ha => exact ⟨a, ⟨ds, []⟩, rfl, ⟨xs, w.ext.seq hs⟩, fun G2 H2 L2 μ2 ge le w2 _ => ⟨xs, (ge.trans w2.ext).seq hs, RpA.mono ge le _ _ ha⟩, g⟩
  | tup ds =>
    cases r with
    | @tup a xs _ hs ha => exact ⟨a, ⟨ds, []⟩, rfl, ⟨xs, sqT_mono w.ext hs⟩, fun G2 H2 L2 μ2 ge le w2 _ => ⟨xs, sqT_mono (ge.trans w2.ext) hs, RpA.mono ge le _ _ ha⟩, g⟩
  | loc n =>
    have g' : Good k X.K E G H L (M.bind (srcD (.loc n)) f μ) Q := g
    unfold M.bind srcD at g'
    simp only at g'
    cases hm : μ[n]? with
    | none => rw [hm] at g'; exact False.elim g'
    | some o =>
      cases o with
      | none => rw [hm] at g'; exact False.elim g'
      | some c =>
        cases c with
        | ins _ _ => rw [hm] at g'; exact False.elim g'
        | dct _ _ => rw [hm] at g'; exact False.elim g'
        | lst ds =>
          rw [hm] at g'
          obtain ⟨a, vs, rfl, hl, _, h, ra⟩ := w.look hm r
          refine ⟨a, ⟨ds, [(n, ds)]⟩, rfl, ⟨vs, SqL.of h⟩, fun G2 H2 L2 μ2 ge le w2 ok => ?_, g'⟩
          have hc : cellIs μ2 (n, ds) = true := by
            have : ([(n, ds)] : List (Nat × List D)).all (cellIs μ2) = true := ok
            simpa using this
          obtain ⟨a', vs', e1, hl', _, h', ra'⟩ := w2.look (cellIs_of hc) (Rp.mono ge le _ _ r)
          cases e1
          exact ⟨vs', SqL.of h', ra'⟩
  | _ => exact False.elim g
theorem enumT_get {xs : List D} {i : Nat} {d : D} (h : (enumT xs)[i]? = some d) : ∃ x, xs[i]? = some x ∧ d = .tup [.int (i : Int), x] := by
  unfold enumT at h
  rw [List.getElem?_map, List.getElem?_zipIdx] at h
  cases e : xs[i]? with
  | none => rw [e] at h; cases h
  | some x =>
    rw [e] at h
    simp at h
    exact ⟨x, rfl, h.symm⟩
theorem enumT_len (xs : List D) : (enumT xs).length = xs.length := by simp [enumT]
end
end DL
namespace DL
open PySem L2 PyProof.Rows
def wipeD (e : DEnv) : List Nat → DEnv
  | [] => e
  | v :: vs => (wipeD e vs).set v none
/-- no error leaves -/
def noX {α : Type} (x : M α) : M α := fun m => match x m with
  | .exn _ _ _ => .bad
  | r => r
def compL (src : Src) (g : D → DEnv → M DEnv) (t : DEnv → M Bool) (elt : DEnv → M D) (e : DEnv) : List D → M (List D)
  | [] => do chk src; pure []
  | d :: ds => do
    chk src
    let e1 ← noX (g d e)
    let b ← noX (t e1)
    if b then (do
      let y ← noX (elt e1)
      let ys ← compL src g t elt e ds
      pure (y :: ys)) else compL src g t elt e ds
def sizeOk (src : Src) : M Unit := fun m => if src.items.length ≤ 100000 then .ok () m else .bad
def compM (it : DEnv → M Src) (g : D → DEnv → M DEnv) (t : DEnv → M Bool) (elt : DEnv → M D) (vs : List Nat) : DEnv → M (List D) := fun e => do
  let src ← it e
  sizeOk src
  compL src g t elt (wipeD e vs) src.items
def eComp (it : DEnv → M Src) (g : D → DEnv → M DEnv) (t : DEnv → M Bool) (elt : DEnv → M D) (vs : List Nat) : DEnv → M D := fun e => do
  let ds ← compM it g t elt vs e
  pure (.lst ds)
def tYesD : DEnv → M Bool := fun _ => pure true
section
variable {k : Kx} {X : Cx} {E : XK} {tg iter elt : Expr} {pos : Pos}
theorem good_noX {α β : Type} {x : M α} {f : α → M β} {G H G2 H2 : Hp} {L L2 : Lam} {m : Store} {Q : β → Store → Hp → Hp → Lam → Prop} (h : Good k X.K E G H L ((noX x >>= f) m) Q) (st : Stp G H L G2 H2 L2) :
    Good k X.K E0 G2 H2 L2 (x m) (fun a m' _ _ _ => Good k X.K E G H L (f a m') Q) := by
  have h' : Good k X.K E G H L (M.bind (noX x) f m) Q := h
  unfold M.bind noX at h'
  cases e : x m with
  | ok a m' =>
    rw [e] at h'
    exact fun G' H' L' e1 w => h'
  | exn c fs m' =>
    rw [e] at h'
    exact False.elim h'
  | bad =>
    rw [e] at h'
    exact False.elim h'
theorem wipe_sg {s : L2.St} {e : DEnv} {G : Hp} {L : Lam} (h : Sg k X.K G L s e) : ∀ vs : List Nat, Sg k X.K G L (wipe s vs) (wipeD e vs)
  | [] => h
  | v :: vs => by
    obtain ⟨h1, h2⟩ := wipe_sg h vs
    unfold wipe wipeD
    refine ⟨by rw [List.length_set, List.length_set]; exact h1, fun i d q => ?_⟩
    by_cases hi : v = i
    · subst hi
      by_cases hl : v < (wipeD e vs).length
      · rw [List.getElem?_set_self hl] at q
        cases q
      · rw [List.getElem?_eq_none (by simpa using hl)] at q
        cases q
    · rw [List.getElem?_set_ne hi] at q ⊢
      exact h2 i d q
theorem wipe_get {s : L2.St} {i : Nat} : ∀ {vs : List Nat}, i ∉ vs → (wipe s vs)[i]? = s[i]?
  | [], _ => rfl
  | v :: vs, h => by
    simp only [List.mem_cons, not_or] at h
    unfold wipe
    rw [List.getElem?_set_ne (Ne.symm h.1), wipe_get h.2]
theorem wipe_mem {s : L2.St} {i : Nat} : ∀ {vs : List Nat}, i ∈ vs → (wipe s vs)[i]? = if i < s.length then some none else none
  | [], h => by cases h
  | v :: vs, h => by
    unfold wipe
    by_cases hv : v = i
    · subst hv
      by_cases hl : v < s.length
      · rw [if_pos hl, List.getElem?_set_self (by rw [wipe_length]; exact hl)]
      · rw [if_neg hl, List.getElem?_eq_none (by rw [List.length_set, wipe_length]; omega)]
    · rw [List.getElem?_set_ne hv]
      exact wipe_mem ((List.mem_cons.mp h).resolve_left (Ne.symm hv))
theorem wipe_agree {s s' : L2.St} {ts vs : List Nat} (hl : s'.length = s.length) (ag : ∀ i, i ∉ ts → s'[i]? = s[i]?) (sub : ∀ i ∈ ts, i ∈ vs) : wipe s' vs = wipe s vs := by
  apply List.ext_getElem?
  intro i
  by_cases hi : i ∈ vs
  · rw [wipe_mem hi, wipe_mem hi, hl]
  · rw [wipe_get hi, wipe_get hi]
    exact ag i fun z => hi (sub i z)
theorem wipe_twice {s : L2.St} {vs : List Nat} : wipe (wipe s vs) vs = wipe s vs := by
  apply List.ext_getElem?
  intro i
  by_cases hi : i ∈ vs
  · rw [wipe_mem hi, wipe_mem hi, wipe_length]
  · rw [wipe_get hi, wipe_get hi]
theorem sizeOk_good {β : Type} {src : Src} {f : Unit → M β} {G H : Hp} {L : Lam} {m : Store} {Q : β → Store → Hp → Hp → Lam → Prop} (h : Good k X.K E G H L ((sizeOk src >>= f) m) Q) : src.items.length ≤ 100000 ∧ Good k X.K E G H L (f () m) Q := by
  have h' : Good k X.K E G H L (M.bind (sizeOk src) f m) Q := h
  unfold M.bind sizeOk at h'
  by_cases hc : src.items.length ≤ 100000
  · rw [if_pos hc] at h'
    exact ⟨hc, h'⟩
  · rw [if_neg hc] at h'
    exact False.elim h'
theorem privS {G H G1 H1 : Hp} {L L1 : Lam} {a : Addr} {o : HO} (st : Stp G1 H1 L1 G H L) (ha : H1 a = none) (no : NT o) : Stp G1 H1 L1 G (upd H a o) L where
  g := st.g
  l := st.l
  tr := fun x e => st.tr x (bare_at no e)
  keep := fun x u e nt n => by
    rw [upd_ne (ne_of_none e ha)]
    exact st.keep x u e nt n
  nl := st.nl
theorem lt_size {n : Nat} (h : n < 100000) : n < sizeLine := Nat.lt_of_lt_of_le h (by decide)
theorem good_assoc {α β γ : Type} {x : M α} {f : α → M β} {h : β → M γ} {G H : Hp} {L : Lam} {m : Store} {Q : γ → Store → Hp → Hp → Lam → Prop} (g : Good k X.K E G H L (((x >>= f) >>= h) m) Q) : Good k X.K E G H L ((x >>= fun a => f a >>= h) m) Q := by
  have e : ((x >>= f) >>= h) m = (x >>= fun a => f a >>= h) m := by
    show M.bind (M.bind x f) h m = M.bind x (fun a => M.bind (f a) h) m
    unfold M.bind
    cases x m <;> rfl
  rw [← e]
  exact g
theorem good_pureb {α β : Type} {a : α} {f : α → M β} {G H : Hp} {L : Lam} {m : Store} {Q : β → Store → Hp → Hp → Lam → Prop} (g : Good k X.K E G H L (((pure a : M α) >>= f) m) Q) : Good k X.K E G H L (f a m) Q := g
structure Pv (G H : Hp) (L : Lam) (a : Addr) (o : HO) : Prop where
  h : H a = some o
  g : G a = none
  n : ∀ p ∈ L, a ≠ p.1 ∧ a ≠ p.2
  nc : NC o
theorem Pv.step {G H G' H' : Hp} {L L' : Lam} {a : Addr} {o : HO} (p : Pv G H L a o) (st : Stp G H L G' H' L') : Pv G' H' L' a o := by
  obtain ⟨h1, h2⟩ := st.keep a o p.h p.nc.1 p.n
  refine ⟨h1, h2 p.g, fun q hq => ?_, p.nc⟩
  rcases st.nl q hq with z | ⟨z1, z2⟩
  · exact p.n q z
  · exact ⟨ne_of_bare p.h p.nc.1 z1, ne_of_bare p.h p.nc.1 z2⟩
/-- the core: what is done with the new list comes last -/
theorem comp_gen {β : Type} {mi : DEnv → M Src} {ts vs : List Nat} {g : D → DEnv → M DEnv} {mt : DEnv → M Bool} {me : DEnv → M D} {fin : List D → M β} {Q0 : β → Store → Hp → Hp → Lam → Prop} {s : L2.St} {H : Hp} {Q : VK} {e : DEnv} {G : Hp} {L : Lam} {μ : Store} (sub : ∀ i ∈ ts, i ∈ vs)
    (hfin : ∀ (G1 H1 : Hp) (L1 : Lam) (G' H' : Hp) (L' : Lam) (μ : Store) (Dl : Addr) (ws : List V) (ds : List D), Stp G H L G1 H1 L1 → Stp G1 H1 L1 G' H' L' → H1 Dl = none → Wd k X.K G' H' L' μ → Pv G' H' L' Dl (.lst ws) → RpA k X.K G' L' ws ds →
      Good k X.K E G1 H1 L1 (fin ds μ) Q0 → Q (.ref Dl) H') (sg : Sg k X.K G L s e) (w : Wd k X.K G H L μ) (gd : Good k X.K E G H L ((compM mi g mt me vs e >>= fin) μ) Q0) :
    tLc (dI k X.K E mi) (dG k X.K E0 ts g) (dT k X.K E0 mt) (dE k X.K E0 me) vs s H Q := by
  have gd1 := good_assoc gd
  refine ⟨e, G, L, μ, sg, w, Good.mono (Good.bind gd1) fun src m1 G1 H1 L1 st1 w1 q1 J ok Dl hD => ?_⟩
  have sg1 := wipe_sg (sg.mono st1.g st1.l) vs
  obtain ⟨hz, q1⟩ := sizeOk_good (good_assoc q1)
  have pv1 : Pv G1 (upd H1 Dl (.lst [])) L1 Dl (.lst []) := ⟨upd_same, w1.gnone hD, fun p hp => by
    obtain ⟨⟨o1, z1, _⟩, ⟨o2, z2, _⟩⟩ := w1.tk p hp
    exact ⟨Ne.symm (ne_of_none z1 hD), Ne.symm (ne_of_none z2 hD)⟩, nc_lst []⟩
  refine ⟨fun i m H => m = src.items.length - i ∧ i ≤ src.items.length ∧ ∃ G L μ ws ds, Stp G1 H1 L1 G H L ∧ Wd k X.K G H L μ ∧ Pv G H L Dl (.lst ws) ∧ RpA k X.K G L ws ds ∧ ws.length ≤ i ∧
      Good k X.K E G1 H1 L1 ((do let rest ← compL src g mt me (wipeD e vs) (src.items.drop i); fin (ds ++ rest)) μ) Q0,
    ⟨src.items.length, by simp, Nat.zero_le _, G1, L1, m1, [], [], junkS hD, w1.junk hD, pv1, .nil, Nat.zero_le _, by simpa using q1⟩, ?_⟩
  rintro i m H2 ⟨rfl, hi, G2, L2, μ2, ws, ds, st2, w2, pv2, ra, hl, q2⟩
  by_cases hlt : i < src.items.length
  · have hd : src.items.drop i = src.items[i] :: src.items.drop (i + 1) := List.drop_eq_getElem_cons hlt
    rw [hd] at q2
    obtain ⟨hok, q2⟩ := chk_good (good_assoc q2)
    obtain ⟨ho, _⟩ := ok G2 H2 L2 μ2 st2.g st2.l w2 hok i
    obtain ⟨go, yl⟩ := ho src.items[i] (List.getElem?_eq_getElem hlt)
    refine .inr ⟨go, fun H => ∃ G L μ ws ds, Stp G1 H1 L1 G H L ∧ Wd k X.K G H L μ ∧ Pv G H L Dl (.lst ws) ∧ RpA k X.K G L ws ds ∧ ws.length ≤ i + 1 ∧
      Good k X.K E G1 H1 L1 ((do let rest ← compL src g mt me (wipeD e vs) (src.items.drop (i + 1)); fin (ds ++ rest)) μ) Q0, fun H' q => ⟨src.items.length - (i + 1), by omega, rfl, hlt, q⟩, fun x H3 y => ?_⟩
    obtain ⟨G3, st3, w3, r3⟩ := yl x H3 y
    have s13 := st2.trans st3
    refine ⟨src.items[i], wipeD e vs, G3, L2, μ2, sg1.mono s13.g s13.l, r3, w3, Good.mono (good_noX (good_assoc q2) s13) fun e4 m4 G4 H4 L4 st4 w4 q4 s4 sg4 ag => ⟨?_, ?_⟩⟩
    · rw [wipe_agree ag.1 ag.2 sub, wipe_twice]
    · have s14 := s13.trans st4
      refine ⟨e4, G4, L4, m4, sg4, w4, Good.mono (good_noX (good_assoc q4) s14) fun b m5 G5 H5 L5 st5 w5 q5 => ?_⟩
      have s15 := s14.trans st5
      have ra5 := RpA.mono ((st3.g.trans st4.g).trans st5.g) ((st3.l.trans st4.l).trans st5.l) _ _ ra
      have pv5 := ((pv2.step st3).step st4).step st5
      cases b with
      | false => exact ⟨G5, L5, m5, ws, ds, s15, w5, pv5, ra5, Nat.le_succ_of_le hl, q5⟩
      | true =>
        refine ⟨e4, G5, L5, m5, sg4.mono st5.g st5.l, w5, Good.mono (good_noX (good_assoc q5) s15) fun d6 m6 G6 H6 L6 st6 w6 q6 v6 r6 => ?_⟩
        have pv6 := pv5.step st6
        refine ⟨ws, pv6.h, lt_size (by omega), G6, L6, m6, ws ++ [v6], ds ++ [d6], privS (s15.trans st6) hD (nc_lst _).1, w6.priv pv6.g pv6.h pv6.nc (nc_lst _).1 pv6.n, ⟨upd_same, pv6.g, pv6.n, nc_lst _⟩, (RpA.mono st6.g st6.l _ _ ra5).append (.cons r6 .nil), by simp; omega, ?_⟩
        have q7 := good_assoc q6
        have e7 : (fun rest => fin (ds ++ [d6] ++ rest)) = fun rest => fin (ds ++ d6 :: rest) := by
          funext rest
          simp
        rw [e7]
        exact q7
  · have e0 : i = src.items.length := by omega
    subst e0
    rw [List.drop_length] at q2
    obtain ⟨hok, q2⟩ := chk_good (good_assoc q2)
    obtain ⟨_, stp⟩ := ok G2 H2 L2 μ2 st2.g st2.l w2 hok src.items.length
    have q3 := good_pureb q2
    rw [List.append_nil] at q3
    exact .inl ⟨stp (Nat.le_refl _), hfin G1 H1 L1 G2 H2 L2 μ2 Dl ws ds st1 st2 hD w2 pv2 ra q3⟩
theorem comp_core {mi : DEnv → M Src} {ts vs : List Nat} {g : D → DEnv → M DEnv} {mt : DEnv → M Bool} {me : DEnv → M D} {fin : List D → M D} (sub : ∀ i ∈ ts, i ∈ vs)
    (hfin : ∀ (G1 H1 : Hp) (L1 : Lam) (G H : Hp) (L : Lam) (μ : Store) (Dl : Addr) (ws : List V) (ds : List D) (Q : VK), Stp G1 H1 L1 G H L → H1 Dl = none → Wd k X.K G H L μ → Pv G H L Dl (.lst ws) → RpA k X.K G L ws ds →
      Good k X.K E G1 H1 L1 (fin ds μ) (QV k X.K Q) → Q (.ref Dl) H) {s : L2.St} {H : Hp} {Q : VK} (h : dE k X.K E (fun e => do let ds ← compM mi g mt me vs e; fin ds) s H Q) :
    tLc (dI k X.K E mi) (dG k X.K E0 ts g) (dT k X.K E0 mt) (dE k X.K E0 me) vs s H Q := by
  obtain ⟨e, G, L, μ, sg, w, gd⟩ := h
  exact comp_gen sub (fun G1 H1 L1 G' H' L' μ Dl ws ds _ st hD w pv ra g => hfin G1 H1 L1 G' H' L' μ Dl ws ds Q st hD w pv ra g) sg w gd
theorem adoptS {G H G1 H1 : Hp} {L L1 : Lam} {a : Addr} {o : HO} (st : Stp G1 H1 L1 G H L) (ha : H1 a = none) (ga : G a = none) : Stp G1 H1 L1 (upd G a o) H L where
  g := st.g.trans (Same.new ga)
  l := st.l
  tr := st.tr
  keep := fun x u e nt n => by
    obtain ⟨h1, h2⟩ := st.keep x u e nt n
    exact ⟨h1, fun z => by rw [upd_ne (ne_of_none e ha)]; exact h2 z⟩
  nl := st.nl
theorem fin_lst {E : XK} (G1 H1 : Hp) (L1 : Lam) (G H : Hp) (L : Lam) (μ : Store) (Dl : Addr) (ws : List V) (ds : List D) (Q : VK) (st : Stp G1 H1 L1 G H L) (hD : H1 Dl = none) (w : Wd k X.K G H L μ) (pv : Pv G H L Dl (.lst ws)) (ra : RpA k X.K G L ws ds)
    (g : Good k X.K E G1 H1 L1 ((pure (.lst ds) : M D) μ) (QV k X.K Q)) : Q (.ref Dl) H :=
  g _ _ _ (adoptS st hD pv.g) (w.adopt pv.g pv.h pv.nc.1 pv.n) _ (.lst (SqL.of upd_same) (RpA.mono (Same.new pv.g) (pre_refl L) _ _ ra))
section
variable {mi : DEnv → M Src} {ts : List Nat} {g : D → DEnv → M DEnv} {mt : DEnv → M Bool} {me : DEnv → M D} {ifs : List Expr} {scope : Scope} {own : List (Str × Nat)}
theorem jts_nil {X : Cx} : PTs X [] (dT k X.K E tYesD) := by
  have h := pts_nil (X := X)
  refine ⟨fun pins s σ H Q I hw => h.run pins s σ H Q I ?_⟩
  obtain ⟨e, G, L, μ, sg, w, gd⟩ := hw
  exact Good.ret gd w
theorem jts_one {X : Cx} {c : Expr} {mt : DEnv → M Bool} (h : JT k X E c mt) : PTs X [c] (dT k X.K E mt) := pts_one h
theorem j_comp (sub : ∀ i ∈ ts, i ∈ own.map (·.2)) (hc : X.calm = true) (hN : X.N.Nodup) (hi : JI k X E tg iter mi) (ok : BlkOk X.N X.env.scope scope own)
    (hg : ∀ (s : Shared) (H : Hp) (C : Addr) (cl : List (Str × Addr)) (fp : List Addr), JG k (X.blk s H scope (compEnvC scope cl C X.env) fp) E0 tg ts g)
    (ht : ∀ (s : Shared) (H : Hp) (C : Addr) (cl : List (Str × Addr)) (fp : List Addr), PTs (X.blk s H scope (compEnvC scope cl C X.env) fp) ifs (dT k X.K E0 mt))
    (he : ∀ (s : Shared) (H : Hp) (C : Addr) (cl : List (Str × Addr)) (fp : List Addr), JE k (X.blk s H scope (compEnvC scope cl C X.env) fp) E0 elt me) (hs : ∀ x, foldedSetIterable iter X.env x = pure x := by intro _; rfl) :
    JE k X E (.ListComp elt [⟨tg, iter, ifs, 0⟩] scope pos) (eComp mi g mt me (own.map (·.2))) :=
  PE.imp (pe_lc hc hN hi ok hg ht he hs) fun s H Q h => comp_core sub fin_lst h
theorem js_setC {i : Nat} {y : Str} {py spos : Pos} {fin : List D → M D}
    (hfin : ∀ (G1 H1 : Hp) (L1 : Lam) (G H : Hp) (L : Lam) (μ : Store) (Dl : Addr) (ws : List V) (ds : List D) (Q : VK), Stp G1 H1 L1 G H L → H1 Dl = none → Wd k X.K G H L μ → Pv G H L Dl (.lst ws) → RpA k X.K G L ws ds → Good k X.K E G1 H1 L1 (fin ds μ) (QV k X.K Q) → Q (.ref Dl) H)
    (sub : ∀ i ∈ ts, i ∈ own.map (·.2)) (hc : X.calm = true) (hN : X.N.Nodup) (hy : X.N[i]? = some y) (hyl : X.env.scope.names.lookup y = some .local)
    (hsw : swapsWith (.ListComp elt [⟨tg, iter, ifs, 0⟩] scope pos) (some (.Name y py)) spos.line X.env = pure true) (hi : JI k X E tg iter mi) (ok : BlkOk X.N X.env.scope scope own)
    (hg : ∀ (s : Shared) (H : Hp) (C : Addr) (cl : List (Str × Addr)) (fp : List Addr), JG k (X.blk s H scope (compEnvC scope cl C X.env) fp) E0 tg ts g)
    (ht : ∀ (s : Shared) (H : Hp) (C : Addr) (cl : List (Str × Addr)) (fp : List Addr), PTs (X.blk s H scope (compEnvC scope cl C X.env) fp) ifs (dT k X.K E0 mt))
    (he : ∀ (s : Shared) (H : Hp) (C : Addr) (cl : List (Str × Addr)) (fp : List Addr), JE k (X.blk s H scope (compEnvC scope cl C X.env) fp) E0 elt me) (hs : ∀ x, foldedSetIterable iter X.env x = pure x := by intro _; rfl) :
    JS k X E (.Assign [.Name y py] (.ListComp elt [⟨tg, iter, ifs, 0⟩] scope pos) spos) (sSet i (fun e => do let ds ← compM mi g mt me (own.map (·.2)) e; fin ds)) := by
  refine PS.imp (ps_setLc (g := dG k X.K E0 ts g) (te := dE k X.K E0 me) hc hN hy hyl hsw hi ok hg ht he hs) fun D s H h => ?_
  refine comp_core (fin := fin) sub hfin ?_
  obtain ⟨e, G, L, μ, sg, w, gd⟩ := h
  refine ⟨e, G, L, μ, sg, w, Good.mono (Good.bind gd) fun d m1 G1 H1 L1 st1 w1 q1 v r => ?_⟩
  exact Good.ret q1 w1 _ ((sg.mono st1.g st1.l).set i r)
end
end
end DL
namespace DL
open PySem L2 PyProof.Rows
mutual
def D.und (n : Nat) : D → Bool
  | .lst ds => D.undL n ds
  | .tup ds => D.undL n ds
  | .loc i => decide (i < n)
  | .obj _ ds => D.undL n ds
  | .dct _ ds => D.undL n ds
  | .fdc _ ds => D.undL n ds
  | .err _ ds => D.undL n ds
  | _ => true
def D.undL (n : Nat) : List D → Bool
  | [] => true
  | d :: ds => d.und n && D.undL n ds
end
def undO (n : Nat) : List (Option D) → Bool
  | [] => true
  | some d :: r => d.und n && undO n r
  | none :: r => undO n r
def Cell.und (n : Nat) : Cell → Bool
  | .lst ds => D.undL n ds
  | .ins _ ss => undO n ss
  | .dct _ ds => D.undL n ds
instance : DecidableEq Cell := fun a b => match a, b with
  | .lst x, .lst y => if h : x = y then .isTrue (by rw [h]) else .isFalse (by intro z; cases z; exact h rfl)
  | .ins c x, .ins d y => if h : c = d ∧ x = y then .isTrue (by rw [h.1, h.2]) else .isFalse (by intro z; cases z; exact h ⟨rfl, rfl⟩)
  | .lst _, .ins _ _ => .isFalse nofun
  | .ins _ _, .lst _ => .isFalse nofun
  | .dct c x, .dct d y => if h : c = d ∧ x = y then .isTrue (by rw [h.1, h.2]) else .isFalse (by intro z; cases z; exact h ⟨rfl, rfl⟩)
  | .dct _ _, .lst _ => .isFalse nofun
  | .dct _ _, .ins _ _ => .isFalse nofun
  | .lst _, .dct _ _ => .isFalse nofun
  | .ins _ _, .dct _ _ => .isFalse nofun
section
variable {k : Kx} {K : PySem.W.Frag} {G G' : Hp} {L L' : Lam}
mutual
theorem Rp.lower (e : L <+: L') : ∀ (d : D) (v : V), Rp k K G L' v d → d.und L.length = true → Rp k K G L v d
  | .non, _, h, _ => by cases h; exact .non
  | .bl b, _, h, _ => by cases h; exact .bl b
  | .int i, _, h, _ => by cases h; exact .int i
  | .str i, _, h, _ => by cases h; exact .str i
  | .lst ds, _, h, b => by
    cases h with
    | lst hs ha => exact .lst hs (RpA.lower e ds _ ha (by simpa [D.und] using b))
  | .tup ds, _, h, b => by
    cases h with
    | tup hs ha => exact .tup hs (RpA.lower e ds _ ha (by simpa [D.und] using b))
  | .loc n, _, h, b => by
    cases h with
    | loc hn =>
      have hl : n < L.length := by simpa [D.und] using b
      obtain ⟨t, rfl⟩ := e
      rw [List.getElem?_append_left hl] at hn
      exact .loc hn
  | .obj c ds, _, h, b => by
    cases h with
    | obj hs ha => exact .obj hs (RpA.lower e ds _ ha (by simpa [D.und] using b))
  | .cls c, _, h, _ => by cases h; exact .cls c
  | .dct ks ds, _, h, b => by
    cases h with
    | dct hs hl ha => exact .dct hs hl (RpA.lower e ds _ ha (by simpa [D.und] using b))
  | .fdc ks ds, _, h, b => by
    cases h with
    | fdc hs hl ha => exact .fdc hs hl (RpA.lower e ds _ ha (by simpa [D.und] using b))
  | .err c ds, _, h, b => by
    cases h with
    | err h1 h2 hl ha => exact .err h1 h2 hl (RpA.lower e ds _ ha (by simpa [D.und] using b))
    | err0 h0 h1 => exact .err0 h0 h1
theorem RpA.lower (e : L <+: L') : ∀ (ds : List D) (vs : List V), RpA k K G L' vs ds → D.undL L.length ds = true → RpA k K G L vs ds
  | [], _, h, _ => by cases h; exact .nil
  | d :: ds, _, h, b => by
    cases h with
    | cons h1 h2 =>
      have b' : d.und L.length = true ∧ D.undL L.length ds = true := by simpa [D.undL] using b
      exact .cons (Rp.lower e d _ h1 b'.1) (RpA.lower e ds _ h2 b'.2)
end
mutual
theorem Rp.und : ∀ (d : D) (v : V), Rp k K G L v d → d.und L.length = true
  | .non, _, _ => rfl
  | .bl _, _, _ => rfl
  | .int _, _, _ => rfl
  | .str _, _, _ => rfl
  | .lst ds, _, h => by
    cases h with
    | lst hs ha => simpa [D.und] using RpA.und ds _ ha
  | .tup ds, _, h => by
    cases h with
    | tup hs ha => simpa [D.und] using RpA.und ds _ ha
  | .loc n, _, h => by
    cases h with
    | loc hn => simpa [D.und] using (List.getElem?_eq_some_iff.mp hn).1
  | .obj c ds, _, h => by
    cases h with
    | obj hs ha => simpa [D.und] using RpA.und ds _ ha
  | .cls _, _, _ => rfl
  | .dct ks ds, _, h => by
    cases h with
    | dct hs hl ha => simpa [D.und] using RpA.und ds _ ha
  | .fdc ks ds, _, h => by
    cases h with
    | fdc hs hl ha => simpa [D.und] using RpA.und ds _ ha
  | .err c ds, _, h => by
    cases h with
    | err h1 h2 hl ha => simpa [D.und] using RpA.und ds _ ha
    | err0 h0 h1 => simp [D.und, D.undL]
theorem RpA.und : ∀ (ds : List D) (vs : List V), RpA k K G L vs ds → D.undL L.length ds = true
  | [], _, _ => rfl
  | d :: ds, _, h => by
    cases h with
    | cons h1 h2 => simp [D.undL, Rp.und d _ h1, RpA.und ds _ h2]
end
theorem undO_get {n : Nat} : ∀ {ss : List (Option D)} {i : Nat} {d : D}, undO n ss = true → ss[i]? = some (some d) → d.und n = true
  | [], i, d, _, h => by simp at h
  | o :: ss, 0, d, b, h => by
    simp at h
    subst h
    have : d.und n = true ∧ undO n ss = true := by simpa [undO] using b
    exact this.1
  | o :: ss, i + 1, d, b, h => by
    have hb : undO n ss = true := by
      cases o with
      | none => simpa [undO] using b
      | some x =>
        have : x.und n = true ∧ undO n ss = true := by simpa [undO] using b
        exact this.2
    exact undO_get (i := i) hb (by simpa using h)
theorem undO_of {n : Nat} : ∀ {ss : List (Option D)}, (∀ (i : Nat) (d : D), ss[i]? = some (some d) → d.und n = true) → undO n ss = true
  | [], _ => rfl
  | o :: ss, h => by
    have hr : undO n ss = true := undO_of fun i d e => h (i + 1) d (by simpa using e)
    cases o with
    | none => simpa [undO] using hr
    | some x => simp [undO, hr, h 0 x (by simp)]
theorem CellR.und {H : Hp} {a b : Addr} {c : Cell} (r : CellR k K G H L a b c) : c.und L.length = true := by
  cases c with
  | lst ds =>
    obtain ⟨_, vs, _, ra⟩ := r
    exact RpA.und ds vs ra
  | dct ks ds =>
    obtain ⟨_, vs, _, _, ra⟩ := r
    exact RpA.und ds vs ra
  | ins c ss =>
    obtain ⟨vs, _, q, _⟩ := r
    exact undO_of fun i d e => let ⟨v, _, rv⟩ := q.2 i d e; Rp.und d v rv
theorem CellR.lower {H : Hp} {a b : Addr} {c : Cell} (e : L <+: L') (r : CellR k K G H L' a b c) (hb : c.und L.length = true) : CellR k K G H L a b c := by
  cases c with
  | lst ds =>
    obtain ⟨e1, vs, h, ra⟩ := r
    exact ⟨e1, vs, h, RpA.lower e ds vs ra hb⟩
  | dct ks ds =>
    obtain ⟨e1, vs, h, hl, ra⟩ := r
    exact ⟨e1, vs, h, hl, RpA.lower e ds vs ra hb⟩
  | ins c ss =>
    obtain ⟨vs, h, q, r⟩ := r
    exact ⟨vs, h, ⟨q.1, fun i d z => let ⟨v, x, rv⟩ := q.2 i d z; ⟨v, x, Rp.lower e d v rv (undO_get hb z)⟩⟩, r⟩
end
def cellKept (n : Nat) (p : Option Cell × Option Cell) : Bool := decide (p.1 = p.2) || (match p.1 with | some c => c.und n | none => true)
def trimOk (m m' : Store) : Bool := decide (m.length ≤ m'.length) && ((m'.take m.length).zip m).all (cellKept m.length)
def scopeM (x : M D) : M D := fun m => match x m with
  | .ok d m' => if (trimOk m m' && d.und m.length) = true then .ok d (m'.take m.length) else .ok d m'
  | r => r
section
variable {k : Kx} {X : Cx} {E : XK}
theorem scope_good {x : M D} {G H : Hp} {L : Lam} {μ : Store} {Q : VK} (w : Wd k X.K G H L μ) (g : Good k X.K E G H L (scopeM x μ) (QV k X.K Q)) : Good k X.K E G H L (x μ) (QV k X.K Q) := by
  unfold scopeM at g
  cases e : x μ with
  | exn c fs m => rw [e] at g; exact g
  | bad => rw [e] at g; exact g
  | ok d m' =>
    rw [e] at g
    simp only at g
    by_cases hc : (trimOk μ m' && d.und μ.length) = true
    · rw [if_pos hc] at g
      obtain ⟨ht, hd⟩ := Bool.and_eq_true_iff.mp hc
      unfold trimOk at ht
      obtain ⟨t2, t3⟩ := Bool.and_eq_true_iff.mp ht
      have t2 := of_decide_eq_true t2
      intro G' H' L' st w' v r
      have hp : L <+: L' := st.l
      have live : ∀ i, Live (m'.take μ.length) i → i < μ.length ∧ Live m' i := fun i hi => by
        obtain ⟨c, hc⟩ := hi
        have hl := (List.getElem?_eq_some_iff.mp hc).1
        rw [List.length_take] at hl
        rw [List.getElem?_take_of_lt (by omega)] at hc
        exact ⟨by omega, c, hc⟩
      have getL : ∀ {i : Nat} {p : Addr × Addr}, i < μ.length → L'[i]? = some p → L[i]? = some p := fun {i p} hi h => by
        obtain ⟨t, rfl⟩ := hp
        rw [List.getElem?_append_left (by rw [w.len]; exact hi)] at h
        exact h
      have w2 : Wd k X.K G' H' L (m'.take μ.length) := by
        refine ⟨w'.ext, by rw [List.length_take, w.len]; omega, fun p hp' => w'.tk p (by obtain ⟨t, rfl⟩ := hp; exact List.mem_append_left _ hp'), w'.tab, w'.gt, fun n c hn => ?_, fun i j a b a' b' li lj ne ha hb => ?_⟩
        · obtain ⟨hl, _⟩ := live n ⟨c, hn⟩
          have hn' : m'[n]? = some (some c) := by
            rw [List.getElem?_take_of_lt hl] at hn
            exact hn
          obtain ⟨a, b, h1, h2, h3, r'⟩ := w'.cell n c hn'
          refine ⟨a, b, getL hl h1, h2, h3, r'.lower hp ?_⟩
          rw [w.len]
          have hz : ((m'.take μ.length).zip μ)[n]? = some (some c, μ[n]) := by
            rw [List.getElem?_zip_eq_some]
            exact ⟨hn, List.getElem?_eq_getElem hl⟩
          have hk := List.all_eq_true.mp t3 _ (List.mem_of_getElem? hz)
          unfold cellKept at hk
          rcases (Bool.or_eq_true_iff.mp hk) with q | q
          · have q' : some c = μ[n] := of_decide_eq_true q
            have hm : μ[n]? = some (some c) := by rw [List.getElem?_eq_getElem hl, ← q']
            obtain ⟨_, _, _, _, _, r0⟩ := w.cell n c hm
            have := r0.und
            rw [w.len] at this
            exact this
          · exact q
        · exact w'.apart i j a b a' b' (live i li).2 (live j lj).2 ne (pre_get hp ha) (pre_get hp hb)
      refine g G' H' L ⟨st.g, pre_refl L, st.tr, st.keep, fun p h => .inl h⟩ w2 v (Rp.lower hp d v r ?_)
      rw [w.len]
      exact hd
    · rw [if_neg hc] at g
      exact g
def spD (k : Kx) (K : PySem.W.Frag) (n : Nat) (den : List D → M D) : Sp := fun vs H Q E => ∃ ds G L μ, RpA k K G L vs ds ∧ ds.length = n ∧ Wd k K G H L μ ∧ Good k K E G H L (den ds μ) (QV k K Q)
def startD (n : Nat) (ds : List D) : DEnv := ds.map some ++ List.replicate (n - ds.length) none
def runB (x : M Out) : M D := do
  let o ← x
  match o with
    | .nx _ => pure .non
    | .rt d => pure d
    | _ => M.bad
/-- the denotation of a def: N slots, its body -/
def fnD (n : Nat) (body : DEnv → M Out) : List D → M D := fun ds => scopeM (runB (body (startD n ds)))
theorem start_sg {k : Kx} {K : PySem.W.Frag} {G : Hp} {L : Lam} {N : List Str} {vs : List V} {ds : List D} (r : RpA k K G L vs ds) : Sg k K G L (start N vs) (startD N.length ds) := by
  unfold L2.start startD
  refine ⟨by simp [r.len], fun i d h => ?_⟩
  by_cases hi : i < ds.length
  · rw [List.getElem?_append_left (by simpa using hi), List.getElem?_map] at h
    cases e : ds[i]? with
    | none => rw [e] at h; cases h
    | some d' =>
      rw [e] at h
      cases h
      obtain ⟨v, hv, rv⟩ := r.get e
      refine ⟨v, ?_, rv⟩
      rw [List.getElem?_append_left (by rw [List.length_map, r.len]; exact hi), List.getElem?_map, hv]
      rfl
  · rw [List.getElem?_append_right (by simpa using hi), List.getElem?_replicate] at h
    split at h <;> cases h
section
variable {P : Program} {w : World} {K : PySem.W.Frag} {mg : Str → Option Value} {base : Heap}
theorem fn_ok {x qual : Str} {st : Stmt} {f : Addr} {fd : FuncData} {N ps : List Str} {lvl : Nat} {m : DEnv → M Out} (F : Fun K x qual st f fd) (S : FnScope N ps (defScope st))
    (hb : ∀ (cdv : Value) (A : Around) (outer : List Env) (s : Shared) (H : Hp) (E : XK), Room lvl (A.deeper (envOfC qual (defScope st) s.heap.objs.size f cdv)) → JB k (cxOf (L2.CX P w) P w K mg base N qual (defScope st) f cdv A outer s H E) E (defBody st) m) :
    FnOk P w K mg base (L2.CX P w) (lvl + 1) f fd ps (spD k K ps.length (fnD N.length m)) := by
  refine Fun.okX F S (fun vs H Q E h => ?_) (fun cdv A outer s H vs Q E hr h => ?_)
  · obtain ⟨ds, G, L, μ, r, hl, _⟩ := h
    rw [r.len, hl]
  · obtain ⟨ds, G, L, μ, r, hl, w0, g⟩ := h
    refine ⟨_, hb cdv A outer s H E hr, ?_⟩
    have g1 := scope_good (X := cxOf (L2.CX P w) P w K mg base N qual (defScope st) f cdv A outer s H E) w0 g
    refine ⟨startD N.length ds, G, L, μ, start_sg r, w0, Good.mono (Good.bind g1) fun o m1 G1 H1 L1 st1 w1 q1 => ?_⟩
    cases o with
    | nx e => exact fun s1 _ => Good.ret q1 w1 _ .non
    | rt d => exact fun v rv => Good.ret q1 w1 v rv
    | bk e => exact False.elim q1
    | ct e => exact False.elim q1
end
def callN (n : Nat) (den : List D → M D) (ds : List D) : M D := if ds.length = n then den ds else M.bad
abbrev FnDn (k : Kx) (X : Cx) (lvl : Nat) (f : Addr) (n : Nat) (den : List D → M D) : Prop := FnR X.prog X.w X.K X.mg X.base (L2.CX X.prog X.w) lvl f (spD k X.K n den)
theorem j_call {x : Str} {p pos : Pos} {a : Expr} {es : List Expr} {ms : DEnv → M (List D)} {lvl : Nat} {f : Addr} {n : Nat} {den : List D → M D} (F : FnDn k X lvl f n den) (hr : Room lvl X.A) (hx : Passes (L2.CX X.prog X.w) X E) (hg : Gl X x) (hm : X.mg x = some (.ref f))
    (hk : PySem.W.keepIn X.K (.ref f) = true) (ha : JA k X E (a :: es) ms) (hdb : (x == ("__debug__" : Str)) = false := by decide) (he : starEach (a :: es) X.env = (false, eval a X.env) :: starEach es X.env := by rfl) (hpl : (backTo pos (starEach es X.env)).any (·.1) = false := by rfl) :
    JE k X E (.Call (.Name x p) (a :: es) [] pos) (eCallB (callN n den) ms) := by
  refine ⟨fun pins s σ H Q I h => ?_⟩
  refine wpAny_Call_Name_kw (ld_glob I hg hm ?_ hdb)
  obtain ⟨e, G, L, μ, sg, w, gd⟩ := h
  have h' : dA k X.K E ms σ H fun vs H1 => spD k X.K n den vs H1 Q E := ⟨e, G, L, μ, sg, w, Good.mono (Good.bind gd) fun ds m1 G1 H1 L1 st1 w1 q1 vs r => by
    obtain ⟨hl, q1⟩ := good_ite q1
    exact ⟨ds, G1, L1, m1, r, hl, w1, q1⟩⟩
  refine PySem.W.callWith_K (h₀ := X.base) I.ok.mod.kin hk (thn (ha.run pos pins s σ H _ I h') fun us s1 ⟨vs, H1, I1, r, q⟩ => ⟨I1.kIn, ?_⟩) he hpl
  exact wpAny_call (run_fnR F hr hx I1 r q)
end
end DL
namespace DL
open PySem L2 PyProof.Rows
inductive Kd where
  | non | bl | int | str | lst | tup | dct | obj (c : Nat)
  deriving DecidableEq
inductive Ty where
  | int | bool | str | lst | tup | seq | cls (c : Nat)
  deriving DecidableEq
def isK : Ty → Kd → Bool
  | .int, .int => true
  | .int, .bl => true
  | .bool, .bl => true
  | .str, .str => true
  | .lst, .lst => true
  | .tup, .tup => true
  | .seq, .lst => true
  | .seq, .tup => true
  | .cls c, .obj c' => decide (c = c')
  | _, _ => false
def kindOf (cs : List Nat) (d : D) (m : Store) : Option Kd := match d with
  | .non => some .non
  | .bl _ => some .bl
  | .int _ => some .int
  | .str _ => some .str
  | .lst _ => some .lst
  | .tup _ => some .tup
  | .cls _ => none
  | .dct _ _ => some .dct
  | .fdc _ _ => none
  | .err _ _ => none
  | .obj c _ => if c ∈ cs then some (.obj c) else none
  | .loc n => match m[n]? with
    | some (some (.lst _)) => some .lst
    | _ => none
def isiD (cs : List Nat) (t : Ty) (d : D) : M D := fun m => match kindOf cs d m with
  | some kd => .ok (.bl (isK t kd)) m
  | none => .bad
def nmK : Kd → String
  | .non => "NoneType"
  | .bl => "bool"
  | .int => "int"
  | .str => "str"
  | .lst => "list"
  | .tup => "tuple"
  | .dct => "dict"
  | .obj _ => ""
def tyNm : Ty → String
  | .int => "int"
  | .bool => "bool"
  | .str => "str"
  | .lst => "list"
  | .tup => "tuple"
  | _ => ""
section
variable {k : Kx} {X : Cx} {E : XK}
theorem tyx_of {cs : List Nat} {d : D} {x : V} {kd : Kd} {G H : Hp} {L : Lam} {μ : Store} (r : Rp k X.K G L x d) (w : Wd k X.K G H L μ) (h : kindOf cs d μ = some kd) (no : ∀ c, kd ≠ .obj c) : TyX X.K H x (.type (nmK kd)) := by
  have lst : ∀ {a : Addr} {xs : List V}, SqL X.K H a xs → TyX X.K H (.ref a) (.type "list") := fun {a xs} hs => by
    rcases hs with (hs | ⟨o, hs⟩) | ⟨o, its, n, hk, hc, _⟩
    · exact .base (.lst hs)
    · exact .base (.frz hs)
    · exact .kList hk hc
  have tup : ∀ {a : Addr} {xs : List V}, SqT X.K H a xs → TyX X.K H (.ref a) (.type "tuple") := fun {a xs} hs => by
    rcases hs with (hs | ⟨o, hs⟩) | ⟨o, its, n, hk, hc, _⟩
    · exact .base (.tup hs)
    · exact .fTuple hs
    · exact .kTuple hk hc
  cases d with
  | non => cases r; cases h; exact .base .non
  | bl b => cases r; cases h; exact .base (.bl b)
  | int i => cases r; cases h; exact .base (.int i)
  | str s => cases r; cases h; exact .base (.str s)
  | lst ds =>
    cases h
    cases r with
    | lst hs ha => exact lst (w.ext.seq hs)
  | tup ds =>
    cases h
    cases r with
    | tup hs ha => exact tup (sqT_mono w.ext hs)
  | loc n =>
    simp only [kindOf] at h
    cases hm : μ[n]? with
    | none => rw [hm] at h; cases h
    | some o =>
      cases o with
      | none => rw [hm] at h; cases h
      | some c =>
        cases c with
        | ins _ _ => rw [hm] at h; cases h
        | dct _ _ => rw [hm] at h; cases h
        | lst ds =>
          rw [hm] at h
          cases h
          obtain ⟨a, vs, rfl, _, _, hh, _⟩ := w.look hm r
          exact lst (SqL.of hh)
  | cls c => cases h
  | fdc _ _ => cases h
  | err _ _ => cases h
  | dct ks ds =>
    cases h
    cases r with
    | dct hs hl ha => exact .base (.dK (w.ext _ _ hs))
  | obj c ds =>
    simp only [kindOf] at h
    by_cases hc : c ∈ cs
    · rw [if_pos hc] at h
      cases h
      exact absurd rfl (no c)
    · rw [if_neg hc] at h
      cases h
/-- what is to be known of the law's classes for isinstance with the class value u -/
structure IsiF (k : Kx) (K : PySem.W.Frag) (cs : List Nat) (t : Ty) (u : Value) : Prop where
  ob : ∀ c ∈ cs, SlX.SCls K (k.cl c) ∧ SlX.SIsi K (k.cl c) ∧ PySem.W.kitOne K (.ref (k.cl c)) u = some (isK t (.obj c))
  bu : ∀ kd, (∀ c, kd ≠ .obj c) → PySem.W.kitOne K (.type (nmK kd)) u = some (isK t kd)
theorem isi_run {cs : List Nat} {t : Ty} {u : Value} {c : V} (F : IsiF k X.K cs t u) (rc : RelV c u) (one : ∀ w, RelV c w → w = u) (kc : ClsV c u) {d : D} {x : V} {G H : Hp} {L : Lam} {μ : Store} {Q : VK} (r : Rp k X.K G L x d) (w : Wd k X.K G H L μ)
    (g : Good k X.K E G H L (isiD cs t d μ) (QV k X.K Q)) : rIsi X.K [x, c] H Q ∨ SlX.rIsiSl X.K u [x, c] H Q := by
  unfold isiD at g
  cases h : kindOf cs d μ with
  | none => rw [h] at g; exact False.elim g
  | some kd =>
    rw [h] at g
    have q := Good.okE g w _ (.bl _)
    by_cases no : ∀ c, kd ≠ .obj c
    · exact .inl ⟨x, c, _, u, _, rfl, kc, tyx_of r w h no, F.bu kd no, q⟩
    · have no' : ∃ c, kd = .obj c := by
        cases kd with
        | obj c => exact ⟨c, rfl⟩
        | _ => exact absurd (fun c z => nomatch z) no
      obtain ⟨cc, rfl⟩ := no'
      have hd : ∃ ds, d = .obj cc ds ∧ cc ∈ cs := by
        cases d with
        | obj c' ds =>
          simp only [kindOf] at h
          by_cases hc : c' ∈ cs
          · rw [if_pos hc] at h
            cases h
            exact ⟨ds, rfl, hc⟩
          · rw [if_neg hc] at h
            cases h
        | loc n =>
          simp only [kindOf] at h
          cases hm : μ[n]? with
          | none => rw [hm] at h; cases h
          | some o =>
            cases o with
            | none => rw [hm] at h; cases h
            | some c' => cases c' <;> (rw [hm] at h; cases h)
        | _ => cases h
      obtain ⟨ds, rfl, hcs⟩ := hd
      cases r with
      | @obj _ a dx vs _ hs ha =>
        obtain ⟨f1, f2, f3⟩ := F.ob cc hcs
        exact .inr ⟨a, k.cl cc, dx, _, c, _, rfl, rc, one, slt_mono w.ext hs, f1, f2, f3, q⟩
def eIsi (cs : List Nat) (t : Ty) (a : DEnv → M D) : DEnv → M D := eUn (isiD cs t) a
theorem kit_bu (t : Ty) (h : t = .int ∨ t = .bool ∨ t = .str ∨ t = .lst ∨ t = .tup) {K : PySem.W.Frag} : ∀ kd, (∀ c, kd ≠ .obj c) → PySem.W.kitOne K (.type (nmK kd)) (.type (tyNm t)) = some (isK t kd) := by
  intro kd no
  cases kd with
  | obj c => exact absurd rfl (no c)
  | _ => rcases h with rfl | rfl | rfl | rfl | rfl <;> exact kit_ty (by decide +kernel)
/-- isinstance(e, T), T a built-in class or one of the program's -/
theorem j_isi {a : Expr} {ma : DEnv → M D} {p pos pc : Pos} {cn : Str} {cs : List Nat} {t : Ty} {u : Value} {c : V} {te : TE} (F : IsiF k X.K cs t u) (rc : RelV c u) (one : ∀ w, RelV c w → w = u) (kc : ClsV c u) (hg : Gl X "isinstance") (hm : X.mg "isinstance" = none)
    (ha : JE k X E a ma) (hc : PE X (.Name cn pc) (tC c)) (hs1 : starEach [.Name cn pc] X.env = [(false, eval (.Name cn pc) X.env)] := by rfl) (he : starEach [a, .Name cn pc] X.env = (false, eval a X.env) :: starEach [.Name cn pc] X.env := by rfl) (hpl : (backTo pos (starEach [.Name cn pc] X.env)).any (·.1) = false := by rfl) :
    JE k X E (.Call (.Name "isinstance" p) [a, .Name cn pc] [] pos) (eIsi cs t ma) := by
  refine PE.imp (pe_callB (CallR.or call_isi (SlX.call_isiSl u)) hg hm (by decide +kernel) (pa_cons ha (pa_cons hc pa_nil hs1) he) (by decide) (by decide) he hpl) fun s H Q h => ?_
  obtain ⟨e, G, L, μ, sg, w, gd⟩ := h
  refine ⟨e, G, L, μ, sg, w, Good.mono (Good.bind gd) fun d1 m1 G1 H1 L1 st1 w1 q1 x r1 => ?_⟩
  exact isi_run F rc one kc r1 w1 q1
/-- isinstance(e, (list, tuple)) -/
theorem kit_seq {K : PySem.W.Frag} : ∀ kd, (∀ c, kd ≠ .obj c) → PySem.W.kitAny K (.type (nmK kd)) [.type "list", .type "tuple"] = some (isK .seq kd) := by
  intro kd no
  have h1 := kit_bu (K := K) .lst (by simp) kd no
  have h2 := kit_bu (K := K) .tup (by simp) kd no
  cases kd with
  | obj c => exact absurd rfl (no c)
  | lst => exact kitAny_cons h1 (fun z => by cases z) fun _ => rfl
  | tup => exact kitAny_cons h1 (fun _ => kitAny_cons h2 (fun z => by cases z) fun _ => rfl) fun z => by cases z
  | _ => exact kitAny_cons h1 (fun _ => kitAny_cons h2 (fun _ => kitAny_nil) fun z => by cases z) fun z => by cases z
structure IsiS (k : Kx) (K : PySem.W.Frag) (cs : List Nat) : Prop where
  ob : ∀ c ∈ cs, SlX.SCls K (k.cl c) ∧ SlX.SIsi K (k.cl c) ∧ PySem.W.kitAny K (.ref (k.cl c)) [.type "list", .type "tuple"] = some false
/-- isinstance of an instance with slots against a tuple of classes -/
def rIsiSlT (K : PySem.W.Frag) : List V → Hp → VK → Prop := fun xs H Q => ∃ (a C dx tp : Addr) (vs : List (Option V)) (cs : List V) (us : List Value) (b : Bool), xs = [V.ref a, .ref tp] ∧ H tp = some (.tup cs) ∧ Paired ClsV cs us ∧ SlX.Slt H a C dx vs ∧ SlX.SCls K C ∧ SlX.SIsi K C ∧ PySem.W.kitAny K (.ref C) us = some b ∧ Q (.bl b) H
theorem call_isiSlT : CallR X (.builtin "isinstance") (rIsiSlT X.K) := by
  intro pins s σ H xs us Q I r h
  obtain ⟨a, C, dx, tp, vs, cs, ws, b, rfl, hT, kk, hsl, hc, hi, hk, q⟩ := h
  obtain ⟨u1, u2, rfl, r1, r2⟩ := r.two
  cases (show u1 = Value.ref a from r1)
  cases (show u2 = Value.ref tp from r2)
  obtain ⟨sl, od, _, J, _⟩ := SlX.slt_inst I hsl
  obtain ⟨_, its, rv, o, h1, h2, n, h3⟩ := (show ObjOk X.prog X.w H s.heap tp (.tup cs) from I.hok tp _ hT)
  have e3 := ClsV.all kk rv
  subst e3
  obtain ⟨oc, od', dt, sl'⟩ := o
  simp only at h2 h3
  subst h2 h3
  exact PySem.W.kia_tup (OwX.kitx_slt hc.ic (hc.get _) hi.ca hi.cn hi.ct hi.cm) I.kIn J h1 hk (fun z => nomatch z) fun tk => ⟨.bl b, H, I.tok tk, rfl, q⟩
theorem j_isiS {a : Expr} {ma : DEnv → M D} {p pos p1 p2 p3 : Pos} {kk : Nat} {cs : List Nat} (F : IsiS k X.K cs) (hg : Gl X "isinstance") (hm : X.mg "isinstance" = none) (hgl : Gl X "list") (hml : X.mg "list" = none) (hgt : Gl X "tuple") (hmt : X.mg "tuple" = none) (ha : JE k X E a ma)
    (h1 : starEach [.Name "tuple" p2] X.env = [(false, eval (.Name "tuple" p2) X.env)] := by rfl) (h2 : starEach [.Name "list" p1, .Name "tuple" p2] X.env = (false, eval (.Name "list" p1) X.env) :: starEach [.Name "tuple" p2] X.env := by rfl)
    (h3 : starEach [.Tuple [.Name "list" p1, .Name "tuple" p2] kk p3] X.env = [(false, eval (.Tuple [.Name "list" p1, .Name "tuple" p2] kk p3) X.env)] := by rfl)
    (he : starEach [a, .Tuple [.Name "list" p1, .Name "tuple" p2] kk p3] X.env = (false, eval a X.env) :: starEach [.Tuple [.Name "list" p1, .Name "tuple" p2] kk p3] X.env := by rfl)
    (hpl : (backTo pos (starEach [.Tuple [.Name "list" p1, .Name "tuple" p2] kk p3] X.env)).any (·.1) = false := by rfl) :
    JE k X E (.Call (.Name "isinstance" p) [a, .Tuple [.Name "list" p1, .Name "tuple" p2] kk p3] [] pos) (eIsi cs .seq ma) := by
  have hl : PE X (.Name "list" p1) (tC (.ty "list")) := pe_bltn hgl hml (by decide +kernel) rfl
  have ht : PE X (.Name "tuple" p2) (tC (.ty "tuple")) := pe_bltn hgt hmt (by decide +kernel) rfl
  refine PE.imp (pe_callB (CallR.or call_isiT call_isiSlT) hg hm (by decide +kernel) (pa_cons ha (pa_cons (pe_tup (pa_cons hl (pa_cons ht pa_nil h1) h2)) pa_nil h3) he) (by decide) (by decide) he hpl) fun s H Q h => ?_
  obtain ⟨e, G, L, μ, sg, w, gd⟩ := h
  refine ⟨e, G, L, μ, sg, w, Good.mono (Good.bind gd) fun d1 m1 G1 H1 L1 st1 w1 q1 x r1 => ⟨by show 2 ≤ sizeLine; decide, fun tp htp => ?_⟩⟩
  have w2 := w1.junk (o := .tup [V.ty "list", V.ty "tuple"]) htp
  have q2 := Good.up q1 (junkS (G := G1) (L := L1) (o := .tup [V.ty "list", V.ty "tuple"]) htp)
  unfold isiD at q2
  cases h : kindOf cs d1 m1 with
  | none => rw [h] at q2; exact False.elim q2
  | some kd =>
    rw [h] at q2
    have q := Good.okE q2 w2 _ (.bl _)
    have kp : Paired ClsV [V.ty "list", V.ty "tuple"] [.type "list", .type "tuple"] := .cons (.ty _) (.cons (.ty _) .nil)
    by_cases no : ∀ c, kd ≠ .obj c
    · exact .inl ⟨x, tp, _, _, _, _, rfl, upd_same, kp, tyx_of r1 w2 h no, kit_seq kd no, q⟩
    · have no' : ∃ c, kd = .obj c := by
        cases kd with
        | obj c => exact ⟨c, rfl⟩
        | _ => exact absurd (fun c z => nomatch z) no
      obtain ⟨cc, rfl⟩ := no'
      cases d1 with
      | obj c' ds =>
        simp only [kindOf] at h
        by_cases hc : c' ∈ cs
        · rw [if_pos hc] at h
          cases h
          cases r1 with
          | @obj _ a dx vs _ hs ha =>
            obtain ⟨f1, f2, f3⟩ := F.ob cc hc
            exact .inr ⟨a, k.cl cc, dx, tp, _, _, _, _, rfl, upd_same, kp, slt_mono w2.ext hs, f1, f2, f3, q⟩
        · rw [if_neg hc] at h
          cases h
      | loc n =>
        simp only [kindOf] at h
        cases hm : m1[n]? with
        | none => rw [hm] at h; cases h
        | some o =>
          cases o with
          | none => rw [hm] at h; cases h
          | some c' => cases c' <;> (rw [hm] at h; cases h)
      | _ => cases h
def setIx (o i v : D) : M Unit := fun m => match o, i with
  | .loc n, .int i => match m[n]? with
    | some (some (.lst ds)) => match ixN ds.length i with
      | some j => .ok () (m.set n (some (.lst (ds.set j v))))
      | none => .bad
    | _ => .bad
  | _, _ => .bad
def sSetIx (o i v : DEnv → M D) : DEnv → M Out := fun e => do let x ← v e; let y ← o e; let z ← i e; setIx y z x; pure (.nx e)
theorem setIx_good {β : Type} {o i v : D} {x y : V} {u : V} {f : Unit → M β} {G H : Hp} {L : Lam} {μ : Store} {Q : β → Store → Hp → Hp → Lam → Prop} (ro : Rp k X.K G L x o) (ri : Rp k X.K G L y i) (rv : Rp k X.K G L u v) (w : Wd k X.K G H L μ) (g : Good k X.K E G H L ((setIx o i v >>= f) μ) Q) :
    ∃ p xs kk j m', x = .ref p ∧ y = .int kk ∧ H p = some (.lst xs) ∧ ixN xs.length kk = some j ∧ Stp G H L G (upd H p (.lst (xs.set j u))) L ∧ Wd k X.K G (upd H p (.lst (xs.set j u))) L m' ∧ Good k X.K E G H L (f () m') Q := by
  have g' : Good k X.K E G H L (M.bind (setIx o i v) f μ) Q := g
  unfold M.bind setIx at g'
  cases o with
  | loc n =>
    cases i with
    | int kk =>
      cases ri
      simp only at g'
      cases hm : μ[n]? with
      | none => rw [hm] at g'; exact False.elim g'
      | some c =>
        cases c with
        | none => rw [hm] at g'; exact False.elim g'
        | some c =>
          cases c with
          | ins _ _ => rw [hm] at g'; exact False.elim g'
          | dct _ _ => rw [hm] at g'; exact False.elim g'
          | lst ds =>
            rw [hm] at g'
            simp only at g'
            cases hj : ixN ds.length kk with
            | none => rw [hj] at g'; exact False.elim g'
            | some j =>
              rw [hj] at g'
              obtain ⟨a, vs, rfl, hl, ga, h, ra⟩ := w.look hm ro
              exact ⟨a, vs, kk, j, _, rfl, rfl, h, by rw [ra.len]; exact hj, setLocS hl h, w.setLoc hm hl (ra.set j rv), g'⟩
    | _ => exact False.elim g'
  | _ => cases i <;> exact False.elim g'
theorem js_setIx {o i v : Expr} {mo mi mv : DEnv → M D} {pos pos' : Pos} (hv : JE k X E v mv) (ho : JE k X E o mo) (hi : JE k X E i mi) (hs : swapsWithSole [.Subscript o i pos'] v pos.line X.env = pure false := by rfl) (hw : swappedStores [.Subscript o i pos'] v X.env = pure none := by rfl)
    (h1 : (assignEach [.Subscript o i pos'] X.env).map (·.2) = [assign (.Subscript o i pos') X.env] := by rfl)
    (ha : ∀ v, assign (.Subscript o i pos') X.env v = (do
      let ov ← holding [v] (eval o X.env)
      let iv ← holding [v, ov] (eval i X.env)
      standAt pos'
      holding [v, ov, iv] (setItem ov iv v)
      release [v, ov, iv] []) := by intro _; rfl) : JS k X E (.Assign [.Subscript o i pos'] v pos) (sSetIx mo mi mv) := by
  refine PS.imp (ps_asg hv (pg_sub ho hi set_list ha) hs hw h1) fun Ds s H h => ?_
  obtain ⟨e, G, L, μ, sg, w, gd⟩ := h
  refine ⟨e, G, L, μ, sg, w, Good.mono (Good.bind gd) fun d1 m1 G1 H1 L1 st1 w1 q1 x1 r1 => ?_⟩
  have sg1 := sg.mono st1.g st1.l
  refine ⟨e, G1, L1, m1, sg1, w1, Good.mono (Good.bind q1) fun d2 m2 G2 H2 L2 st2 w2 q2 x2 r2 => ?_⟩
  have sg2 := sg1.mono st2.g st2.l
  refine ⟨e, G2, L2, m2, sg2, w2, Good.mono (Good.bind q2) fun d3 m3 G3 H3 L3 st3 w3 q3 x3 r3 => ?_⟩
  have sg3 := sg2.mono st3.g st3.l
  obtain ⟨p, xs, kk, j, m', rfl, rfl, h, hj, st4, w4, q4⟩ := setIx_good (Rp.mono st3.g st3.l _ _ r2) r3 (Rp.mono st3.g st3.l _ _ (Rp.mono st2.g st2.l _ _ r1)) w3 q3
  exact ⟨p, xs, kk, j, rfl, rfl, h, hj, Good.up q4 st4 _ _ _ (Stp.refl _ _ _) w4 _ (sg3.mono st4.g st4.l)⟩
def isLocL (o : D) : M Unit := fun m => match o with
  | .loc n => match m[n]? with
    | some (some (.lst _)) => .ok () m
    | _ => .bad
  | _ => .bad
def growD (o : D) (vs : List D) : M D := fun m => match o with
  | .loc n => match m[n]? with
    | some (some (.lst ds)) => if ds.length + vs.length ≤ 100000 then .ok .non (m.set n (some (.lst (ds ++ vs)))) else .bad
    | _ => .bad
  | _ => .bad
def eApp (o v : DEnv → M D) : DEnv → M D := fun e => do let x ← o e; isLocL x; let y ← v e; growD x [y]
theorem isLoc_good {β : Type} {o : D} {x : V} {f : Unit → M β} {G H : Hp} {L : Lam} {μ : Store} {Q : β → Store → Hp → Hp → Lam → Prop} (r : Rp k X.K G L x o) (w : Wd k X.K G H L μ) (g : Good k X.K E G H L ((isLocL o >>= f) μ) Q) :
    tyV X.K "list" x H ∧ Good k X.K E G H L (f () μ) Q := by
  have g' : Good k X.K E G H L (M.bind (isLocL o) f μ) Q := g
  unfold M.bind isLocL at g'
  cases o with
  | loc n =>
    simp only at g'
    cases hm : μ[n]? with
    | none => rw [hm] at g'; exact False.elim g'
    | some c =>
      cases c with
      | none => rw [hm] at g'; exact False.elim g'
      | some c =>
        cases c with
        | ins _ _ => rw [hm] at g'; exact False.elim g'
        | dct _ _ => rw [hm] at g'; exact False.elim g'
        | lst ds =>
          rw [hm] at g'
          obtain ⟨a, vs, rfl, hl, ga, h, ra⟩ := w.look hm r
          exact ⟨.inl ⟨rfl, vs, SqL.of h⟩, g'⟩
  | _ => exact False.elim g'
theorem grow_good {o : D} {x : V} {us : List V} {ds' : List D} {G H : Hp} {L : Lam} {μ : Store} {Q : VK} (r : Rp k X.K G L x o) (ru : RpA k X.K G L us ds') (w : Wd k X.K G H L μ) (g : Good k X.K E G H L (growD o ds' μ) (QV k X.K Q)) :
    ∃ l xs, x = .ref l ∧ H l = some (.lst xs) ∧ xs.length + us.length ≤ 100000 ∧ Q .non (upd H l (.lst (xs ++ us))) := by
  unfold growD at g
  cases o with
  | loc n =>
    simp only at g
    cases hm : μ[n]? with
    | none => rw [hm] at g; exact False.elim g
    | some c =>
      cases c with
      | none => rw [hm] at g; exact False.elim g
      | some c =>
        cases c with
        | ins _ _ => rw [hm] at g; exact False.elim g
        | dct _ _ => rw [hm] at g; exact False.elim g
        | lst ds =>
          rw [hm] at g
          simp only at g
          by_cases hz : ds.length + ds'.length ≤ 100000
          · rw [if_pos hz] at g
            obtain ⟨a, vs, rfl, hl, ga, h, ra⟩ := w.look hm r
            exact ⟨a, vs, rfl, h, by rw [ra.len, ru.len]; exact hz, g _ _ _ (setLocS hl h) (w.setLoc hm hl (ra.append ru)) _ .non⟩
          · rw [if_neg hz] at g
            exact False.elim g
  | _ => exact False.elim g
theorem j_app {o v : Expr} {mo mv : DEnv → M D} {apos pos : Pos} (ho : JE k X E o mo) (hv : JE k X E v mv)
    (hbase : attributeBase o "append" X.env (eval o X.env) = eval o X.env := by rfl)
    (hfew : ((backTo pos (starEach [v] X.env)).all (fun x => !x.1) && (backToKw pos (keywordEach [] X.env)).all (fun x => x.1.isSome)
      && decide ([v].length + ([] : List Keyword).length + (if ([] : List Keyword).isEmpty then 0 else 1) < 30)) = true := by rfl)
    (hline : (apos.endLine == pos.line) = true := by rfl) (hs : starEach [v] X.env = (false, eval v X.env) :: starEach [] X.env := by rfl) (hplain : (backTo pos (starEach [] X.env)).any (·.1) = false := by rfl) :
    JE k X E (.Call (.Attribute o "append" apos) [v] [] pos) (eApp mo mv) := by
  refine PE.imp (pe_bm PySem.F.plainAttrs_list PySem.F.slot_list_append PySem.F.type_list_append mt_append ho (pa_cons hv pa_nil hs) hbase hfew hline hs hplain) fun s H Q h => ?_
  obtain ⟨e, G, L, μ, sg, w, gd⟩ := h
  refine ⟨e, G, L, μ, sg, w, Good.mono (Good.bind gd) fun d1 m1 G1 H1 L1 st1 w1 q1 x1 r1 => ?_⟩
  obtain ⟨ty, q1⟩ := isLoc_good r1 w1 q1
  refine ⟨ty, e, G1, L1, m1, sg.mono st1.g st1.l, w1, Good.mono (Good.bind q1) fun d2 m2 G2 H2 L2 st2 w2 q2 x2 r2 => ?_⟩
  obtain ⟨l, xs, rfl, h, hz, q⟩ := grow_good (Rp.mono st2.g st2.l _ _ r1) (.cons r2 .nil) w2 q2
  exact ⟨l, xs, x2, rfl, rfl, h, lt_size (by simp at hz; omega), q⟩
/-- xs.extend([.. for ..]) -/
def eExt (o : DEnv → M D) (c : DEnv → M (List D)) : DEnv → M D := fun e => do let x ← o e; isLocL x; let ds ← c e; growD x ds
theorem j_ext {o : Expr} {mo : DEnv → M D} {apos pos cpos : Pos} {tg iter elt : Expr} {mi : DEnv → M Src} {ts : List Nat} {g : D → DEnv → M DEnv} {mt : DEnv → M Bool} {me : DEnv → M D} {ifs : List Expr} {scope : Scope} {own : List (Str × Nat)} (ho : JE k X E o mo)
    (sub : ∀ i ∈ ts, i ∈ own.map (·.2)) (hc : X.calm = true) (hN : X.N.Nodup) (hi : JI k X E tg iter mi) (ok : BlkOk X.N X.env.scope scope own)
    (hg : ∀ (s : Shared) (H : Hp) (C : Addr) (cl : List (Str × Addr)) (fp : List Addr), JG k (X.blk s H scope (compEnvC scope cl C X.env) fp) E0 tg ts g)
    (ht : ∀ (s : Shared) (H : Hp) (C : Addr) (cl : List (Str × Addr)) (fp : List Addr), PTs (X.blk s H scope (compEnvC scope cl C X.env) fp) ifs (dT k X.K E0 mt))
    (he : ∀ (s : Shared) (H : Hp) (C : Addr) (cl : List (Str × Addr)) (fp : List Addr), JE k (X.blk s H scope (compEnvC scope cl C X.env) fp) E0 elt me) (hfs : ∀ x, foldedSetIterable iter X.env x = pure x := by intro _; rfl)
    (hbase : attributeBase o "extend" X.env (eval o X.env) = eval o X.env := by rfl)
    (hfew : ((backTo pos (starEach [.ListComp elt [⟨tg, iter, ifs, 0⟩] scope cpos] X.env)).all (fun x => !x.1) && (backToKw pos (keywordEach [] X.env)).all (fun x => x.1.isSome)
      && decide ([Expr.ListComp elt [⟨tg, iter, ifs, 0⟩] scope cpos].length + ([] : List Keyword).length + (if ([] : List Keyword).isEmpty then 0 else 1) < 30)) = true := by rfl)
    (hline : (apos.endLine == pos.line) = true := by rfl) (hs : starEach [.ListComp elt [⟨tg, iter, ifs, 0⟩] scope cpos] X.env = (false, eval (.ListComp elt [⟨tg, iter, ifs, 0⟩] scope cpos) X.env) :: starEach [] X.env := by rfl) (hplain : (backTo pos (starEach [] X.env)).any (·.1) = false := by rfl) :
    JE k X E (.Call (.Attribute o "extend" apos) [.ListComp elt [⟨tg, iter, ifs, 0⟩] scope cpos] [] pos) (eExt mo (compM mi g mt me (own.map (·.2)))) := by
  have pc := pe_lc (pos := cpos) (g := dG k X.K E0 ts g) (te := dE k X.K E0 me) hc hN hi ok hg ht he hfs
  refine PE.imp (pe_bm PySem.F.plainAttrs_list PySem.F.slot_list_extend PySem.F.type_list_extend mt_extend ho (pa_cons pc pa_nil hs) hbase hfew hline hs hplain) fun s H Q h => ?_
  obtain ⟨e, G, L, μ, sg, w, gd⟩ := h
  refine ⟨e, G, L, μ, sg, w, Good.mono (Good.bind gd) fun d1 m1 G1 H1 L1 st1 w1 q1 x1 r1 => ?_⟩
  obtain ⟨ty, q1⟩ := isLoc_good r1 w1 q1
  refine ⟨ty, comp_gen (fin := fun ds => growD d1 ds) sub (fun G2 H2 L2 G' H' L' μ' Dl ws ds st12 st hD w' pv ra g' => ?_) (sg.mono st1.g st1.l) w1 q1⟩
  have s1 := st12.trans st
  obtain ⟨l, xs, rfl, hh, hz, q⟩ := grow_good (Rp.mono s1.g s1.l _ _ r1) ra w' (Good.up g' st)
  exact ⟨l, Dl, xs, ws, rfl, rfl, hh, pv.h, size_of hz, q⟩
end
end DL
namespace DL
open PySem L2 PyProof.Rows
def clsD (d : D) (m : Store) : Option Nat := match d with
  | .obj c _ => some c
  | .loc n => match m[n]? with
    | some (some (.ins c _)) => some c
    | _ => none
  | _ => none
def slotD (i : Nat) (d : D) (m : Store) : Option D := match d with
  | .obj _ ds => ds[i]?
  | .loc n => match m[n]? with
    | some (some (.ins _ ss)) => match ss[i]? with
      | some (some v) => some v
      | _ => none
    | _ => none
  | _ => none
inductive At where
  | slot (i : Nat)
  | prop (den : List D → M D)
def attrD (tab : List (Nat × At)) (d : D) : M D := fun m => match clsD d m with
  | some c => match tab.lookup c with
    | some (.slot i) => match slotD i d m with
      | some v => .ok v m
      | none => .bad
    | some (.prop den) => noX (den [d]) m
    | none => .bad
  | none => .bad
section
variable {k : Kx} {X : Cx} {E : XK}
theorem ins_at {d : D} {x : V} {c : Nat} {G H : Hp} {L : Lam} {μ : Store} (r : Rp k X.K G L x d) (w : Wd k X.K G H L μ) (h : clsD d μ = some c) :
    ∃ a dx vs, x = .ref a ∧ SlX.Slt H a (k.cl c) dx vs ∧ ∀ i v, slotD i d μ = some v → ∃ u, vs[i]? = some (some u) ∧ Rp k X.K G L u v := by
  cases d with
  | obj c' ds =>
    simp only [clsD] at h
    cases h
    cases r with
    | @obj _ a dx vs _ hs ha =>
      refine ⟨a, dx, _, rfl, slt_mono w.ext hs, fun i v e => ?_⟩
      simp only [slotD] at e
      obtain ⟨u, hu, ru⟩ := ha.get e
      exact ⟨u, by rw [List.getElem?_map, hu]; rfl, ru⟩
  | loc n =>
    simp only [clsD] at h
    cases hm : μ[n]? with
    | none => rw [hm] at h; cases h
    | some o =>
      cases o with
      | none => rw [hm] at h; cases h
      | some cc =>
        cases cc with
        | lst _ => rw [hm] at h; cases h
        | dct _ _ => rw [hm] at h; cases h
        | ins c' ss =>
          rw [hm] at h
          cases h
          obtain ⟨a, dx, vs, rfl, hl, ga, gb, hs, q, ne⟩ := w.lookIns hm r
          refine ⟨a, dx, vs, rfl, hs, fun i v e => ?_⟩
          simp only [slotD, hm] at e
          cases he : ss[i]? with
          | none => rw [he] at e; cases e
          | some o =>
            cases o with
            | none => rw [he] at e; cases e
            | some d' =>
              rw [he] at e
              cases e
              exact q.2 i _ he
  | _ => cases h
theorem slt_of {d : D} {x : V} {c : Nat} {G H : Hp} {L : Lam} {μ : Store} (r : Rp k X.K G L x d) (w : Wd k X.K G H L μ) (h : clsD d μ = some c) : ∃ a dx vs, x = .ref a ∧ SlX.Slt H a (k.cl c) dx vs :=
  let ⟨a, dx, vs, e, hs, _⟩ := ins_at r w h
  ⟨a, dx, vs, e, hs⟩
def At1 (k : Kx) (X : Cx) (f : Str) (c : Nat) : At → Prop
  | .slot i => SlX.SCls X.K (k.cl c) ∧ ∃ p, SlX.Slot1 X.K (k.cl c) f p i
  | .prop den => SlX.SCls X.K (k.cl c) ∧ ∃ p g lvl rest, PySem.W.findIn X.K (.ref (k.cl c)) f = some (some (.ref p)) ∧ PySem.W.specialIn X.K (.ref p) "__get__" = some (some (.builtin "property.__get__")) ∧
      PySem.W.takesIn X.K (.ref p) = some true ∧ PySem.W.recIn X.K p "property" = some (.ref g :: rest) ∧ FnDn k X lvl g 1 den ∧ Room (lvl + 1) X.A
def AtAll (k : Kx) (X : Cx) (f : Str) : List (Nat × At) → Prop
  | [] => True
  | p :: r => At1 k X f p.1 p.2 ∧ AtAll k X f r
theorem atAll_of {f : Str} {c : Nat} {a : At} : ∀ {tab : List (Nat × At)}, AtAll k X f tab → tab.lookup c = some a → At1 k X f c a
  | [], _, h => by cases h
  | p :: r, F, h => by
    rw [List.lookup_cons] at h
    by_cases hc : c == p.1
    · rw [hc] at h
      cases h
      rw [beq_iff_eq.mp hc]
      exact F.1
    · rw [Bool.eq_false_iff.mpr hc] at h
      exact atAll_of F.2 h
theorem noX_good {α : Type} {x : M α} {G H : Hp} {L : Lam} {m : Store} {Q : α → Store → Hp → Hp → Lam → Prop} (h : Good k X.K E G H L (noX x m) Q) : Good k X.K E0 G H L (x m) Q := by
  unfold noX at h
  cases e : x m with
  | ok a m' => rw [e] at h; exact h
  | exn c fs m' => rw [e] at h; exact False.elim h
  | bad => rw [e] at h; exact False.elim h
/-- e.f, by the class of e: a slot, a property -/
theorem j_attr {a : Expr} {ma : DEnv → M D} {f : Str} {pos : Pos} {tab : List (Nat × At)} (F : AtAll k X f tab) (ha : JE k X E a ma) (hb : attributeBase a f X.env (eval a X.env) = eval a X.env := by rfl) : JE k X E (.Attribute a f pos) (eUn (attrD tab) ma) := by
  refine ⟨fun pins s σ H Q I h => ?_⟩
  obtain ⟨e, G, L, μ, sg, w, gd⟩ := h
  have h' : dE k X.K E ma σ H fun x H1 => ∃ G1 L1 m1 d, Rp k X.K G1 L1 x d ∧ Wd k X.K G1 H1 L1 m1 ∧ Good k X.K E G1 H1 L1 (attrD tab d m1) (QV k X.K Q) :=
    ⟨e, G, L, μ, sg, w, Good.mono (Good.bind gd) fun d m1 G1 H1 L1 st1 w1 q1 x r => ⟨G1, L1, m1, d, r, w1, q1⟩⟩
  refine attr_of hb (thn (ha.run pins s σ H _ I h') fun u s1 ⟨x, H1, I1, rx, G1, L1, m1, d, r, w1, q1⟩ => ?_)
  unfold attrD at q1
  cases hc : clsD d m1 with
  | none => rw [hc] at q1; exact False.elim q1
  | some c =>
    simp only [hc] at q1
    obtain ⟨a, dx, vs, rfl, hs, hv⟩ := ins_at r w1 hc
    obtain rfl : u = Value.ref a := rx
    cases ht : tab.lookup c with
    | none => rw [ht] at q1; exact False.elim q1
    | some at' =>
      simp only [ht] at q1
      have A1 := atAll_of F ht
      cases at' with
      | slot i =>
        simp only at q1
        cases hsl : slotD i d m1 with
        | none => rw [hsl] at q1; exact False.elim q1
        | some v =>
          simp only [hsl] at q1
          obtain ⟨y, hy, ry⟩ := hv i v hsl
          obtain ⟨sc, p, sp⟩ := A1
          exact SlX.getslot_ok I1 hs sc sp hy fun u' s2 I2 ru => ⟨y, H1, I2, ru, Good.okE q1 w1 _ ry⟩
      | prop den =>
        simp only at q1
        obtain ⟨sc, p, g, lvl, rest, f1, f2, f3, f4, Fn, hr⟩ := A1
        refine SlX.getprop_sl (E := E0) I1 hs sc f1 f2 f3 ⟨rest, f4⟩ Fn hr (fun H s e s' z => ?_) ⟨[d], G1, L1, m1, .cons r .nil, rfl, w1, noX_good q1⟩
        obtain ⟨_, _, _, _, _, _, _, _, _, _, _, _, z⟩ := z
        exact z.elim
/-- self.f = e, in a class's own defs -/
def setAt (i : Nat) (o v : D) : M Unit := fun m => match o with
  | .loc n => match m[n]? with
    | some (some (.ins c ss)) => .ok () (m.set n (some (.ins c (putD i v ss))))
    | _ => .bad
  | _ => .bad
def setAtT (tab : List (Nat × Nat)) (o v : D) : M Unit := fun m => match clsD o m with
  | some c => match tab.lookup c with
    | some i => setAt i o v m
    | none => .bad
  | none => .bad
def sAttr (tab : List (Nat × Nat)) (o v : DEnv → M D) : DEnv → M Out := fun e => do let x ← v e; let y ← o e; setAtT tab y x; pure (.nx e)
def SlAll (k : Kx) (X : Cx) (f : Str) : List (Nat × Nat) → Prop
  | [] => True
  | p :: r => (SlX.SCls X.K (k.cl p.1) ∧ ∃ q, SlX.Slot1 X.K (k.cl p.1) f q p.2) ∧ SlAll k X f r
theorem slAll_of {f : Str} {c i : Nat} : ∀ {tab : List (Nat × Nat)}, SlAll k X f tab → tab.lookup c = some i → SlX.SCls X.K (k.cl c) ∧ ∃ q, SlX.Slot1 X.K (k.cl c) f q i
  | [], _, h => by cases h
  | p :: r, F, h => by
    rw [List.lookup_cons] at h
    by_cases hc : c == p.1
    · rw [hc] at h
      cases h
      rw [beq_iff_eq.mp hc]
      exact F.1
    · rw [Bool.eq_false_iff.mpr hc] at h
      exact slAll_of F.2 h
theorem setAt_good {β : Type} {tab : List (Nat × Nat)} {o v : D} {x y : V} {f : Unit → M β} {G H : Hp} {L : Lam} {μ : Store} {Q : β → Store → Hp → Hp → Lam → Prop} (ro : Rp k X.K G L x o) (rv : Rp k X.K G L y v) (w : Wd k X.K G H L μ) (g : Good k X.K E G H L ((setAtT tab o v >>= f) μ) Q) :
    ∃ a c dx vs i m', x = .ref a ∧ tab.lookup c = some i ∧ SlX.Slt H a (k.cl c) dx vs ∧ Stp G H L G (SlX.slH H a (k.cl c) dx (SlX.putS i y vs)) L ∧ Wd k X.K G (SlX.slH H a (k.cl c) dx (SlX.putS i y vs)) L m' ∧ Good k X.K E G H L (f () m') Q := by
  have g' : Good k X.K E G H L (M.bind (setAtT tab o v) f μ) Q := g
  unfold M.bind setAtT setAt at g'
  cases o with
  | loc n =>
    simp only [clsD] at g'
    cases hm : μ[n]? with
    | none => simp only [hm] at g'; exact False.elim g'
    | some oc =>
      cases oc with
      | none => simp only [hm] at g'; exact False.elim g'
      | some cc =>
        cases cc with
        | lst _ => simp only [hm] at g'; exact False.elim g'
        | dct _ _ => simp only [hm] at g'; exact False.elim g'
        | ins c ss =>
          simp only [hm] at g'
          cases ht : tab.lookup c with
          | none => rw [ht] at g'; exact False.elim g'
          | some i =>
            rw [ht] at g'
            simp only at g'
            obtain ⟨a, dx, vs, rfl, hl, ga, gb, hs, q, ne⟩ := w.lookIns hm ro
            exact ⟨a, c, dx, vs, i, _, rfl, ht, hs, setInsS hl, w.setIns i hm hl q ne rv, g'⟩
  | obj c ds =>
    simp only [clsD] at g'
    cases ht : tab.lookup c with
    | none => rw [ht] at g'; exact False.elim g'
    | some i => rw [ht] at g'; exact False.elim g'
  | _ => exact False.elim g'
theorem js_attr {o v : Expr} {mo mv : DEnv → M D} {f : Str} {pos pos' : Pos} {tab : List (Nat × Nat)} (F : SlAll k X f tab) (ho : JE k X E o mo) (hv : JE k X E v mv) (hs : swapsWith v (some (.Attribute o f pos')) pos.line X.env = pure false := by rfl) :
    JS k X E (.Assign [.Attribute o f pos'] v pos) (sAttr tab mo mv) := by
  refine PS.imp (SlX.ps_sl ho hv hs) fun Ds s H h => ?_
  obtain ⟨e, G, L, μ, sg, w, gd⟩ := h
  refine ⟨e, G, L, μ, sg, w, Good.mono (Good.bind gd) fun d1 m1 G1 H1 L1 st1 w1 q1 x1 r1 => ?_⟩
  have sg1 := sg.mono st1.g st1.l
  refine ⟨e, G1, L1, m1, sg1, w1, Good.mono (Good.bind q1) fun d2 m2 G2 H2 L2 st2 w2 q2 x2 r2 => ?_⟩
  have sg2 := sg1.mono st2.g st2.l
  obtain ⟨a, c, dx, vs, i, m', rfl, ht, hsl, st3, w3, q3⟩ := setAt_good r2 (Rp.mono st2.g st2.l _ _ r1) w2 q2
  obtain ⟨sc, p, sp⟩ := slAll_of F ht
  exact ⟨a, k.cl c, dx, p, vs, i, rfl, hsl, sc, sp, Good.up q3 st3 _ _ _ (Stp.refl _ _ _) w3 _ (sg2.mono st3.g st3.l)⟩
abbrev MTab := List (Nat × Nat × (List D → M D))
def clsM (d : D) : M Nat := fun m => match clsD d m with
  | some c => .ok c m
  | none => .bad
def methOf (tab : MTab) (c : Nat) : M (Nat × (List D → M D)) := match tab.lookup c with
  | some p => pure p
  | none => M.bad
def eMeth (tab : MTab) (o : DEnv → M D) (as : DEnv → M (List D)) : DEnv → M D := fun e => do
  let x ← o e
  let c ← clsM x
  let p ← methOf tab c
  let ds ← as e
  callN p.1 p.2 (x :: ds)
def Mt1 (k : Kx) (X : Cx) (m : Str) (c n : Nat) (den : List D → M D) : Prop := SlX.SCls X.K (k.cl c) ∧ ∃ g lvl, Meth X.K (k.cl c) m g ∧ FnDn k X lvl g n den ∧ Room lvl X.A
def MtAll (k : Kx) (X : Cx) (m : Str) : MTab → Prop
  | [] => True
  | p :: r => Mt1 k X m p.1 p.2.1 p.2.2 ∧ MtAll k X m r
theorem mtAll_of {m : Str} {c : Nat} {q : Nat × (List D → M D)} : ∀ {tab : MTab}, MtAll k X m tab → tab.lookup c = some q → Mt1 k X m c q.1 q.2
  | [], _, h => by cases h
  | p :: r, F, h => by
    rw [List.lookup_cons] at h
    by_cases hc : c == p.1
    · rw [hc] at h
      cases h
      rw [beq_iff_eq.mp hc]
      exact F.1
    · rw [Bool.eq_false_iff.mpr hc] at h
      exact mtAll_of F.2 h
theorem clsM_good {β : Type} {d : D} {f : Nat → M β} {G H : Hp} {L : Lam} {μ : Store} {Q : β → Store → Hp → Hp → Lam → Prop} (g : Good k X.K E G H L ((clsM d >>= f) μ) Q) : ∃ c, clsD d μ = some c ∧ Good k X.K E G H L (f c μ) Q := by
  have g' : Good k X.K E G H L (M.bind (clsM d) f μ) Q := g
  unfold M.bind clsM at g'
  cases h : clsD d μ with
  | none => rw [h] at g'; exact False.elim g'
  | some c => rw [h] at g'; exact ⟨c, rfl, g'⟩
theorem methOf_good {β : Type} {tab : MTab} {c : Nat} {f : (Nat × (List D → M D)) → M β} {G H : Hp} {L : Lam} {μ : Store} {Q : β → Store → Hp → Hp → Lam → Prop} (g : Good k X.K E G H L ((methOf tab c >>= f) μ) Q) : ∃ p, tab.lookup c = some p ∧ Good k X.K E G H L (f p μ) Q := by
  unfold methOf at g
  cases h : tab.lookup c with
  | none => rw [h] at g; exact False.elim g
  | some p => rw [h] at g; exact ⟨p, rfl, g⟩
theorem j_meth {o a : Expr} {es : List Expr} {mo : DEnv → M D} {ms : DEnv → M (List D)} {m : Str} {pos apos : Pos} {tab : MTab} {pl : Sem Bool} (F : MtAll k X m tab) (hx : Passes (L2.CX X.prog X.w) X E) (ho : JE k X E o mo) (ha : JA k X E (a :: es) ms)
    (hst : starEach (a :: es) X.env = (false, eval a X.env) :: starEach es X.env := by rfl) (hpl : (backTo pos (starEach es X.env)).any (·.1) = false := by rfl)
    (ht : eval (.Call (.Attribute o m apos) (a :: es) [] pos) X.env = (do
      let ov ← eval o X.env
      standAt apos.atName
      let (f, first) ← holding [ov] (getMethod ov m pl)
      callWith pos f first (backTo pos (starEach (a :: es) X.env)) (backToKw pos (keywordEach [] X.env))) := by rfl) :
    JE k X E (.Call (.Attribute o m apos) (a :: es) [] pos) (eMeth tab mo ms) := by
  refine ⟨fun pins s σ H Q I h => ?_⟩
  obtain ⟨e, G, L, μ, sg, w, gd⟩ := h
  have h' : dE k X.K E mo σ H fun x H1 => ∃ c n den a dx vs, x = .ref a ∧ tab.lookup c = some (n, den) ∧ SlX.Slt H1 a (k.cl c) dx vs ∧ dA k X.K E ms σ H1 fun ws H2 => spD k X.K n den (x :: ws) H2 Q E := by
    refine ⟨e, G, L, μ, sg, w, Good.mono (Good.bind gd) fun d m1 G1 H1 L1 st1 w1 q1 x r => ?_⟩
    obtain ⟨c, hc, q1⟩ := clsM_good q1
    obtain ⟨⟨n, den⟩, ht, q1⟩ := methOf_good q1
    obtain ⟨a, dx, vs, rfl, hs⟩ := slt_of r w1 hc
    refine ⟨c, n, den, a, dx, vs, rfl, ht, hs, e, G1, L1, m1, sg.mono st1.g st1.l, w1, Good.mono (Good.bind q1) fun ds m2 G2 H2 L2 st2 w2 q2 ws rw' => ?_⟩
    obtain ⟨hl, q2⟩ := good_ite q2
    exact ⟨d :: ds, G2, L2, m2, .cons (Rp.mono st2.g st2.l _ _ r) rw', hl, w2, q2⟩
  refine PySem.W.methodCall_KW (pl := pl) (thn (ho.run pins s σ H _ I h') fun u s1 ⟨x, H1, I1, rx, c, n, den, a, dx, vs, ex, htab, hsl, q⟩ => ?_) ht
  subst ex
  obtain rfl : u = Value.ref a := rx
  obtain ⟨sc, g, lvl, hm, Fn, hr⟩ := mtAll_of F htab
  refine SlX.getmethsl_ok I1 hsl sc hm ?_
  refine PySem.W.callWith_K (first := [.ref a]) (h₀ := X.base) I.ok.mod.kin hm.kp (thn (ha.run pos pins s1 σ H1 _ I1 q) fun us s2 ⟨ws, H2, I2, r, q2⟩ => ⟨I2.kIn, ?_⟩) hst hpl
  exact wpAny_call (run_fnR (us := .ref a :: us) (vs := .ref a :: ws) Fn hr hx I2 (.cons rfl r) q2)
def newI (c : Nat) : M D := fun m => .ok (.loc m.length) (m ++ [some (.ins c [])])
def allSome : List (Option D) → Option (List D)
  | [] => some []
  | some d :: r => (allSome r).map (d :: ·)
  | none :: _ => none
def frzI (d : D) : M D := fun m => match d with
  | .loc n => match m[n]? with
    | some (some (.ins c ss)) => match allSome ss with
      | some ds => .ok (.obj c ds) (m.set n none)
      | none => .bad
    | _ => .bad
  | _ => .bad
def isNon : D → M Unit
  | .non => pure ()
  | _ => M.bad
def makeD (c n : Nat) (den : List D → M D) (ds : List D) : M D := scopeM (do
  let o ← newI c
  let r ← callN n den (o :: ds)
  isNon r
  frzI o)
theorem allSome_of : ∀ {ss : List (Option D)} {ds : List D}, allSome ss = some ds → ss = ds.map some
  | [], _, h => by cases h; rfl
  | none :: _, _, h => by cases h
  | some d :: r, _, h => by
    simp only [allSome] at h
    cases e : allSome r with
    | none => rw [e] at h; cases h
    | some es =>
      rw [e] at h
      cases h
      rw [allSome_of e]
      rfl
theorem make_good {c n : Nat} {den : List D → M D} {vs : List V} {ds : List D} {G H : Hp} {L : Lam} {μ : Store} {Q : VK} (r : RpA k X.K G L vs ds) (w : Wd k X.K G H L μ) (g : Good k X.K E G H L (makeD c n den ds μ) (QV k X.K Q)) :
    ∀ x dx, H x = none → H dx = none → dx ≠ x → spD k X.K n den (V.ref x :: vs) (upd (upd H dx (.own x)) x (.ins (k.cl c) dx [])) (fun v H2 => v = .non ∧ Q (.ref x) H2) E := by
  intro x dx hx hd ne
  have g1 := scope_good w g
  have g2 : Good k X.K E G H L ((do let r ← callN n den (.loc μ.length :: ds); isNon r; frzI (.loc μ.length)) (μ ++ [some (Cell.ins c [])])) (QV k X.K Q) := g1
  have st := newInsS (G := G) (L := L) (o := .own x) (o' := .ins (k.cl c) dx []) hx hd ne
  have w1 := w.newIns (c := c) hx hd ne
  have rx : Rp k X.K G (L ++ [(x, dx)]) (.ref x) (.loc μ.length) := .loc (a := x) (b := dx) (by rw [← w.len]; simp)
  have g3 := Good.up g2 st
  unfold callN at g3
  by_cases hl : (D.loc μ.length :: ds).length = n
  · simp only [hl, if_true] at g3
    refine ⟨.loc μ.length :: ds, G, L ++ [(x, dx)], _, .cons rx (RpA.mono st.g st.l _ _ r), hl, w1, Good.mono (Good.bind g3) fun d m2 G2 H2 L2 st2 w2 q2 v rv => ?_⟩
    cases d with
    | non =>
      cases rv
      have q3 : Good k X.K E G2 H2 L2 (frzI (.loc μ.length) m2) (QV k X.K Q) := q2
      refine ⟨rfl, ?_⟩
      unfold frzI at q3
      simp only at q3
      cases hm : m2[μ.length]? with
      | none => rw [hm] at q3; exact False.elim q3
      | some o =>
        cases o with
        | none => rw [hm] at q3; exact False.elim q3
        | some cc =>
          cases cc with
          | lst _ => rw [hm] at q3; exact False.elim q3
          | dct _ _ => rw [hm] at q3; exact False.elim q3
          | ins c' ss =>
            rw [hm] at q3
            simp only at q3
            cases ha : allSome ss with
            | none => rw [ha] at q3; exact False.elim q3
            | some es =>
              rw [ha] at q3
              have e := allSome_of ha
              subst e
              obtain ⟨G3, st3, w3, r3⟩ := w2.freezeIns hm (Rp.mono st2.g st2.l _ _ rx)
              exact q3 G3 H2 L2 st3 w3 _ r3
    | _ => exact False.elim q2
  · simp only [hl, if_false] at g3
    exact False.elim g3
theorem j_make {x : Str} {p pos : Pos} {a : Expr} {es : List Expr} {ms : DEnv → M (List D)} {lvl c n : Nat} {f : Addr} {den : List D → M D} (Mc : Mk X.K (k.cl c) f) (F : FnDn k X lvl f n den) (hr : Room (lvl + 1) X.A) (hx : Passes (L2.CX X.prog X.w) X E) (hg : Gl X x) (hm : X.mg x = some (.ref (k.cl c)))
    (ha : JA k X E (a :: es) ms) (hdb : (x == ("__debug__" : Str)) = false := by decide) (he : starEach (a :: es) X.env = (false, eval a X.env) :: starEach es X.env := by rfl) (hpl : (backTo pos (starEach es X.env)).any (·.1) = false := by rfl) :
    JE k X E (.Call (.Name x p) (a :: es) [] pos) (eCallB (makeD c n den) ms) := by
  refine PE.imp (StX.pe_makeR Mc F hr hg hm hx ha hdb he hpl) fun s H Q h => ?_
  obtain ⟨e, G, L, μ, sg, w, gd⟩ := h
  exact ⟨e, G, L, μ, sg, w, Good.mono (Good.bind gd) fun ds m1 G1 H1 L1 st1 w1 q1 vs r => make_good r w1 q1⟩
end
end DL
namespace DL
open PySem L2 PyProof.Rows
section
variable {k : Kx} {X : Cx} {E : XK}
theorem UnR.or {f : Value → Sem Value} {r r' : V → Hp → VK → Prop} (h : UnR X f r) (h' : UnR X f r') : UnR X f (fun x H Q => r x H Q ∨ r' x H Q) := by
  intro pins s σ H x v Q I rx q
  rcases q with q | q
  · exact h pins s σ H x v Q I rx q
  · exact h' pins s σ H x v Q I rx q
/-- the kinds of the other side: built-in ones, or the law's classes cs -/
structure Oe1 (k : Kx) (X : Cx) (cs : List Nat) (c n : Nat) (den : List D → M D) : Prop where
  ex : ∃ g lvl, PySem.W.findIn X.K (.ref (k.cl c)) "__eq__" = some (some (.ref g)) ∧ PySem.W.isFn X.K (.ref g) = true ∧ FnDn k X lvl g n den ∧ Room (lvl + 1) X.A
  ne : PySem.W.findIn X.K (.ref (k.cl c)) "__ne__" = some (some (.builtin "object.__ne__"))
  mo : PySem.W.mroIn X.K (k.cl c) (.type "object") = some true
  nb : ∀ kd, (∀ c, kd ≠ .obj c) → PySem.W.notFirst X.K (k.cl c) (.type (nmK kd)) = true
  no : ∀ c' ∈ cs, PySem.W.notFirst X.K (k.cl c) (.ref (k.cl c')) = true
def OeAll (k : Kx) (X : Cx) (cs : List Nat) : MTab → Prop
  | [] => True
  | p :: r => Oe1 k X cs p.1 p.2.1 p.2.2 ∧ OeAll k X cs r
theorem oeAll_of {cs : List Nat} {c : Nat} {q : Nat × (List D → M D)} : ∀ {tab : MTab}, OeAll k X cs tab → tab.lookup c = some q → Oe1 k X cs c q.1 q.2
  | [], _, h => by cases h
  | p :: r, F, h => by
    rw [List.lookup_cons] at h
    by_cases hc : c == p.1
    · rw [hc] at h
      cases h
      rw [beq_iff_eq.mp hc]
      exact F.1
    · rw [Bool.eq_false_iff.mpr hc] at h
      exact oeAll_of F.2 h
def rOE (k : Kx) (K : PySem.W.Frag) (E : XK) (cs : List Nat) (tab : MTab) (neg : Bool) : R2 := fun x y H Q => ∃ a c dx vs n den, x = .ref a ∧ SlX.Slt H a (k.cl c) dx vs ∧ tab.lookup c = some (n, den) ∧
  ((∃ kd, (∀ c, kd ≠ .obj c) ∧ TyX K H y (.type (nmK kd))) ∨ ∃ c' b dy ws, c' ∈ cs ∧ y = .ref b ∧ SlX.Slt H b (k.cl c') dy ws) ∧ spD k K n den [x, y] H (fun z H' => if neg = true then ∃ b, z = .bl b ∧ Q (.bl (!b)) H' else Q z H') E
theorem cmp_ne_K {prog : Program} {w : World} {A : Around} {E : Value → Shared → Prop} {s : Shared} {K : PySem.W.Frag} {x C L f : Addr} {h₀ : Heap} {m : Str → Option Value} {ox : Obj} {od : Option Obj} {b tb : Value} {Q : Value → Shared → Prop} (hu : A.units + 1 < cLine) (Fx : Fr h₀ L s.heap m) (X₀ : K.In h₀) (I : PySem.W.InstAt s.heap x ox C od)
    (hb : PySem.W.Looks (model prog w) s.heap (typeOf b) tb) (hn : PySem.W.notFirst K C tb = true) (hne : PySem.W.findIn K (.ref C) "__ne__" = some (some (.builtin "object.__ne__"))) (hmo : PySem.W.mroIn K C (.type "object") = some true)
    (hs : PySem.W.findIn K (.ref C) "__eq__" = some (some (.ref f))) (hf : PySem.W.isFn K (.ref f) = true)
    (h : wpAny (model prog w) A.in1 (call (.ref f) [.ref x, b]) (fun v s' => ∃ r, v = .bool r ∧ Q (.bool (!r)) s') E s) : wpAny (model prog w) A (richCompare .NotEq (.ref x) b) Q E s := by
  have X := X₀.keeps Fx.keep
  have sub : PySem.W.Looks (model prog w) s.heap (isInstance (.ref x) (.type "object")) true := I.type.andThen (PySem.W.looks_mroIn X hmo)
  have ent : wpAny (model prog w) A.in1 (Builtin.«object.__ne__» ⟨[.ref x, b], []⟩) (fun fin s' => ∃ r, fin = .done (.ret (.bool r)) ∧ Q (.bool r) s') E s := by
    unfold Builtin.«object.__ne__»
    refine wpAny_bind (wpAny_of_eq (a := (.ref x, [b])) (by first | rfl | kernel_rfl) ?_)
    dsimp only
    refine wpAny_bind (wpAny_cRoomFor hu ?_)
    refine wpAny_bind (PySem.W.ifBound_K X I hs hf (wpAny_mono h (fun v s' hv => ?_) fun _ _ e => e))
    obtain ⟨r, rfl, hq⟩ := hv
    dsimp only
    exact wpAny_bind (wpAny_truthy_bool (wpAny_pure ⟨_, rfl, hq⟩))
  have cal : wpAny (model prog w) A (call (.builtin "object.__ne__") [.ref x, b]) (fun v s' => ∃ r, v = .bool r ∧ Q (.bool r) s') E s :=
    wpAny_call (codeAny_call_builtin F.cmp_object.ne.plain F.cmpEntry_ne (PySem.W.check_slot F.cmpKind_ne F.cmpSplit_ne sub (F.cmpArgs_ne _ _) (wpAny_mono ent (fun fin s' z => by obtain ⟨v, rfl, q⟩ := z; exact ⟨v, rfl, q⟩) fun _ _ e => e)))
  have spc : wpAny (model prog w) A (callSpecialIfBound? (.ref x) "__ne__" [b]) (fun v s' => ∃ r, v = some (.bool r) ∧ Q (.bool r) s') E s := by
    simp only [callSpecialIfBound?, bindSpecialIfBound?]
    refine wpAny_holding (wpAny_bind (wpAny_bind (wpAny_bind (I.type.here ((PySem.W.looks_findIn X hne).here ?_)))))
    refine wpAny_bind (wpAny_askSetting (wpAny_ite ?_))
    have fin : wpAny (model prog w) A (call (.builtin "object.__ne__") ([.ref x] ++ [b]) >>= fun v => pure (some v)) (fun v s' => ∃ r, v = some (.bool r) ∧ Q (.bool r) s') E s := wpAny_bind (wpAny_mono cal (fun v s' h' => wpAny_pure (by obtain ⟨r, rfl, q⟩ := h'; exact ⟨r, rfl, q⟩)) fun _ _ h' => h')
    split
    · exact wpAny_bind (wpAny_of_eq (F.cmp_object.ne.bind _) (wpAny_pure (by exact fin)))
    · exact wpAny_tryCatch (wpAny_bind (wpAny_of_eq (F.cmp_object.ne.bind _) (wpAny_pure (by exact fin))))
  have one : wpAny (model prog w) A (tryCompare (.ref x) (cmpInfo .NotEq).2.1 b) (fun r s' => ∃ v, r = some v ∧ Q v s') E s := by
    unfold tryCompare
    refine wpAny_bind (wpAny_mono spc (fun v s' hv => ?_) fun _ _ e => e)
    obtain ⟨r, rfl, hq⟩ := hv
    exact wpAny_pure ⟨_, rfl, hq⟩
  unfold richCompare
  simp only [oneThing_ref]
  refine wpAny_holding (wpAny_bind (wpAny_cRoomFor (Nat.lt_of_succ_lt hu) ?_))
  refine wpAny_bind (I.type.here (wpAny_bind (hb.here ?_)))
  split
  · rename_i q
    have e : PySem.W.subIn K tb (.ref C) = some false := by
      rcases Bool.or_eq_true_iff.mp hn with e | e
      · rw [beq_iff_eq.mp e] at q; simp at q
      · exact beq_iff_eq.mp e
    refine wpAny_bind ((PySem.W.looks_subIn X e).here ?_)
    simp only [Bool.false_eq_true, if_false]
    refine wpAny_bind (wpAny_mono one (fun r s' z => ?_) fun _ _ e => e)
    obtain ⟨v, rfl, hq⟩ := z
    exact wpAny_pure hq
  · refine wpAny_bind (wpAny_pure ?_)
    simp only [Bool.false_eq_true, if_false]
    refine wpAny_bind (wpAny_mono one (fun r s' z => ?_) fun _ _ e => e)
    obtain ⟨v, rfl, hq⟩ := z
    exact wpAny_pure hq
theorem rOE_ty {cs : List Nat} {C : Addr} {H : Hp} {pins : List (Addr × Obj)} {σ : L2.St} {s : Shared} {y : V} {u : Value} (I : L2.Inv X pins σ H s) (ry : L2.RelV y u) (nb : ∀ kd, (∀ c, kd ≠ .obj c) → PySem.W.notFirst X.K C (.type (nmK kd)) = true)
    (no : ∀ c' ∈ cs, PySem.W.notFirst X.K C (.ref (k.cl c')) = true) (h : (∃ kd, (∀ c, kd ≠ .obj c) ∧ TyX X.K H y (.type (nmK kd))) ∨ ∃ c' b dy ws, c' ∈ cs ∧ y = .ref b ∧ SlX.Slt H b (k.cl c') dy ws) :
    ∃ tb, PySem.W.Looks (model X.prog X.w) s.heap (typeOf u) tb ∧ PySem.W.notFirst X.K C tb = true := by
  rcases h with ⟨kd, n, t⟩ | ⟨c', b, dy, ws, hc, rfl, hs⟩
  · obtain ⟨P, kx, hp, _⟩ := kit_of I ry t
    exact ⟨_, kx.ty _ _ I.kIn hp, nb kd n⟩
  · cases (show u = Value.ref b from ry)
    obtain ⟨sl, od, _, J, _⟩ := SlX.slt_inst I hs
    exact ⟨_, J.type, no c' hc⟩
theorem op_OE {cs : List Nat} {tab : MTab} (F : OeAll k X cs tab) (hx : Passes (L2.CX X.prog X.w) X E) (hu : X.A.units + 64 < cLine) : OpR X (compareOp .Eq) (rOE k X.K E cs tab false) := by
  intro pins s σ H x y v u Q I rx ry h
  obtain ⟨a, c, dx, vs, n, den, rfl, hs, ht, hy, q⟩ := h
  obtain ⟨⟨g, lvl, f1, f2, Fn, hr⟩, ne, mo, nb, no⟩ := oeAll_of F ht
  cases (show v = Value.ref a from rx)
  obtain ⟨tb, hb, hn⟩ := rOE_ty I ry nb no hy
  obtain ⟨sl, od, _, J, _⟩ := SlX.slt_inst I hs
  obtain ⟨m, hF⟩ := I.fr
  refine PySem.W.cmp_K (op := .Eq) (Nat.lt_of_le_of_lt (Nat.le_add_right _ _) hu) hF I.ok.mod.kin J hb hn f1 f2 ?_
  refine wpAny_mono (wpAny_call (run_fnR (us := [.ref a, u]) (vs := [.ref a, y]) Fn (Room.mono hr (Nat.le_succ _)) hx I (.cons rfl (.cons ry .nil)) q)) (fun w s' z => ?_) fun _ _ x => x
  obtain ⟨z', H', I', rz, qz⟩ := z
  exact SlX.cmpback rz ⟨z', H', I', rz, qz⟩
theorem op_ONE {cs : List Nat} {tab : MTab} (F : OeAll k X cs tab) (hx : Passes (L2.CX X.prog X.w) X E) (hu : X.A.units + 64 < cLine) : OpR X (compareOp .NotEq) (rOE k X.K E cs tab true) := by
  intro pins s σ H x y v u Q I rx ry h
  obtain ⟨a, c, dx, vs, n, den, rfl, hs, ht, hy, q⟩ := h
  obtain ⟨⟨g, lvl, f1, f2, Fn, hr⟩, ne, mo, nb, no⟩ := oeAll_of F ht
  cases (show v = Value.ref a from rx)
  obtain ⟨tb, hb, hn⟩ := rOE_ty I ry nb no hy
  obtain ⟨sl, od, _, J, _⟩ := SlX.slt_inst I hs
  obtain ⟨m, hF⟩ := I.fr
  refine cmp_ne_K (Nat.lt_of_le_of_lt (Nat.add_le_add_left (by decide) _) hu) hF I.ok.mod.kin J hb hn ne mo f1 f2 ?_
  refine wpAny_mono (wpAny_call (SlX.run_at (us := [.ref a, u]) (ws := [.ref a, y]) Fn hr.in1 I.env0.in1 hx I (.cons rfl (.cons ry .nil)) q)) (fun w s' z => ?_) fun _ _ x => x
  obtain ⟨z', H', I', rz, b, rfl, qz⟩ := z
  cases (show w = Value.bool b from rz)
  exact ⟨b, rfl, .bl (!b), H', I', rfl, qz⟩
def flipD : Bool → D → M D
  | false, d => pure d
  | true, .bl b => pure (.bl (!b))
  | true, _ => fun _ => .bad
def ownE (cs : List Nat) (tab : MTab) (neg : Bool) (g0 : D → D → M D) (x y : D) : M D := fun m => match clsD x m with
  | some c => match tab.lookup c with
    | some p => match kindOf cs y m with
      | some _ => (callN p.1 p.2 [x, y] >>= flipD neg) m
      | none => .bad
    | none => .bad
  | none => g0 x y m
theorem ownE_op {cs : List Nat} {tab : MTab} {neg : Bool} {g0 : D → D → M D} {op : CmpOp} {r0 : R2} (h1 : OpR X (compareOp op) (rOE k X.K E cs tab neg)) (o0 : OpR X (compareOp op) r0) (h2 : OpD k X.K E r0 g0) : BinD k X E (compareOp op) (ownE cs tab neg g0) := by
  refine ⟨_, OpR.or o0 h1, fun x y dx dy G H L μ Q rx ry w g => ?_⟩
  unfold ownE at g
  cases hc : clsD dx μ with
  | none =>
    simp only [hc] at g
    exact .inl (h2 x y dx dy G H L μ Q rx ry w g)
  | some c =>
    simp only [hc] at g
    cases ht : tab.lookup c with
    | none => simp only [ht] at g; exact False.elim g
    | some p =>
      simp only [ht] at g
      cases hk : kindOf cs dy μ with
      | none => simp only [hk] at g; exact False.elim g
      | some kd =>
        simp only [hk] at g
        obtain ⟨a, dx', vs, rfl, hs⟩ := slt_of rx w hc
        have g1 := Good.bind g
        obtain ⟨hl, g2⟩ := good_ite g1
        refine .inr ⟨a, c, dx', vs, p.1, p.2, rfl, hs, ht, ?_, [dx, dy], G, L, μ, .cons rx (.cons ry .nil), hl, w, ?_⟩
        · by_cases no : ∀ c, kd ≠ .obj c
          · exact .inl ⟨kd, no, tyx_of ry w hk no⟩
          · have no' : ∃ c, kd = .obj c := by
              cases kd with
              | obj c => exact ⟨c, rfl⟩
              | _ => exact absurd (fun c z => nomatch z) no
            obtain ⟨cc, rfl⟩ := no'
            cases dy with
            | obj c' ds =>
              simp only [kindOf] at hk
              by_cases hcs : c' ∈ cs
              · rw [if_pos hcs] at hk
                cases hk
                cases ry with
                | @obj _ b dy' ws _ hs' ha => exact .inr ⟨cc, b, dy', _, hcs, rfl, slt_mono w.ext hs'⟩
              · rw [if_neg hcs] at hk
                cases hk
            | loc n =>
              simp only [kindOf] at hk
              cases hm : μ[n]? with
              | none => rw [hm] at hk; cases hk
              | some o =>
                cases o with
                | none => rw [hm] at hk; cases hk
                | some c' => cases c' <;> (rw [hm] at hk; cases hk)
            | _ => cases hk
        · refine Good.mono g2 fun d1 m1 G1 H1 L1 st1 w1 q1 z rz => ?_
          cases neg with
          | false => exact Good.okE q1 w1 z rz
          | true =>
            cases d1 with
            | bl b => cases rz; exact ⟨b, rfl, Good.okE q1 w1 _ (.bl _)⟩
            | _ => exact False.elim q1
theorem b_eqO {cs : List Nat} {tab : MTab} (F : OeAll k X cs tab) (hx : Passes (L2.CX X.prog X.w) X E) (hu : X.A.units + 64 < cLine) : BinD k X E (compareOp .Eq) (ownE cs tab false eqD) := by
  obtain ⟨r, h1, h2⟩ := b_eq (k := k) (E := E) hu
  exact ownE_op (op_OE F hx hu) h1 h2
theorem b_neO {cs : List Nat} {tab : MTab} (F : OeAll k X cs tab) (hx : Passes (L2.CX X.prog X.w) X E) (hu : X.A.units + 64 < cLine) : BinD k X E (compareOp .NotEq) (ownE cs tab true neD) := by
  obtain ⟨r, h1, h2⟩ := b_ne (k := k) (E := E) hu
  exact ownE_op (op_ONE F hx hu) h1 h2
end
end DL
namespace DL
open PySem L2 PyProof.Rows
section
variable {k : Kx} {X : Cx} {E : XK}
def sParA (i j : Nat) (as : DEnv → M (List D)) : DEnv → M Out := fun e => do
  let ds ← as e
  match ds with
  | [x, y] => pure (.nx ((e.set i (some x)).set j (some y)))
  | _ => M.bad
theorem js_par (i j : Nat) {x y : Str} {a b : Expr} {ms : DEnv → M (List D)} {px py pt pos : Pos} {kt k2 pt2} (hc : X.calm = true) (hN : X.N.Nodup) (hi : X.N[i]? = some x) (hj : X.N[j]? = some y) (hij : i ≠ j)
    (hx : X.env.scope.names.lookup x = some .local) (hy : X.env.scope.names.lookup y = some .local) (ha : JA k X E [a, b] ms)
    (hw : swappedStores [.Tuple [.Name x px, .Name y py] kt pt] (.Tuple [a, b] k2 pt2) X.env = pure (some [x, y]))
    (hs : swapsWithSole [.Tuple [.Name x px, .Name y py] kt pt] (.Tuple [a, b] k2 pt2) pos.line X.env = pure false := by rfl) :
    JS k X E (.Assign [.Tuple [.Name x px, .Name y py] kt pt] (.Tuple [a, b] k2 pt2) pos) (sParA i j ms) := by
  refine PS.imp (ps_par hc hN hi hj hij hx hy ha hw hs) fun Ds s H h => ?_
  obtain ⟨e, G, L, μ, sg, w, gd⟩ := h
  refine ⟨e, G, L, μ, sg, w, Good.mono (Good.bind gd) fun ds m1 G1 H1 L1 st1 w1 q1 vs r => ?_⟩
  match ds, r, q1 with
  | [dx, dy], .cons r1 (.cons r2 .nil), q1 => exact ⟨_, _, rfl, Good.ret q1 w1 _ (((sg.mono st1.g st1.l).set i r1).set j r2)⟩
  | [], _, q1 => exact False.elim q1
  | [_], _, q1 => exact False.elim q1
  | _ :: _ :: _ :: _, _, q1 => exact False.elim q1
def sBad : DEnv → M Out := fun _ => M.bad
def objM (c : Nat) : D → M Unit
  | .obj c' _ => if c' = c then pure () else M.bad
  | _ => M.bad
def eCallO (c n : Nat) (den : List D → M D) (o : DEnv → M D) (as : DEnv → M (List D)) : DEnv → M D := fun e => do
  let x ← o e
  objM c x
  let ds ← as e
  callN n den (x :: ds)
theorem objM_good {β : Type} {d : D} {c : Nat} {f : Unit → M β} {G H : Hp} {L : Lam} {μ : Store} {Q : β → Store → Hp → Hp → Lam → Prop} (g : Good k X.K E G H L ((objM c d >>= f) μ) Q) : ∃ ds, d = .obj c ds ∧ Good k X.K E G H L (f () μ) Q := by
  cases d with
  | obj c' ds =>
    unfold objM at g
    by_cases h : c' = c
    · subst h
      simp only [if_true] at g
      exact ⟨ds, rfl, g⟩
    · simp only [h, if_false] at g
      exact False.elim g
  | _ => exact False.elim g
theorem j_callO {fe a : Expr} {es : List Expr} {mo : DEnv → M D} {ms : DEnv → M (List D)} {pos : Pos} {c n lvl : Nat} {g : Addr} {den : List D → M D} (hf : JE k X E fe mo) (cc : StX.CallO X.K (k.cl c) g) (F : FnDn k X lvl g n den) (hr : Room lvl X.A) (hx : Passes (L2.CX X.prog X.w) X E) (ha : JA k X E (a :: es) ms)
    (ht : eval (.Call fe (a :: es) [] pos) X.env = (do callWith pos (← eval fe X.env) [] (backTo pos (starEach (a :: es) X.env)) (backToKw pos (keywordEach [] X.env))) := by rfl)
    (he : starEach (a :: es) X.env = (false, eval a X.env) :: starEach es X.env := by rfl) (hpl : (backTo pos (starEach es X.env)).any (·.1) = false := by rfl) : JE k X E (.Call fe (a :: es) [] pos) (eCallO c n den mo ms) := by
  refine PE.imp (StX.pe_callO hf cc F hr hx ha ht he hpl) fun s H Q h => ?_
  obtain ⟨e, G, L, μ, sg, w, gd⟩ := h
  refine ⟨e, G, L, μ, sg, w, Good.mono (Good.bind gd) fun d m1 G1 H1 L1 st1 w1 q1 x r => ?_⟩
  obtain ⟨xs, rfl, q1⟩ := objM_good q1
  obtain ⟨a, dx, vs, rfl, hs⟩ := slt_of r w1 rfl
  refine ⟨a, rfl, e, G1, L1, m1, sg.mono st1.g st1.l, w1, Good.mono (Good.bind q1) fun ds m2 G2 H2 L2 st2 w2 q2 ws rw' => ?_⟩
  obtain ⟨hl, q2⟩ := good_ite q2
  have r2 := Rp.mono st2.g st2.l _ _ r
  obtain ⟨a', dx', vs', e2, hs2⟩ := slt_of r2 w2 rfl
  cases e2
  exact ⟨.inl ⟨_, _, hs2⟩, _ :: ds, G2, L2, m2, .cons r2 rw', hl, w2, q2⟩
end
end DL
namespace DL
open PySem L2 PyProof.Rows
def KI : Bool → Heap → Addr → Addr → Nat → Prop
  | true, h, a, l, i => h.IsListIter a l i
  | false, h, a, l, i => h.IsTupleIter a l i
def KQ : Bool → Heap → Addr → Array Value → Prop
  | true, h, a, xs => h.IsList a xs
  | false, h, a, xs => h.IsTuple a xs
def kiN : Bool → String
  | true => "list_iterator"
  | false => "tuple_iterator"
theorem KI.ex {b : Bool} {h : Heap} {a l : Addr} {i : Nat} (x : KI b h a l i) : ∃ o, h.get? a = some o ∧ o.cls = .type (kiN b) ∧ o.data = .fields #[.ref l, .int i 0] := by cases b <;> exact x
theorem KI.of {b : Bool} {h : Heap} {a l : Addr} {i : Nat} (x : ∃ o, h.get? a = some o ∧ o.cls = .type (kiN b) ∧ o.data = .fields #[.ref l, .int i 0]) : KI b h a l i := by cases b <;> exact x
theorem KI.at {b : Bool} {h h' : Heap} {a l : Addr} {i : Nat} (x : KI b h a l i) (e : ∀ o, h.get? a = some o → h'.get? a = some o) : KI b h' a l i := let ⟨o, ho, r⟩ := x.ex; .of ⟨o, e _ ho, r⟩
theorem KI.but {b : Bool} {h h' : Heap} {a c l : Addr} {i : Nat} (x : KI b h a l i) (hs : Heap.ExtBut c h h') (n : a ≠ c) : KI b h' a l i := x.at fun o e => hs a o n e
theorem KI.lt {b : Bool} {h : Heap} {a l : Addr} {i : Nat} (x : KI b h a l i) : a < h.objs.size := let ⟨_, e, _⟩ := x.ex; Heap.lt_size e
theorem KQ.but {b : Bool} {h h' : Heap} {a c : Addr} {xs : Array Value} (x : KQ b h a xs) (hs : Heap.ExtBut c h h') (n : a ≠ c) : KQ b h' a xs := by
  cases b
  · exact Heap.IsTuple.extBut x hs n
  · exact Heap.IsList.extBut x hs n
theorem KQ.push {b : Bool} {h : Heap} {a : Addr} {xs : Array Value} (x : KQ b h a xs) (o : Obj) : KQ b (h.push o) a xs := by
  cases b
  · exact Heap.IsTuple.push x o
  · exact Heap.IsList.push x o
section
variable {prog : Program} {w : World} {A : Around} {E : Value → Shared → Prop} {s : Shared}
theorem nextK_item {b : Bool} {it l : Addr} {i : Nat} {items : Array Value} {x : Value} {Q : Value → Shared → Prop} (hit : KI b s.heap it l i) (hl : KQ b s.heap l items) (hx : items[i]? = some x)
    (hQ : ∀ h', KI b h' it l (i + 1) → Heap.SameBut it s.heap h' → Q x { s with heap := h' }) : wpAny (model prog w) A (Builtin.SmallTypes.nextOf (.ref it)) Q E s := by
  cases b
  · exact RZ.nextOf_tuple_item hit hl hx hQ
  · exact wpAny_nextOf_list_item hit hl hx hQ
theorem nextK_end {b : Bool} {it l : Addr} {i : Nat} {items : Array Value} {Q : Value → Shared → Prop} (hh : A.handled = none) (hit : KI b s.heap it l i) (hl : KQ b s.heap l items) (hx : items[i]? = none)
    (hE : ∀ h' e, Heap.ExtBut it s.heap h' → (∃ o, h'.get? e = some o ∧ o.cls = .type "StopIteration") → E (.ref e) { s with heap := h' }) : wpAny (model prog w) A (Builtin.SmallTypes.nextOf (.ref it)) Q E s := by
  cases b
  · exact RZ.nextOf_tuple_end hh hit hl hx hE
  · exact wpAny_nextOf_list_end hh hit hl hx hE
theorem iterK {b : Bool} {l : Addr} {items : Array Value} {Q : Value → Shared → Prop} (hl : KQ b s.heap l items) (hQ : Q (.ref s.heap.objs.size) { s with heap := s.heap.push { cls := .type (kiN b), data := .fields #[.ref l, .int 0 0] } }) :
    wpAny (model prog w) A (pyIter (.ref l)) Q E s := by
  cases b
  · exact wpAny_pyIter_tuple hl hQ
  · exact wpAny_pyIter_list hl hQ
variable {b1 b2 : Bool}
theorem zipK_item {z TI TO i1 i2 l1 l2 : Addr} {k1 k2 : Nat} {xs ys : Array Value} {x y a b : Value} {Q : Value → Shared → Prop} (D : ZipApart z TI TO i1 i2 l1 l2)
    (hz : IsZip s.heap z TI TO .none) (hTI : IsPair s.heap TI (.ref i1) (.ref i2)) (hTO : IsPair s.heap TO a b)
    (h1 : KI b1 s.heap i1 l1 k1) (h2 : KI b2 s.heap i2 l2 k2) (hl1 : KQ b1 s.heap l1 xs) (hl2 : KQ b2 s.heap l2 ys) (hx : xs[k1]? = some x) (hy : ys[k2]? = some y)
    (hQ : ∀ h', IsZip h' z TI TO (rawInt s.heap.objs.size) → IsPair h' TO x y → KI b1 h' i1 l1 (k1 + 1) → KI b2 h' i2 l2 (k2 + 1) → IsPair h' s.heap.objs.size x y → h'.objs.size = s.heap.objs.size + 1 →
      (∀ c o, c ≠ z → c ≠ TO → c ≠ i1 → c ≠ i2 → s.heap.get? c = some o → h'.get? c = some o) → Q (.ref s.heap.objs.size) { s with heap := h' }) :
    wpAny (model prog w) A (Builtin.«zip.__next__» ⟨[.ref z], []⟩) (fun fin s' => ∃ v, fin = .done (.ret v) ∧ Q v s') E s := by
  show wpAny _ _ (field (.ref z) 2 >>= _) _ _ _
  refine wpAny_bind (wpAny_field hz rfl (x := .bool false) rfl ?_)
  show wpAny _ _ (field (.ref z) 3 >>= _) _ _ _
  refine wpAny_bind (wpAny_field hz rfl (x := .ref TI) rfl (wpAny_bind (wpAny_seqItems hTI rfl ?_)))
  show wpAny _ _ (Builtin.SmallTypes.ownedTupleIsFree (.ref z) >>= _) _ _ _
  refine wpAny_bind ?_
  unfold Builtin.SmallTypes.ownedTupleIsFree
  refine wpAny_bind (wpAny_field hz rfl (x := .none) rfl (wpAny_pure ?_))
  simp only [if_true]
  refine wpAny_bind (wpAny_rule (wpAny_bind (wpAny_field hz rfl (x := .ref TO) rfl (wpAny_bind (wpAny_setField_rec hz (by simp) fun g1 z1 e1 => ?_)))))
  replace z1 : IsZip g1 z TI TO .ellipsis := z1
  refine wpAny_bind ?_
  simp only [List.zipIdx_cons, List.zipIdx_nil, List.forIn_cons, List.forIn_nil]
  refine wpAny_bind (wpAny_bind (wpAny_onRaise ?_))
  show wpAny _ _ (Builtin.SmallTypes.nextOf (.ref i1) >>= _) _ _ _
  refine wpAny_bind (nextK_item (h1.but e1.extBut D.i1z) (hl1.but e1.extBut D.l1z) hx fun g2 n2 e2 => wpAny_pure ?_)
  have t2 : IsPair g2 TO a b := e2.extBut _ _ D.TOi1 (e1.extBut _ _ D.TOz hTO)
  refine wpAny_bind (wpAny_seqItems t2 rfl (wpAny_bind (wpAny_updateSeq_pair t2 fun g3 t3 e3 => ?_)))
  replace t3 : IsPair g3 TO x b := t3
  refine wpAny_bind (wpAny_letGo (wpAny_pure (wpAny_bind (wpAny_bind (wpAny_onRaise ?_)))))
  show wpAny _ _ (Builtin.SmallTypes.nextOf (.ref i2) >>= _) _ _ _
  refine wpAny_bind (nextK_item (((h2.but e1.extBut D.i2z).but e2.extBut D.i12.symm).but e3.extBut D.TOi2.symm) (((hl2.but e1.extBut D.l2z).but e2.extBut D.l2i1).but e3.extBut D.l2TO) hy fun g4 n4 e4 => wpAny_pure ?_)
  have t4 : IsPair g4 TO x b := e4.extBut _ _ D.TOi2 t3
  refine wpAny_bind (wpAny_seqItems t4 rfl (wpAny_bind (wpAny_updateSeq_pair t4 fun g5 t5 e5 => ?_)))
  replace t5 : IsPair g5 TO x y := t5
  refine wpAny_bind (wpAny_letGo (wpAny_pure (wpAny_pure (wpAny_bind (wpAny_seqItems t5 rfl (wpAny_bind (wpAny_newTuple ?_)))))))
  have sz : g5.objs.size = s.heap.objs.size := by rw [e5.1, e4.1, e3.1, e2.1, e1.1]
  have z5 : IsZip g5 z TI TO .ellipsis := e5.extBut _ _ D.TOz.symm (e4.extBut _ _ D.i2z.symm (e3.extBut _ _ D.TOz.symm (e2.extBut _ _ D.i1z.symm z1)))
  have k5 : ∀ c o, c ≠ z → c ≠ TO → c ≠ i1 → c ≠ i2 → s.heap.get? c = some o → g5.get? c = some o := fun c o c1 c2 c3 c4 e => e5.extBut _ _ c2 (e4.extBut _ _ c4 (e3.extBut _ _ c2 (e2.extBut _ _ c3 (e1.extBut _ _ c1 e))))
  have m1 : KI b1 g5 i1 l1 (k1 + 1) := ((n2.but e3.extBut D.TOi1.symm).but e4.extBut D.i12).but e5.extBut D.TOi1.symm
  have m2 : KI b2 g5 i2 l2 (k2 + 1) := n4.but e5.extBut D.TOi2.symm
  have zl : z < g5.objs.size := Heap.lt_size z5
  show wpAny _ _ (Builtin.SmallTypes.ownedTupleHandOut (.ref z) (.ref g5.objs.size) >>= _) _ _ _
  refine wpAny_bind ?_
  unfold Builtin.SmallTypes.ownedTupleHandOut
  have z6 : IsZip (g5.push { cls := .type "tuple", data := .seq #[x, y] }) z TI TO .ellipsis := Heap.get?_push_of_some _ z5
  refine wpAny_bind (wpAny_setField_rec z6 (by simp) fun g7 z7 e7 => ?_)
  replace z7 : IsZip g7 z TI TO (rawInt g5.objs.size) := z7
  refine wpAny_setField_rec z7 (by simp) fun g8 z8 e8 => ?_
  replace z8 : IsZip g8 z TI TO (rawInt g5.objs.size) := z8
  have up : ∀ c o, c ≠ z → g5.get? c = some o → g8.get? c = some o := fun c o c1 e => e8.extBut _ _ c1 (e7.extBut _ _ c1 (Heap.get?_push_of_some _ e))
  have t8 : IsPair g8 g5.objs.size x y := e8.extBut _ _ (Nat.ne_of_gt zl) (e7.extBut _ _ (Nat.ne_of_gt zl) (Heap.get?_push_size _ rfl))
  have s8 : g8.objs.size = g5.objs.size + 1 := by rw [e8.1, e7.1, Heap.size_push]
  rw [sz] at z8 t8 s8
  refine wpAny_pure ⟨_, rfl, ?_⟩
  show Q (.ref g5.objs.size) _
  rw [sz]
  exact hQ g8 z8 (up _ _ D.TOz t5) (m1.at fun o e => up _ o D.i1z e) (m2.at fun o e => up _ o D.i2z e) t8 s8 fun c o c1 c2 c3 c4 e => up c o c1 (k5 c o c1 c2 c3 c4 e)
theorem zipK_end {z TI TO i1 i2 l1 l2 : Addr} {k1 k2 : Nat} {xs ys : Array Value} {a b : Value} {Q : Fin → Shared → Prop} (hh : A.handled = none) (D : ZipApart z TI TO i1 i2 l1 l2)
    (hz : IsZip s.heap z TI TO .none) (hTI : IsPair s.heap TI (.ref i1) (.ref i2)) (hTO : IsPair s.heap TO a b)
    (h1 : KI b1 s.heap i1 l1 k1) (h2 : KI b2 s.heap i2 l2 k2) (hl1 : KQ b1 s.heap l1 xs) (hl2 : KQ b2 s.heap l2 ys) (hend : xs[k1]? = none ∨ ys[k2]? = none)
    (hE : ∀ h' e, (∀ c o, c ≠ z → c ≠ TO → c ≠ i1 → c ≠ i2 → s.heap.get? c = some o → h'.get? c = some o) → (∃ o, h'.get? e = some o ∧ o.cls = .type "StopIteration") → E (.ref e) { s with heap := h' }) :
    wpAny (model prog w) A (Builtin.«zip.__next__» ⟨[.ref z], []⟩) Q E s := by
  show wpAny _ _ (field (.ref z) 2 >>= _) _ _ _
  refine wpAny_bind (wpAny_field hz rfl (x := .bool false) rfl ?_)
  show wpAny _ _ (field (.ref z) 3 >>= _) _ _ _
  refine wpAny_bind (wpAny_field hz rfl (x := .ref TI) rfl (wpAny_bind (wpAny_seqItems hTI rfl ?_)))
  show wpAny _ _ (Builtin.SmallTypes.ownedTupleIsFree (.ref z) >>= _) _ _ _
  refine wpAny_bind ?_
  unfold Builtin.SmallTypes.ownedTupleIsFree
  refine wpAny_bind (wpAny_field hz rfl (x := .none) rfl (wpAny_pure ?_))
  simp only [if_true]
  refine wpAny_bind (wpAny_rule (wpAny_bind (wpAny_field hz rfl (x := .ref TO) rfl (wpAny_bind (wpAny_setField_rec hz (by simp) fun g1 z1 e1 => ?_)))))
  replace z1 : IsZip g1 z TI TO .ellipsis := z1
  refine wpAny_bind ?_
  simp only [List.zipIdx_cons, List.zipIdx_nil, List.forIn_cons, List.forIn_nil]
  refine wpAny_bind (wpAny_bind (wpAny_onRaise ?_))
  show wpAny _ _ (Builtin.SmallTypes.nextOf (.ref i1) >>= _) _ _ _
  have ne : ∀ {h : Heap} {e : Addr} {o : Obj}, IsZip h z TI TO .ellipsis → h.get? e = some o → o.cls = .type "StopIteration" → e ≠ z := fun {h e o} hz' ho hc q => by
    subst q
    rw [hz'] at ho
    cases ho
    simp at hc
  cases hx : xs[k1]? with
  | none =>
    refine wpAny_bind (nextK_end hh (h1.but e1.extBut D.i1z) (hl1.but e1.extBut D.l1z) hx fun g2 e e2 he => ?_)
    obtain ⟨oe, hoe, hce⟩ := he
    have z2 : IsZip g2 z TI TO .ellipsis := e2 _ _ D.i1z.symm z1
    exact wpAny_setField_rec z2 (by simp) fun g3 _ e3 => hE g3 e (fun c o c1 _ c3 _ x => e3.extBut _ _ c1 (e2 _ _ c3 (e1.extBut _ _ c1 x))) ⟨oe, e3.extBut _ _ (ne z2 hoe hce) hoe, hce⟩
  | some x =>
    have hy : ys[k2]? = none := by
      rcases hend with h | h
      · rw [hx] at h; cases h
      · exact h
    refine wpAny_bind (nextK_item (h1.but e1.extBut D.i1z) (hl1.but e1.extBut D.l1z) hx fun g2 n2 e2 => wpAny_pure ?_)
    have t2 : IsPair g2 TO a b := e2.extBut _ _ D.TOi1 (e1.extBut _ _ D.TOz hTO)
    refine wpAny_bind (wpAny_seqItems t2 rfl (wpAny_bind (wpAny_updateSeq_pair t2 fun g3 t3 e3 => ?_)))
    refine wpAny_bind (wpAny_letGo (wpAny_pure (wpAny_bind (wpAny_bind (wpAny_onRaise ?_)))))
    show wpAny _ _ (Builtin.SmallTypes.nextOf (.ref i2) >>= _) _ _ _
    refine wpAny_bind (nextK_end hh (((h2.but e1.extBut D.i2z).but e2.extBut D.i12.symm).but e3.extBut D.TOi2.symm) (((hl2.but e1.extBut D.l2z).but e2.extBut D.l2i1).but e3.extBut D.l2TO) hy fun g4 e e4 he => ?_)
    obtain ⟨oe, hoe, hce⟩ := he
    have z4 : IsZip g4 z TI TO .ellipsis := e4 _ _ D.i2z.symm (e3.extBut _ _ D.TOz.symm (e2.extBut _ _ D.i1z.symm z1))
    exact wpAny_setField_rec z4 (by simp) fun g5 _ e5 => hE g5 e (fun c o c1 c2 c3 c4 x => e5.extBut _ _ c1 (e4 _ _ c4 (e3.extBut _ _ c2 (e2.extBut _ _ c3 (e1.extBut _ _ c1 x))))) ⟨oe, e5.extBut _ _ (ne z4 hoe hce) hoe, hce⟩
theorem pyNextK_item {z TI TO i1 i2 l1 l2 : Addr} {k1 k2 : Nat} {xs ys : Array Value} {x y a b : Value} {Q : Option Value → Shared → Prop} (D : ZipApart z TI TO i1 i2 l1 l2)
    (hz : IsZip s.heap z TI TO .none) (hTI : IsPair s.heap TI (.ref i1) (.ref i2)) (hTO : IsPair s.heap TO a b)
    (h1 : KI b1 s.heap i1 l1 k1) (h2 : KI b2 s.heap i2 l2 k2) (hl1 : KQ b1 s.heap l1 xs) (hl2 : KQ b2 s.heap l2 ys) (hx : xs[k1]? = some x) (hy : ys[k2]? = some y)
    (hQ : ∀ h', IsZip h' z TI TO (rawInt s.heap.objs.size) → IsPair h' TO x y → KI b1 h' i1 l1 (k1 + 1) → KI b2 h' i2 l2 (k2 + 1) → IsPair h' s.heap.objs.size x y → h'.objs.size = s.heap.objs.size + 1 →
      (∀ c o, c ≠ z → c ≠ TO → c ≠ i1 → c ≠ i2 → s.heap.get? c = some o → h'.get? c = some o) → Q (some (.ref s.heap.objs.size)) { s with heap := h' }) : wpAny (model prog w) A (pyNext (.ref z)) Q E s := by
  have hT : s.TypeIs (.ref z) "zip" := ⟨_, hz, rfl⟩
  unfold pyNext
  exact wpAny_bind (wpAny_attempt (wpAny_callSpecial?_slot (name := Str.ofString "__next__") hT F.slot_zip_next (wpAny_call_entry F.slot_zip_next hT F.entry_zip_next
    (zipK_item D hz hTI hTO h1 h2 hl1 hl2 hx hy fun h' a1 a2 a3 a4 a5 a6 a7 => wpAny_pure (hQ h' a1 a2 a3 a4 a5 a6 a7)) (F.args_zip_next_1 _))))
theorem pyNextK_end {z TI TO i1 i2 l1 l2 : Addr} {k1 k2 : Nat} {xs ys : Array Value} {a b : Value} {Q : Option Value → Shared → Prop} (hh : A.handled = none) (D : ZipApart z TI TO i1 i2 l1 l2)
    (hz : IsZip s.heap z TI TO .none) (hTI : IsPair s.heap TI (.ref i1) (.ref i2)) (hTO : IsPair s.heap TO a b)
    (h1 : KI b1 s.heap i1 l1 k1) (h2 : KI b2 s.heap i2 l2 k2) (hl1 : KQ b1 s.heap l1 xs) (hl2 : KQ b2 s.heap l2 ys) (hend : xs[k1]? = none ∨ ys[k2]? = none)
    (hQ : ∀ h', (∀ c o, c ≠ z → c ≠ TO → c ≠ i1 → c ≠ i2 → s.heap.get? c = some o → h'.get? c = some o) → Q none { s with heap := h' }) : wpAny (model prog w) A (pyNext (.ref z)) Q E s := by
  have hT : s.TypeIs (.ref z) "zip" := ⟨_, hz, rfl⟩
  unfold pyNext
  refine wpAny_bind (wpAny_attempt (wpAny_callSpecial?_slot (name := Str.ofString "__next__") hT F.slot_zip_next (wpAny_call_entry F.slot_zip_next hT F.entry_zip_next
    (zipK_end hh D hz hTI hTO h1 h2 hl1 hl2 hend fun h' e hk he => ?_) (F.args_zip_next_1 _))))
  obtain ⟨o, ho, hc⟩ := he
  exact wpAny_bind (wpAny_isInstance (T := "StopIteration") (b := true) ⟨o, ho, hc⟩ isSubtype_stop (wpAny_pure (hQ _ hk)))
end
abbrev zkH1 (b1 : Bool) (h : Heap) (l1 : Addr) : Heap := h.push { cls := .type (kiN b1), data := .fields #[.ref l1, .int 0 0] }
abbrev zkH2 (b1 b2 : Bool) (h : Heap) (l1 l2 : Addr) : Heap := (zkH1 b1 h l1).push { cls := .type (kiN b2), data := .fields #[.ref l2, .int 0 0] }
abbrev zkH3 (b1 b2 : Bool) (h : Heap) (l1 l2 : Addr) : Heap := (zkH2 b1 b2 h l1 l2).push { cls := .type "tuple", data := .seq #[.ref h.objs.size, .ref (zkH1 b1 h l1).objs.size] }
abbrev zkH4 (b1 b2 : Bool) (h : Heap) (l1 l2 : Addr) : Heap := (zkH3 b1 b2 h l1 l2).push { cls := .type "tuple", data := .seq #[.none, .none] }
abbrev zkH5 (b1 b2 : Bool) (h : Heap) (l1 l2 : Addr) : Heap := (zkH4 b1 b2 h l1 l2).push { cls := .type "zip", data := .fields #[.none, .bool false, .bool false, .ref (zkH2 b1 b2 h l1 l2).objs.size, .ref (zkH3 b1 b2 h l1 l2).objs.size] }
theorem meets_zipK (b1 b2 : Bool) (l1 l2 : Addr) (xs ys : Array Value) :
    Meets (Builtin.«zip.__new__» ⟨[.type "zip", .ref l1, .ref l2], []⟩) (fun _ R s => KQ b1 s.heap l1 xs ∧ KQ b2 s.heap l2 ys ∧ R (.ok (.ret (.ref (zkH4 b1 b2 s.heap l1 l2).objs.size))) { s with heap := zkH5 b1 b2 s.heap l1 l2 }) :=
  .of_wp fun prog w A R s h => by
    obtain ⟨hp, g, d, tk, os⟩ := s
    obtain ⟨hl1, hl2, h⟩ := h
    have hsub := sub_zip
    have hL1 : KQ b1 (Shared.heap ⟨hp, g, d, tk, os⟩) l1 xs := hl1
    have hL2 : KQ b2 (Shared.heap ⟨hp.push { cls := .type (kiN b1), data := .fields #[.ref l1, .int 0 0] }, g, d, tk, os⟩) l2 ys := KQ.push hl2 _
    wp_walk using iterK hL1, iterK hL2
    exact ⟨_, rfl, h⟩
theorem call_zipK {prog : Program} {w : World} {A : Around} {E : Value → Shared → Prop} {s : Shared} {b1 b2 : Bool} {l1 l2 : Addr} {xs ys : Array Value} {Q : Value → Shared → Prop} (hl1 : KQ b1 s.heap l1 xs) (hl2 : KQ b2 s.heap l2 ys)
    (h : ∀ h', IsZip h' (s.heap.objs.size + 4) (s.heap.objs.size + 2) (s.heap.objs.size + 3) .none → IsPair h' (s.heap.objs.size + 2) (.ref s.heap.objs.size) (.ref (s.heap.objs.size + 1)) →
      IsPair h' (s.heap.objs.size + 3) .none .none → KI b1 h' s.heap.objs.size l1 0 → KI b2 h' (s.heap.objs.size + 1) l2 0 → h'.objs.size = s.heap.objs.size + 5 →
      (∀ c o, s.heap.get? c = some o → h'.get? c = some o) → Q (.ref (s.heap.objs.size + 4)) { s with heap := h' }) : wpAny (model prog w) A (call (.type "zip") [.ref l1, .ref l2]) Q E s := by
  refine callType_new F.called_zip (by decide) (F.typeCall_zip_2 _ _) (F.newCall_zip_2 _ _) (fun obj => F.args_object_init_3 obj _ _) F.entry_zip_new (meets_zipK b1 b2 l1 l2 xs ys) ⟨hl1, hl2, ?_⟩
  have y1 : (zkH1 b1 s.heap l1).objs.size = s.heap.objs.size + 1 := Heap.size_push ..
  have y2 : (zkH2 b1 b2 s.heap l1 l2).objs.size = s.heap.objs.size + 2 := by rw [Heap.size_push, y1]
  have y3 : (zkH3 b1 b2 s.heap l1 l2).objs.size = s.heap.objs.size + 3 := by rw [Heap.size_push, y2]
  have y4 : (zkH4 b1 b2 s.heap l1 l2).objs.size = s.heap.objs.size + 4 := by rw [Heap.size_push, y3]
  have y5 : (zkH5 b1 b2 s.heap l1 l2).objs.size = s.heap.objs.size + 5 := by rw [Heap.size_push, y4]
  have p1 : ∀ {h : Heap} {o o' : Obj} {a : Addr}, h.get? a = some o → (h.push o').get? a = some o := fun e => Heap.get?_push_of_some _ e
  have g5 : (zkH5 b1 b2 s.heap l1 l2).get? (zkH4 b1 b2 s.heap l1 l2).objs.size = some _ := Heap.get?_push_size _ rfl
  have g4 : (zkH5 b1 b2 s.heap l1 l2).get? (zkH3 b1 b2 s.heap l1 l2).objs.size = some _ := p1 (Heap.get?_push_size _ rfl)
  have g3 : (zkH5 b1 b2 s.heap l1 l2).get? (zkH2 b1 b2 s.heap l1 l2).objs.size = some _ := p1 (p1 (Heap.get?_push_size _ rfl))
  have g2 : (zkH5 b1 b2 s.heap l1 l2).get? (zkH1 b1 s.heap l1).objs.size = some _ := p1 (p1 (p1 (Heap.get?_push_size _ rfl)))
  have g1 : (zkH5 b1 b2 s.heap l1 l2).get? s.heap.objs.size = some _ := p1 (p1 (p1 (p1 (Heap.get?_push_size _ rfl))))
  show _ ∧ _
  rw [y2, y3, y4] at g5
  rw [y1, y2] at g3
  rw [y3] at g4
  rw [y1] at g2
  rw [y4]
  exact ⟨⟨_, g5, rfl⟩, h _ g5 g3 g4 (.of ⟨_, g1, rfl, rfl⟩) (.of ⟨_, g2, rfl, rfl⟩) y5 fun c o x => p1 (p1 (p1 (p1 (p1 x))))⟩
end DL
namespace DL
open PySem L2 PyProof.Rows
def SqK (b : Bool) (K : PySem.W.Frag) (H : Hp) (a : Addr) (xs : List V) : Prop := if b = true then SqL K H a xs else SqT K H a xs
section
variable {X : Cx} {pins : List (Addr × Obj)} {σ : L2.St} {H : Hp} {s : Shared} {a : Addr} {xs ys : List V} {b : Bool}
theorem sqK_val (I : L2.Inv X pins σ H s) (h : SqK b X.K H a xs) : ∃ its : List Value, Vals xs its ∧ KQ b s.heap a its.toArray ∧ a < s.heap.objs.size := by
  cases b
  · obtain ⟨its, r, p, _⟩ := I.tuple h
    obtain ⟨o, ho, _⟩ := id p
    exact ⟨its, r, p, Heap.lt_size ho⟩
  · obtain ⟨its, r, p, _⟩ := I.list h
    exact ⟨its, r, p.isList, p.lt⟩
theorem sqK_inj (I : L2.Inv X pins σ H s) (h : SqK b X.K H a xs) (h' : SqK b X.K H a ys) : xs = ys := by
  cases b
  · exact I.tuple_inj h h'
  · exact I.list_inj h h'
end
def ItzK (b1 b2 : Bool) (K : PySem.W.Frag) (a b : Addr) : It :=
  ⟨fun i H => ∃ (xs ys : List V) (x y : V), SqK b1 K H a xs ∧ SqK b2 K H b ys ∧ xs[i]? = some x ∧ ys[i]? = some y,
    fun i H v H' => ∃ T x y, v = .ref T ∧ H T = none ∧ H' = upd H T (.tup [x, y]) ∧ (∀ xs, SqK b1 K H a xs → xs[i]? = some x) ∧ ∀ ys, SqK b2 K H b ys → ys[i]? = some y,
    fun i H => ∃ xs ys : List V, SqK b1 K H a xs ∧ SqK b2 K H b ys ∧ (xs.length ≤ i ∨ ys.length ≤ i)⟩
theorem turn_zipK {P : Program} {w : World} {K : PySem.W.Frag} {elts : List Expr} {kk : Nat} {tpos : Pos} {b1 b2 : Bool} {a b z TI TO i1 i2 : Addr} (D : ZipApart z TI TO i1 i2 a b) :
    Turn P w K (.Tuple elts kk tpos) (ItzK b1 b2 K a b) [z, TI, TO, i1, i2] z (fun i h => IsZip h z TI TO .none ∧ IsPair h TI (.ref i1) (.ref i2) ∧ (∃ x y, IsPair h TO x y) ∧ KI b1 h i1 a i ∧ KI b2 h i2 b i) where
  mem := by simp
  obj := fun i h st c hc => by
    obtain ⟨hz, hTI, ⟨x, y, hTO⟩, h1, h2⟩ := st
    obtain ⟨o1, e1, _, d1⟩ := h1.ex
    obtain ⟨o2, e2, _, d2⟩ := h2.ex
    have e' : c = z ∨ c = TI ∨ c = TO ∨ c = i1 ∨ c = i2 := by simpa using hc
    rcases e' with rfl | rfl | rfl | rfl | rfl
    · exact ⟨_, hz, fun v q => nomatch q⟩
    · exact ⟨_, hTI, fun v q => nomatch q⟩
    · exact ⟨_, hTO, fun v q => nomatch q⟩
    · exact ⟨o1, e1, fun v q => by rw [d1] at q; cases q⟩
    · exact ⟨o2, e2, fun v q => by rw [d2] at q; cases q⟩
  keep := fun i h h' st k => by
    obtain ⟨hz, hTI, ⟨x, y, hTO⟩, h1, h2⟩ := st
    exact ⟨k z (by simp) _ hz, k TI (by simp) _ hTI, ⟨x, y, k TO (by simp) _ hTO⟩, h1.at fun o q => k i1 (by simp) o q, h2.at fun o q => k i2 (by simp) o q⟩
  item := by
    intro X hP hw hK hc i pins s σ H E I hf st hg
    subst hP hw hK
    obtain ⟨hz, hTI, ⟨x0, y0, hTO⟩, h1, h2⟩ := st
    obtain ⟨xs, ys, x, y, hqx, hqy, hx, hy⟩ := hg
    obtain ⟨its, rv, p, _⟩ := sqK_val I hqx
    obtain ⟨its2, rv2, p2, _⟩ := sqK_val I hqy
    obtain ⟨u, hu, ru⟩ := rv.get hx
    obtain ⟨u2, hu2, ru2⟩ := rv2.get hy
    have hzl : z < s.heap.objs.size := Heap.lt_size hz
    have q1 := h1.lt
    have q2 := h2.lt
    refine pyNextK_item D hz hTI hTO h1 h2 p p2 (x := u) (y := u2) (by simpa using hu) (by simpa using hu2) fun h' z' TO' h1' h2' hT hsz hk => ?_
    refine ⟨_, rfl, wpAny_letOwnedTupleGo_zip (s := { s with heap := h' }) z' fun h'' z'' sb => ?_⟩
    have hT2 : h''.get? s.heap.objs.size = some { cls := .type "tuple", data := .seq #[u, u2] } := (sb.2 _ (Nat.ne_of_gt hzl)).trans hT
    have new : ObjOk X.prog X.w (upd H s.heap.objs.size (.tup [x, y])) h'' s.heap.objs.size (.tup [x, y]) := ⟨by show 2 ≤ sizeLine; decide, [u, u2], .cons ru (.cons ru2 .nil), ⟨_, hT2, rfl, _, rfl⟩⟩
    have I1 : L2.Inv X pins σ (upd H s.heap.objs.size (.tup [x, y])) { s with heap := h'' } :=
      I.turnedNew (t' := s.toks) (ch := [z, TI, TO, i1, i2]) (fun c o hb q => (sb.2 c (fun q' => hb (by simp [q']))).trans (hk c o (fun q' => hb (by simp [q'])) (fun q' => hb (by simp [q'])) (fun q' => hb (by simp [q'])) (fun q' => hb (by simp [q'])) q)) hf (Nat.le_refl _) new
    refine ⟨.ref s.heap.objs.size, _, I1, rfl, ⟨_, x, y, rfl, I.hok.fresh (Nat.le_refl _), rfl, fun l hl => by rw [sqK_inj I hl hqx]; exact hx, fun l hl => by rw [sqK_inj I hl hqy]; exact hy⟩, ⟨z'', ?_, ⟨u, u2, ?_⟩, ?_, ?_⟩, fun c hcm => ?_⟩
    · exact (sb.2 _ D.TIz).trans (hk _ _ D.TIz D.TITO D.TIi1 D.TIi2 hTI)
    · exact (sb.2 _ D.TOz).trans TO'
    · exact h1'.at fun o q => (sb.2 _ D.i1z).trans q
    · exact h2'.at fun o q => (sb.2 _ D.i2z).trans q
    · have hlt : c < s.heap.objs.size := by
        have e' : c = z ∨ c = TI ∨ c = TO ∨ c = i1 ∨ c = i2 := by simpa using hcm
        rcases e' with rfl | rfl | rfl | rfl | rfl
        · exact hzl
        · exact Heap.lt_size hTI
        · exact Heap.lt_size hTO
        · exact q1
        · exact q2
      rw [upd_ne (Nat.ne_of_lt hlt)]
      exact (hf c hcm).1
  done := by
    intro X hP hw hK hc i pins s σ H E I hf st hg
    subst hP hw hK
    obtain ⟨hz, hTI, ⟨x0, y0, hTO⟩, h1, h2⟩ := st
    obtain ⟨xs, ys, hqx, hqy, hend⟩ := hg
    obtain ⟨its, rv, p, _⟩ := sqK_val I hqx
    obtain ⟨its2, rv2, p2, _⟩ := sqK_val I hqy
    have l1 := rv.length
    have l2 := rv2.length
    have he : its.toArray[i]? = none ∨ its2.toArray[i]? = none := by
      rcases hend with q | q
      · exact .inl (by simp; omega)
      · exact .inr (by simp; omega)
    exact pyNextK_end (I.ok.hd hc) D hz hTI hTO h1 h2 p p2 he fun h' hk => ⟨rfl, I.turnedL (t' := s.toks) (ch := [z, TI, TO, i1, i2]) (fun c o hb q =>
      hk c o (fun q' => hb (by simp [q'])) (fun q' => hb (by simp [q'])) (fun q' => hb (by simp [q'])) (fun q' => hb (by simp [q'])) q) hf⟩
  self := fun A i s Q E st h => wpAny_pyIter_zip st.1 h
def iZipT (K : PySem.W.Frag) (ta : TA) : TI := fun σ H R => ta σ H fun vs H1 => ∃ b1 b2 a b xs ys, vs = [.ref a, .ref b] ∧ SqK b1 K H1 a xs ∧ SqK b2 K H1 b ys ∧ R (ItzK b1 b2 K a b) H1
theorem pi_zipK {X : Cx} {e e2 : Expr} {ta : TA} {p pos tpos : Pos} {elts : List Expr} {kk : Nat} (hg : Gl X "zip") (hm : X.mg "zip" = none) (ha : PA X [e, e2] ta)
    (hs : starEach [e, e2] X.env = (false, eval e X.env) :: starEach [e2] X.env := by rfl) (hpl : (backTo pos (starEach [e2] X.env)).any (·.1) = false := by rfl) :
    PI X (.Tuple elts kk tpos) (.Call (.Name "zip" p) [e, e2] [] pos) (iZipT X.K ta) := by
  refine ⟨fun pins s σ H R I h => ?_⟩
  refine Call_ (ld_blt I hg hm PyProof.Rows.boot_zip (PyProof.Rows.callWith_type1 (thn (ha.run pos pins s σ H _ I h) fun us s1 ⟨vs, H1, I1, r1, q1⟩ => ?_) hs hpl))
  obtain ⟨b1, b2, a, b, xs, ys, ex, hqx, hqy, q⟩ := q1
  subst ex
  cases r1 with
  | cons r rr =>
    cases rr with
    | cons r' rr =>
      cases rr
      cases r
      cases r'
      have fresh5 : ∀ c, c ∈ [s1.heap.objs.size + 4, s1.heap.objs.size + 2, s1.heap.objs.size + 3, s1.heap.objs.size, s1.heap.objs.size + 1] → FpOk X pins H1 c := fun c hcm => by
        have hle : s1.heap.objs.size ≤ c := by
          simp only [List.mem_cons, List.not_mem_nil, or_false] at hcm
          omega
        exact I1.fpOk hle (I1.hok.fresh hle)
      obtain ⟨its, rv, p1, lt1⟩ := sqK_val I1 hqx
      obtain ⟨its2, rv2, p2, lt2⟩ := sqK_val I1 hqy
      refine call_zipK p1 p2 fun h' hz hTI hTO h1 h2 hsz hk => wpAny_pyIter_zip hz ?_
      have I2 : L2.Inv X pins σ H1 { s1 with heap := h' } := I1.kept (t' := s1.toks) hk
      exact ⟨s1.heap.objs.size + 4, [s1.heap.objs.size + 4, s1.heap.objs.size + 2, s1.heap.objs.size + 3, s1.heap.objs.size, s1.heap.objs.size + 1], _, _, H1, rfl, I2, turn_zipK (PySem.W.ktu_apart s1.heap.objs.size a b lt1 lt2), ⟨hz, hTI, ⟨_, _, hTO⟩, h1, h2⟩, fresh5, q⟩
def iZip (a : DEnv → M (List D)) : DEnv → M Src := fun e => do
  let xs ← a e
  match xs with
    | [x, y] => (do let s ← srcD x; let t ← srcD y; pure ⟨zipT s.items t.items, s.gd ++ t.gd⟩)
    | _ => M.bad
section
variable {k : Kx} {X : Cx} {E : XK} {pos : Pos}
theorem stand_K {G : Hp} {L : Lam} {s : Src} {a : Addr} {b : Bool} (h : Stand k X.K G L s a b) : ∀ (G2 H2 : Hp) (L2 : Lam) (μ : Store), Same G G2 → L <+: L2 → Wd k X.K G2 H2 L2 μ → s.okB μ = true → ∃ vs, SqK b X.K H2 a vs ∧ RpA k X.K G2 L2 vs s.items := by
  cases b <;> exact h
theorem itzK_ok {G : Hp} {L : Lam} {s t : Src} {a b : Addr} {b1 b2 : Bool} (h1 : Stand k X.K G L s a b1) (h2 : Stand k X.K G L t b b2) : ItOk k X.K G L (ItzK b1 b2 X.K a b) ⟨zipT s.items t.items, s.gd ++ t.gd⟩ := by
  intro G2 H2 L2 μ ge le w ok i
  obtain ⟨o1, o2⟩ := okB_app ok
  obtain ⟨vs, hs, ra⟩ := stand_K h1 G2 H2 L2 μ ge le w o1
  obtain ⟨us, ht, rb⟩ := stand_K h2 G2 H2 L2 μ ge le w o2
  refine ⟨fun d hd => ?_, fun hl => ?_⟩
  · obtain ⟨dx, dy, e1, e2, rfl⟩ := zipT_get hd
    obtain ⟨v, hv, rv⟩ := ra.get e1
    obtain ⟨u, hu, ru⟩ := rb.get e2
    refine ⟨⟨vs, us, v, u, hs, ht, hv, hu⟩, fun x H3 y => ?_⟩
    obtain ⟨T, x', y', rfl, hT, rfl, q1, q2⟩ := y
    have z1 := q1 vs hs
    have z2 := q2 us ht
    rw [hv] at z1
    rw [hu] at z2
    cases z1
    cases z2
    exact two_new w hT rv ru
  · refine ⟨vs, us, hs, ht, ?_⟩
    rw [zipT_len] at hl
    rw [ra.len, rb.len]
    omega
theorem ji_zipK {a b : Expr} {ms : DEnv → M (List D)} {p tpos : Pos} {elts : List Expr} {kk : Nat} (hg : Gl X "zip") (hm : X.mg "zip" = none) (ha : JA k X E [a, b] ms)
    (hs : starEach [a, b] X.env = (false, eval a X.env) :: starEach [b] X.env := by rfl) (hpl : (backTo pos (starEach [b] X.env)).any (·.1) = false := by rfl) :
    JI k X E (.Tuple elts kk tpos) (.Call (.Name "zip" p) [a, b] [] pos) (iZip ms) := by
  refine PI.imp (pi_zipK hg hm ha hs hpl) fun s H R h => ?_
  obtain ⟨e, G, L, μ, sg, w, gd⟩ := h
  refine ⟨e, G, L, μ, sg, w, Good.mono (Good.bind gd) fun ds m1 G1 H1 L1 st1 w1 q1 vs r => ?_⟩
  match ds, r, q1 with
  | [], _, q1 => exact False.elim q1
  | [_], _, q1 => exact False.elim q1
  | [x, y], r, q1 =>
    obtain ⟨v, u, rfl, r1, r2⟩ := two_of (H := H1) r
    obtain ⟨a, s, rfl, ⟨va, hva⟩, sa, q1⟩ := src_atK (f := fun s => do let t ← srcD y; (pure ⟨zipT s.items t.items, s.gd ++ t.gd⟩ : M Src)) r1 w1 q1
    obtain ⟨b, t, rfl, ⟨vb, hvb⟩, sb, q1⟩ := src_atK (f := fun t => (pure ⟨zipT s.items t.items, s.gd ++ t.gd⟩ : M Src)) r2 w1 q1
    exact ⟨notTup x, notTup y, a, b, va, vb, rfl, hva, hvb, Good.ret q1 w1 _ (itzK_ok sa sb)⟩
  | _ :: _ :: _ :: _, _, q1 => exact False.elim q1
end
end DL
namespace DL
open PySem L2 PyProof.Rows
/-- the module's name x stands for d -/
def GlD (k : Kx) (K : PySem.W.Frag) (mg : Str → Option Value) (x : Str) (d : D) : Prop := ∃ u v, mg x = some u ∧ RelV v u ∧ ∀ G L, Rp k K G L v d
theorem j_globD {k : Kx} {X : Cx} {E : XK} {x : Str} {d : D} {pos : Pos} (g : GlD k X.K X.mg x d) (hg : Gl X x) (hd : (x == ("__debug__" : Str)) = false := by decide) : JE k X E (.Name x pos) (eC d) := by
  obtain ⟨u, v, h1, h2, h3⟩ := g
  exact j_glob hg h1 h2 h3 hd
section
variable {k : Kx} {P : Program} {w : World} {K : PySem.W.Frag} {mg : Str → Option Value} {base : Heap}
theorem gl_int {x : Str} {i : Int} {t : Tok} (h : mg x = some (.int i t)) : GlD k K mg x (.int i) := ⟨_, .int i, h, ⟨t, rfl⟩, fun _ _ => .int i⟩
theorem rpa_ints {G : Hp} {L : Lam} : ∀ ns : List Int, RpA k K G L (ns.map V.int) (ns.map D.int)
  | [] => .nil
  | n :: r => .cons (.int n) (rpa_ints r)
def isIntV : Value → Option Int
  | .int i _ => some i
  | _ => none
theorem vals_ints : ∀ {us : List Value} {ns : List Int}, us.map isIntV = ns.map some → Vals (ns.map V.int) us
  | [], [], _ => .nil
  | [], _ :: _, h => by cases h
  | _ :: _, [], h => by cases h
  | u :: us, n :: ns, h => by
    simp only [List.map_cons, List.cons.injEq] at h
    refine .cons ?_ (vals_ints h.2)
    cases u with
    | int i t => exact ⟨t, by cases h.1; rfl⟩
    | _ => exact absurd h.1 (by simp [isIntV])
theorem gl_ints {x : Str} {a : Addr} {od : Option Addr} {its : Array Value} {n : Nat} {sl : Array (Option Value)} {ns : List Int} (h : mg x = some (.ref a)) (hk : K.lookup a = some ⟨.type "tuple", od, .seq its n, sl⟩) (hs : its.size ≤ sizeLine) (hv : its.toList.map isIntV = ns.map some) : GlD k K mg x (.tup (ns.map .int)) :=
  ⟨_, .ref a, h, rfl, fun G L => .tup (.inr ⟨_, its, n, hk, rfl, rfl, hs, vals_ints hv⟩) (rpa_ints ns)⟩
/-- a def of the text -/
structure FA (K : PySem.W.Frag) (x qual : Str) (st : Stmt) (ps : List Str) (f : Addr) : Prop where
  ex : ∃ fd, Fun K x qual st f fd ∧ Binds K fd ps []
theorem FA.kp {x qual : Str} {st : Stmt} {ps : List Str} {f : Addr} (F : FA K x qual st ps f) : PySem.W.keepIn K (.ref f) = true := let ⟨_, h, _⟩ := F.ex; h.kp
theorem fnr_ok {x qual : Str} {st : Stmt} {f : Addr} {N ps : List Str} {lvl : Nat} {m : DEnv → M Out} (F : FA K x qual st ps f) (S : FnScope N ps (defScope st))
    (hb : ∀ (cdv : Value) (A : Around) (outer : List Env) (s : Shared) (H : Hp) (E : XK), Room lvl (A.deeper (envOfC qual (defScope st) s.heap.objs.size f cdv)) → JB k (cxOf (L2.CX P w) P w K mg base N qual (defScope st) f cdv A outer s H E) E (defBody st) m) :
    FnR P w K mg base (L2.CX P w) (lvl + 1) f (spD k K ps.length (fnD N.length m)) := by
  obtain ⟨fd, h, b⟩ := F.ex
  refine FnR.imp ((fn_ok h S hb).raw b .nil) fun vs H Q E z => ?_
  rw [List.append_nil]
  exact z
theorem pass_def {N : List Str} {qual : Str} {sc : Scope} {f : Addr} {cdv : Value} {A : Around} {outer : List Env} {s : Shared} {H : Hp} {E : XK} : Passes (L2.CX P w) (cxOf (L2.CX P w) P w K mg base N qual sc f cdv A outer s H E) E :=
  passes_call (takes_of rfl rfl rfl rfl) (fun _ _ _ _ h => h)
theorem kd_all {p : Kd → Prop} (h1 : p .non) (h2 : p .bl) (h3 : p .int) (h4 : p .str) (h5 : p .lst) (h6 : p .tup) (h7 : p .dct) : ∀ kd, (∀ c, kd ≠ .obj c) → p kd
  | .non, _ => h1
  | .bl, _ => h2
  | .int, _ => h3
  | .str, _ => h4
  | .lst, _ => h5
  | .tup, _ => h6
  | .dct, _ => h7
  | .obj c, n => absurd rfl (n c)
theorem in_nil {p : Nat → Prop} : ∀ c ∈ ([] : List Nat), p c := fun _ h => nomatch h
theorem in_cons {p : Nat → Prop} {c : Nat} {r : List Nat} (h : p c) (hr : ∀ c ∈ r, p c) : ∀ x ∈ c :: r, p x := fun x hx => by
  rcases List.mem_cons.mp hx with q | q
  · rw [q]; exact h
  · exact hr x q
theorem hr_un65 {lvl : Nat} {A : Around} (r : Room lvl A) : A.units + 65 < cLine := by have := r.un; omega
def PrA (K : PySem.W.Frag) (C : Addr) (f : Str) (g : Addr) : Prop := ∃ p rest, PySem.W.findIn K (.ref C) f = some (some (.ref p)) ∧ PySem.W.specialIn K (.ref p) "__get__" = some (some (.builtin "property.__get__")) ∧
      PySem.W.takesIn K (.ref p) = some true ∧ PySem.W.recIn K p "property" = some (.ref g :: rest)
theorem prop_at {X : Cx} {f : Str} {c lvl : Nat} {g : Addr} {den : List D → M D} (h1 : SlX.SCls X.K (k.cl c)) (h2 : PrA X.K (k.cl c) f g) (h3 : FnDn k X lvl g 1 den) (h4 : Room (lvl + 1) X.A) : At1 k X f c (.prop den) :=
  let ⟨p, rest, a1, a2, a3, a4⟩ := h2
  ⟨h1, p, g, lvl, rest, a1, a2, a3, a4, h3, h4⟩
theorem kit_rt {C : Addr} {T : String} {b : Bool} (h : PySem.W.mroIn K C (.type T) = some b) (hm : PySem.W.kitMeta T = true) : PySem.W.kitOne K (.ref C) (.type T) = some b := by
  unfold PySem.W.kitOne
  rw [if_neg (by simp)]
  unfold PySem.W.kitCls
  simp only [hm, if_true]
  exact h
theorem kit_same {C : Addr} : PySem.W.kitOne K (.ref C) (.ref C) = some true := by
  unfold PySem.W.kitOne
  rw [if_pos (beq_self_eq_true _)]
theorem kit_to {C : Addr} {T : String} {b : Bool} (h : PySem.W.subIn K (.type T) (.ref C) = some b) (hc : PySem.W.isClsIn K C = true) (ht : PySem.W.typeIn K (.ref C) = some (.type "type")) : PySem.W.kitOne K (.type T) (.ref C) = some b := by
  unfold PySem.W.kitOne
  rw [if_neg (by simp)]
  unfold PySem.W.kitCls
  have hc' : (PySem.W.clsIn K C).isSome = true := hc
  simp only [hc', ht, beq_self_eq_true, Bool.and_self, if_true]
  exact h
theorem kit_no2 {C : Addr} (h1 : PySem.W.mroIn K C (.type "list") = some false) (h2 : PySem.W.mroIn K C (.type "tuple") = some false) : PySem.W.kitAny K (.ref C) [.type "list", .type "tuple"] = some false :=
  kitAny_cons (kit_rt h1 (by decide +kernel)) (fun _ => kitAny_cons (kit_rt h2 (by decide +kernel)) (fun _ => kitAny_nil) fun z => by cases z) fun z => by cases z
def spLaw (tb : List (Addr × Str)) (K : PySem.W.Frag) : Sp := fun vs H Q _ => ∃ (a : Addr) (ns : List Int), vs = [.ref a] ∧ SqL K H a (ns.map V.int) ∧ ns.length ≤ 63 ∧ LamX.Tabs tb H ∧ ∀ H', Q (.bl true) H'
/-- what is tracked, but for the tables -/
def offT (H : Hp) : Hp := fun a => match H a with
  | some (.tbl _) => none
  | o => o
theorem offT_nt {H : Hp} {a : Addr} {o : HO} (h : offT H a = some o) : H a = some o ∧ NT o := by
  unfold offT at h
  split at h
  · cases h
  · rename_i q
    exact ⟨h, fun ps e => q ps (by rw [h, e])⟩
theorem offT_of {H : Hp} {a : Addr} {o : HO} (h : H a = some o) (n : NT o) : offT H a = some o := by
  unfold offT
  split
  · rename_i ps q
    rw [h] at q
    exact absurd (Option.some.inj q) (n ps)
  · exact h
theorem offT_seq {H : Hp} {a : Addr} {xs : List V} (h : SqL K H a xs) : SqL K (offT H) a xs := by
  rcases h with (h | ⟨o, h⟩) | h
  · exact .inl (.inl (offT_of h fun ps e => by cases e))
  · exact .inl (.inr ⟨o, offT_of h fun ps e => by cases e⟩)
  · exact .inr h
theorem law_imp {den : List D → M D} (h : ∀ ns : List Int, ns.length ≤ 63 → ∃ m', den [.lst (ns.map .int)] [] = .ok (.bl true) m') (vs : List V) (H : Hp) (Q : VK) (E : XK) (z : spLaw k.tb K vs H Q E) : spD k K 1 den vs H Q E := by
  obtain ⟨a, ns, rfl, hs, hl, ht, q⟩ := z
  refine ⟨[.lst (ns.map .int)], offT H, [], [], .cons (.lst (offT_seq hs) (rpa_ints ns)) .nil, rfl, ⟨fun a o e => (offT_nt e).1, rfl, fun p hp => (by simp at hp), ht, fun a o e => (offT_nt e).2, fun n c e => by simp at e, fun i j a b a' b' li => by obtain ⟨c, hc⟩ := li; simp at hc⟩, ?_⟩
  obtain ⟨m', h'⟩ := h ns hl
  rw [h']
  intro G' H' L' st w v r
  cases r
  exact q H'
theorem cx_no {w : World} {H : Hp} {s : Shared} {e : Value} {s' : Shared} (h : L2.CX P w [] H s (fun _ _ _ => False) e s') : False := by
  obtain ⟨_, _, _, _, _, _, _, _, _, _, _, _, z⟩ := h
  exact z
theorem frag_mem {a : Addr} {o : Obj} : ∀ {l : PySem.W.Frag}, l.lookup a = some o → (a, o) ∈ l := fun {l} => by
  induction l with
  | nil => intro h; cases h
  | cons p l ih =>
    obtain ⟨b, u⟩ := p
    intro h
    by_cases e : a = b
    · subst e
      simp [List.lookup] at h
      subst h
      exact List.mem_cons_self
    · have e' : (a == b) = false := by simpa using e
      simp only [List.lookup, e'] at h
      exact List.mem_cons_of_mem _ (ih h)
/-- a table of code objects that holds none -/
def tab0 : Obj → Bool
  | ⟨.none, none, .fields vs, sl⟩ => vs.isEmpty && sl.isEmpty
  | _ => false
/-- where a def of the top stands, its code object and its table -/
structure MkT (mg : Str → Option Value) (h : Heap) (x : Str) (f c P : Addr) : Prop where
  at_ : mg x = some (.ref f)
  fn : ∃ o fd, h.get? f = some o ∧ o.data = .func fd ∧ fd.code = .ref c
  hd : PySem.W.CodeHd h c P
  tb : h.get? P = some { cls := .none, data := .fields #[] }
theorem mkT_of {q : Program} {loose : List Str} {mean : ExcName → Option Value} {mg mb : Str → Option Value} {h : Heap} (T : Top q loose mean mg mb h) {x : Str} (hx : ((recsOf q).any fun r => r.name == x) = true) : ∃ f c P, MkT mg h x f c P := by
  obtain ⟨r, hr, hn⟩ := List.any_eq_true.mp hx
  obtain rfl : r.name = x := beq_iff_eq.mp hn
  obtain ⟨f, o, fd, c, P, e1, e2, e3, e4, e5, e6⟩ := T.tab r hr
  exact ⟨f, c, P, e1, ⟨o, fd, e2, e3, e4⟩, .of e5 e6, e6.2⟩
end
end DL
namespace DL
open PySem L2
def Res.thn {α β : Type} (r : Res α) (f : α → Store → Res β) : Res β := match r with
  | .ok a m => f a m
  | .exn c fs m => .exn c fs m
  | .bad => .bad
section
variable {α β : Type}
@[simp] theorem thn_ok (a : α) (m : Store) (f : α → Store → Res β) : (Res.ok a m).thn f = f a m := (rfl)
@[simp] theorem thn_bad (f : α → Store → Res β) : (Res.bad : Res α).thn f = .bad := (rfl)
@[simp] theorem bind_ap (x : M α) (f : α → M β) (m : Store) : (x >>= f) m = (x m).thn fun a m1 => f a m1 := by
  show M.bind x f m = _
  unfold M.bind Res.thn
  cases x m <;> rfl
@[simp] theorem pure_ap (a : α) (m : Store) : (pure a : M α) m = .ok a m := (rfl)
@[simp] theorem bad_ap (m : Store) : (M.bad : M α) m = .bad := (rfl)
@[simp] theorem ite_ap {c : Prop} [Decidable c] (x y : M α) (m : Store) : (if c then x else y) m = if c then x m else y m := by split <;> rfl
variable (e : DEnv) (m : Store)
@[simp] theorem eVar_ap (i : Nat) : eVar i e m = getv i e m := (rfl)
@[simp] theorem getv_some {i : Nat} {d : D} {e : DEnv} (h : e[i]? = some (some d)) : getv i e m = .ok d m := by
  unfold getv
  rw [h]
  rfl
@[simp] theorem eC_ap (d : D) : eC d e m = .ok d m := (rfl)
@[simp] theorem eOp_ap (g : D → D → M D) (a b : DEnv → M D) : eOp g a b e m = (a e m).thn fun x m1 => (b e m1).thn fun y m2 => g x y m2 := by simp [eOp]
@[simp] theorem eUn_ap (g : D → M D) (a : DEnv → M D) : eUn g a e m = (a e m).thn fun x m1 => g x m1 := by simp [eUn]
@[simp] theorem asB_bl (b : Bool) : asB (.bl b) m = .ok b m := (rfl)
@[simp] theorem eIf_ap (t : DEnv → M Bool) (a b : DEnv → M D) : eIf t a b e m = (t e m).thn fun c m1 => if c then a e m1 else b e m1 := by simp [eIf]
@[simp] theorem eAnd_ap (a b : DEnv → M D) : eAnd a b e m = (a e m).thn fun x m1 => (asB x m1).thn fun c m2 => if c then b e m2 else .ok (.bl false) m2 := by simp [eAnd]
@[simp] theorem eOr_ap (a b : DEnv → M D) : eOr a b e m = (a e m).thn fun x m1 => (asB x m1).thn fun c m2 => if c then .ok (.bl true) m2 else b e m2 := by simp [eOr]
@[simp] theorem eNot_ap (a : DEnv → M D) : eNot a e m = (a e m).thn fun x m1 => (asB x m1).thn fun c m2 => .ok (.bl (!c)) m2 := by simp [eNot]
@[simp] theorem eChain_ap (g g' : D → D → M D) (a b c : DEnv → M D) : eChain g g' a b c e m = (a e m).thn fun x m1 => (b e m1).thn fun y m2 => (g x y m2).thn fun r m3 => (asB r m3).thn fun c1 m4 => if c1 then (c e m4).thn fun z m5 => g' y z m5 else .ok (.bl false) m4 := by simp [eChain]
@[simp] theorem tB_ap (a : DEnv → M D) : tB' a e m = (a e m).thn fun x m1 => asB x m1 := by simp [tB']
@[simp] theorem tAnd_ap (t u : DEnv → M Bool) : tAndD t u e m = (t e m).thn fun c m1 => if c then u e m1 else .ok false m1 := by simp [tAndD]
@[simp] theorem tOr_ap (t u : DEnv → M Bool) : tOrD t u e m = (t e m).thn fun c m1 => if c then .ok true m1 else u e m1 := by simp [tOrD]
@[simp] theorem tNot_ap (t : DEnv → M Bool) : tNotD t e m = (t e m).thn fun c m1 => .ok (!c) m1 := by simp [tNotD]
@[simp] theorem aNil_ap : aNil e m = .ok [] m := (rfl)
@[simp] theorem aCons_ap (a : DEnv → M D) (r : DEnv → M (List D)) : aCons a r e m = (a e m).thn fun x m1 => (r e m1).thn fun xs m2 => .ok (x :: xs) m2 := by simp [aCons]
@[simp] theorem eCallB_ap (g : List D → M D) (as : DEnv → M (List D)) : eCallB g as e m = (as e m).thn fun xs m1 => g xs m1 := by simp [eCallB]
@[simp] theorem eTup_ap (as : DEnv → M (List D)) : eTup as e m = (as e m).thn fun xs m1 => mkT xs m1 := by simp [eTup]
@[simp] theorem eLst_ap (as : DEnv → M (List D)) : eLst as e m = (as e m).thn fun xs m1 => mkL xs m1 := by simp [eLst]
@[simp] theorem eLstM_ap (as : DEnv → M (List D)) : eLstM as e m = (as e m).thn fun xs m1 => newM xs m1 := by simp [eLstM]
@[simp] theorem mkT_ap (ds : List D) : mkT ds m = if ds.length ≤ 100000 then .ok (.tup ds) m else .bad := by simp [mkT]
@[simp] theorem mkL_ap (ds : List D) : mkL ds m = if ds.length ≤ 100000 then .ok (.lst ds) m else .bad := by simp [mkL]
@[simp] theorem seq_lst (ds : List D) : seqD (.lst ds) m = .ok ds m := (rfl)
@[simp] theorem seq_tup (ds : List D) : seqD (.tup ds) m = .ok ds m := (rfl)
theorem seq_loc {n : Nat} {ds : List D} {m : Store} (h : m[n]? = some (some (.lst ds))) : seqD (.loc n) m = .ok ds m := by simp [seqD, h]
@[simp] theorem src_lst (ds : List D) : srcD (.lst ds) m = .ok ⟨ds, []⟩ m := (rfl)
@[simp] theorem src_tup (ds : List D) : srcD (.tup ds) m = .ok ⟨ds, []⟩ m := (rfl)
@[simp] theorem chk_nil (ds : List D) : chk ⟨ds, []⟩ m = .ok () m := (rfl)
@[simp] theorem tYes_ap : tYesD e m = .ok true m := (rfl)
@[simp] theorem sNil_ap : sNil e m = .ok (.nx e) m := (rfl)
@[simp] theorem andThen_nx (s : DEnv → M Out) : andThen (.nx e) s m = s e m := (rfl)
@[simp] theorem andThen_rt (d : D) (s : DEnv → M Out) : andThen (.rt d) s m = .ok (.rt d) m := (rfl)
@[simp] theorem sSeq_ap (s t : DEnv → M Out) : sSeq s t e m = (s e m).thn fun o m1 => andThen o t m1 := by simp [sSeq]
@[simp] theorem sSet_ap (i : Nat) (a : DEnv → M D) : sSet i a e m = (a e m).thn fun x m1 => .ok (.nx (e.set i (some x))) m1 := by simp [sSet]
@[simp] theorem sAsg_ap (a : DEnv → M D) (g : D → DEnv → M DEnv) : sAsg a g e m = (a e m).thn fun x m1 => (g x e m1).thn fun e2 m2 => .ok (.nx e2) m2 := by simp [sAsg]
@[simp] theorem sIf_ap (t : DEnv → M Bool) (s u : DEnv → M Out) : sIf t s u e m = (t e m).thn fun c m1 => if c then s e m1 else u e m1 := by simp [sIf]
@[simp] theorem sRet_ap (a : DEnv → M D) : sRet a e m = (a e m).thn fun x m1 => .ok (.rt x) m1 := by simp [sRet]
@[simp] theorem sExpr_ap (a : DEnv → M D) : sExpr a e m = (a e m).thn fun x m1 => .ok (.nx e) m1 := by simp [sExpr]
@[simp] theorem sBad_ap : sBad e m = .bad := (rfl)
@[simp] theorem sFor_ap (it : DEnv → M Src) (g : D → DEnv → M DEnv) (b : DEnv → M Out) : sFor it g b e m = (it e m).thn fun src m1 => forL src g b src.items e m1 := by simp [sFor]
@[simp] theorem gNm_ap (i : Nat) (d : D) : gNm i d e m = .ok (e.set i (some d)) m := (rfl)
@[simp] theorem gTp_ap (n : Nat) (g : List D → DEnv → M DEnv) (ds : List D) (h : ds.length = n) : gTp n g (.tup ds) e m = g ds e m := by simp [gTp, h]
@[simp] theorem gsNil_ap (ds : List D) : gsNil ds e m = .ok e m := (rfl)
@[simp] theorem gsCons_ap (g : D → DEnv → M DEnv) (gs : List D → DEnv → M DEnv) (d : D) (ds : List D) : gsCons g gs (d :: ds) e m = (g d e m).thn fun e1 m1 => gs ds e1 m1 := by simp [gsCons]
def par2 (i j : Nat) (e : DEnv) : List D → Store → Res Out
  | [x, y], m1 => .ok (.nx ((e.set i (some x)).set j (some y))) m1
  | _, _ => .bad
@[simp] theorem par2_two (i j : Nat) (x y : D) : par2 i j e [x, y] m = .ok (.nx ((e.set i (some x)).set j (some y))) m := (rfl)
@[simp] theorem sParA_ap (i j : Nat) (as : DEnv → M (List D)) : sParA i j as e m = (as e m).thn fun ds m1 => par2 i j e ds m1 := by
  simp only [sParA, bind_ap]
  congr
  funext ds m1
  match ds with
  | [] => rfl
  | [_] => rfl
  | [_, _] => rfl
  | _ :: _ :: _ :: _ => rfl
@[simp] theorem iSeq_ap (a : DEnv → M D) : iSeqD a e m = (a e m).thn fun x m1 => srcD x m1 := by simp [iSeqD]
theorem iRg1_ap (as : DEnv → M (List D)) {n : Int} {m1 : Store} (h : as e m = .ok [.int n] m1) (h1 : -(2 ^ 62) ≤ n) (h2 : n < 2 ^ 62) : iRg1 as e m = .ok ⟨rngI 0 n.toNat, []⟩ m1 := by
  have hc : -(2 ^ 62) ≤ n ∧ n < 2 ^ 62 := ⟨h1, h2⟩
  simp only [iRg1, bind_ap, h, thn_ok, ite_ap, hc, and_self, if_true, pure_ap]
theorem iZip_ap (as : DEnv → M (List D)) {x y : D} {m1 : Store} {xs ys : List D} (h : as e m = .ok [x, y] m1) (h1 : srcD x m1 = .ok ⟨xs, []⟩ m1) (h2 : srcD y m1 = .ok ⟨ys, []⟩ m1) : iZip as e m = .ok ⟨zipT xs ys, []⟩ m1 := by
  simp [iZip, h, h1, h2]
@[simp] theorem callN_ap {n : Nat} (den : List D → M D) {ds : List D} (h : ds.length = n) : callN n den ds m = den ds m := by simp [callN, h]
end
theorem forL_inv {src : List D} {g : D → DEnv → M DEnv} {b : DEnv → M Out} (I : Nat → DEnv → Store → Prop) : ∀ (ds : List D) (i : Nat) (e : DEnv) (m : Store),
    I i e m → (∀ j d e m, ds[j]? = some d → I (i + j) e m → ∃ e1 m1 e2 m2, g d e m = .ok e1 m1 ∧ (b e1 m1 = .ok (.nx e2) m2 ∨ b e1 m1 = .ok (.ct e2) m2) ∧ I (i + j + 1) e2 m2) →
    ∃ e' m', forL ⟨src, []⟩ g b ds e m = .ok (.nx e') m' ∧ I (i + ds.length) e' m'
  | [], i, e, m, h, _ => ⟨e, m, by simp [forL], h⟩
  | d :: ds, i, e, m, h, st => by
    obtain ⟨e1, m1, e2, m2, h1, h2, h3⟩ := st 0 d e m rfl h
    obtain ⟨e', m', h4, h5⟩ := forL_inv (src := src) I ds (i + 1) e2 m2 (by simpa using h3) (fun j d e m hj hi => by
      have := st (j + 1) d e m (by simpa using hj) (by rw [show i + (j + 1) = i + 1 + j by omega]; exact hi)
      obtain ⟨a1, a2, a3, a4, a5, a6, a7⟩ := this
      exact ⟨a1, a2, a3, a4, a5, a6, by rw [show i + 1 + j + 1 = i + (j + 1) + 1 by omega]; exact a7⟩)
    refine ⟨e', m', ?_, by rw [List.length_cons, show i + (ds.length + 1) = i + 1 + ds.length by omega]; exact h5⟩
    rcases h2 with h2 | h2 <;> simp [forL, h1, h2, h4]
theorem trim_app (m junk : Store) : trimOk m (m ++ junk) = true := by
  unfold trimOk
  simp [cellKept, List.all_eq_true]
  intro a b h
  rw [List.mem_iff_getElem?] at h
  obtain ⟨i, hi⟩ := h
  rw [List.getElem?_zip_eq_some] at hi
  left
  have := hi.1.symm.trans hi.2
  simpa using this
theorem fn_pure {n : Nat} {b : DEnv → M Out} {ds : List D} {m : Store} {d : D} (h : b (startD n ds) m = .ok (.rt d) m) : fnD n b ds m = .ok d m := by
  simp [fnD, scopeM, runB, h]
theorem fn_pureN {n : Nat} {b : DEnv → M Out} {ds : List D} {m : Store} {e : DEnv} (h : b (startD n ds) m = .ok (.nx e) m) : fnD n b ds m = .ok .non m := by
  simp [fnD, scopeM, runB, h]
theorem fn_any {n : Nat} {b : DEnv → M Out} {ds : List D} {m m' : Store} {d : D} (h : b (startD n ds) m = .ok (.rt d) m') (hl : m'.length = m.length) : fnD n b ds m = .ok d m' := by
  have ht : m'.take m.length = m' := by rw [← hl, List.take_length]
  simp [fnD, scopeM, runB, h, ht]
theorem fn_anyN {n : Nat} {b : DEnv → M Out} {ds : List D} {m m' : Store} {e : DEnv} (h : b (startD n ds) m = .ok (.nx e) m') (hl : m'.length = m.length) : fnD n b ds m = .ok .non m' := by
  have ht : m'.take m.length = m' := by rw [← hl, List.take_length]
  simp [fnD, scopeM, runB, h, ht]
/-- a def that hands back what it made -/
theorem fn_new {n : Nat} {b : DEnv → M Out} {ds : List D} {m : Store} {c : Cell} {d : D} (h : b (startD n ds) m = .ok (.rt d) (m ++ [some c])) (hd : d.und m.length = false) : fnD n b ds m = .ok d (m ++ [some c]) := by
  simp [fnD, scopeM, runB, h, hd]
/-- what was made within is forgotten -/
theorem fn_junk {n : Nat} {b : DEnv → M Out} {ds : List D} {m junk : Store} {d : D} (h : b (startD n ds) m = .ok (.rt d) (m ++ junk)) (hd : d.und m.length = true) : fnD n b ds m = .ok d m := by
  simp [fnD, scopeM, runB, h, hd, trim_app]
theorem fn_trim {n : Nat} {b : DEnv → M Out} {ds : List D} {m m0 junk : Store} {d : D} (h : b (startD n ds) m = .ok (.rt d) (m0 ++ junk)) (hl : m0.length = m.length) (hk : trimOk m m0 = true) (hd : d.und m.length = true) : fnD n b ds m = .ok d m0 := by
  have ht : trimOk m (m0 ++ junk) = true := by
    unfold trimOk at hk ⊢
    have e1 : (m0 ++ junk).take m.length = m0 := by rw [← hl]; simp
    have e2 : m0.take m.length = m0 := by rw [← hl]; simp
    rw [e1]
    rw [e2] at hk
    simp only [Bool.and_eq_true, decide_eq_true_eq] at hk ⊢
    exact ⟨by rw [List.length_append]; omega, hk.2⟩
  have e1 : (m0 ++ junk).take m.length = m0 := by rw [← hl]; simp
  simp [fnD, scopeM, runB, h, hd, ht, e1]
theorem set_last (m : Store) (x y : Option Cell) : (m ++ [x]).set m.length y = m ++ [y] := by simp
theorem get_last (m : Store) (x : Option Cell) : (m ++ [x])[m.length]? = some x := by simp
theorem allSome_map : ∀ vs : List D, allSome (vs.map some) = some vs
  | [] => rfl
  | v :: vs => by simp [allSome, allSome_map vs]
theorem trim_none (m : Store) : trimOk m (m ++ [none]) = true := trim_app m [none]
theorem make_ok {c n : Nat} {den : List D → M D} {ds vs : List D} {m : Store} (hl : ds.length + 1 = n) (h : den (.loc m.length :: ds) (m ++ [some (.ins c [])]) = .ok .non (m ++ [some (.ins c (vs.map some))])) (hu : D.undL m.length vs = true) :
    makeD c n den ds m = .ok (.obj c vs) m := by
  simp [makeD, scopeM, newI, callN, hl, h, isNon, frzI, get_last, allSome_map, set_last, trim_none, D.und, hu]
@[simp] theorem isi_int (cs : List Nat) (t : Ty) (i : Int) (m : Store) : isiD cs t (.int i) m = .ok (.bl (isK t .int)) m := (rfl)
@[simp] theorem isi_bl (cs : List Nat) (t : Ty) (i : Bool) (m : Store) : isiD cs t (.bl i) m = .ok (.bl (isK t .bl)) m := (rfl)
@[simp] theorem isi_lst (cs : List Nat) (t : Ty) (i : List D) (m : Store) : isiD cs t (.lst i) m = .ok (.bl (isK t .lst)) m := (rfl)
@[simp] theorem isi_tup (cs : List Nat) (t : Ty) (i : List D) (m : Store) : isiD cs t (.tup i) m = .ok (.bl (isK t .tup)) m := (rfl)
@[simp] theorem isi_obj (cs : List Nat) (t : Ty) (c : Nat) (i : List D) (m : Store) (h : c ∈ cs) : isiD cs t (.obj c i) m = .ok (.bl (isK t (.obj c))) m := by simp [isiD, kindOf, h]
@[simp] theorem eIsi_ap (cs : List Nat) (t : Ty) (a : DEnv → M D) (e : DEnv) (m : Store) : eIsi cs t a e m = (a e m).thn fun x m1 => isiD cs t x m1 := by simp [eIsi]
@[simp] theorem add_int (i j : Int) (m : Store) : addD (.int i) (.int j) m = .ok (.int (i + j)) m := (rfl)
@[simp] theorem sub_int (i j : Int) (m : Store) : subD (.int i) (.int j) m = .ok (.int (i - j)) m := (rfl)
@[simp] theorem neg_int (i : Int) (m : Store) : negD (.int i) m = .ok (.int (-i)) m := (rfl)
theorem mod_int {i j : Int} (m : Store) (h : 0 < j) : modD (.int i) (.int j) m = .ok (.int (i % j)) m := by simp [modD, gI, h]
theorem fdv_int {i j : Int} (m : Store) (h : 0 < j) (h2 : j < 2 ^ 100) : fdvD (.int i) (.int j) m = .ok (.int (i / j)) m := by
  have hc : CDv i j := ⟨h, h2⟩
  show (if CDv i j then (pure (.int (i / j)) : M D) else M.bad) m = _
  rw [if_pos hc]
  rfl
theorem mul_int {i j : Int} (m : Store) (h : CM i j) : mulD (.int i) (.int j) m = .ok (.int (i * j)) m := by
  show (if CM i j then (pure (.int (i * j)) : M D) else M.bad) m = _
  rw [if_pos h]
  rfl
theorem pow_int {i j : Int} (m : Store) (h : CPw i j) : powD (.int i) (.int j) m = .ok (.int (i ^ j.toNat)) m := by
  show (if CPw i j then (pure (.int (i ^ j.toNat)) : M D) else M.bad) m = _
  rw [if_pos h]
  rfl
@[simp] theorem lt_int (i j : Int) (m : Store) : ltD (.int i) (.int j) m = .ok (.bl (decide (i < j))) m := (rfl)
@[simp] theorem le_int (i j : Int) (m : Store) : leD (.int i) (.int j) m = .ok (.bl (decide (i ≤ j))) m := (rfl)
@[simp] theorem gt_int (i j : Int) (m : Store) : gtD (.int i) (.int j) m = .ok (.bl (decide (j < i))) m := (rfl)
@[simp] theorem ge_int (i j : Int) (m : Store) : geD (.int i) (.int j) m = .ok (.bl (decide (j ≤ i))) m := (rfl)
@[simp] theorem int_int (i : Int) (m : Store) : intD [.int i] m = .ok (.int i) m := (rfl)
@[simp] theorem int_bl (b : Bool) (m : Store) : intD [.bl b] m = .ok (.int (if b then 1 else 0)) m := (rfl)
@[simp] theorem max_int (i j : Int) (m : Store) : maxD [.int i, .int j] m = .ok (.int (if j > i then j else i)) m := (rfl)
@[simp] theorem min_int (i j : Int) (m : Store) : minD [.int i, .int j] m = .ok (.int (if j < i then j else i)) m := (rfl)
@[simp] theorem len_lst (ds : List D) (m : Store) : lenD [.lst ds] m = .ok (.int ds.length) m := (rfl)
@[simp] theorem len_tup (ds : List D) (m : Store) : lenD [.tup ds] m = .ok (.int ds.length) m := (rfl)
@[simp] theorem tuple_tup (ds : List D) (m : Store) : tupleD [.tup ds] m = .ok (.tup ds) m := (rfl)
@[simp] theorem tuple_lst (ds : List D) (m : Store) : tupleD [.lst ds] m = mkT ds m := (rfl)
@[simp] theorem list_tup (ds : List D) (m : Store) : listD [.tup ds] m = mkL ds m := (rfl)
@[simp] theorem list_lst (ds : List D) (m : Store) : listD [.lst ds] m = mkL ds m := (rfl)
theorem ix_seq {x d : D} {ds : List D} {i : Int} {m : Store} (h : seqD x m = .ok ds m) (h1 : 0 ≤ i) (h2 : ds[i.toNat]? = some d) : ixD x (.int i) m = .ok d m := by
  have hl := (List.getElem?_eq_some_iff.mp h2).1
  have h3 : i < ds.length := by omega
  have h4 := (List.getElem?_eq_some_iff.mp h2).2
  simp [ixD, h, atI, ixN, h1, h3, h4]
def ils (ns : List Int) : List D := ns.map .int
@[simp] theorem ils_length (ns : List Int) : (ils ns).length = ns.length := by simp [ils]
@[simp] theorem ils_get (ns : List Int) (i : Nat) : (ils ns)[i]? = (ns[i]?).map .int := by simp [ils]
@[simp] theorem ils_app (a b : List Int) : ils a ++ ils b = ils (a ++ b) := by simp [ils]
@[simp] theorem ils_app1 (a : List Int) (i : Int) : ils a ++ [.int i] = ils (a ++ [i]) := by simp [ils]
theorem ils_cons (i : Int) (a : List Int) : ils (i :: a) = .int i :: ils a := rfl
@[simp] theorem ils_nil : ils [] = [] := rfl
@[simp] theorem ils_inj {a b : List Int} : ils a = ils b ↔ a = b := by
  refine ⟨fun h => ?_, fun h => by rw [h]⟩
  induction a generalizing b with
  | nil => cases b with
    | nil => rfl
    | cons y b => simp [ils] at h
  | cons x a ih => cases b with
    | nil => simp [ils] at h
    | cons y b =>
      simp only [ils_cons, List.cons.injEq, D.int.injEq] at h
      rw [h.1, ih h.2]
theorem undL_ints (n : Nat) : ∀ ns : List Int, D.undL n (ils ns) = true
  | [] => rfl
  | i :: ns => by rw [ils_cons]; simp [D.undL, D.und]; exact undL_ints n ns
theorem intsD_ints : ∀ ns : List Int, intsD (ils ns) = some ns
  | [] => rfl
  | i :: ns => by rw [ils_cons]; simp [intsD]; exact intsD_ints ns
theorem sum_ints (ns : List Int) (m : Store) : sumD [.lst (ils ns)] m = .ok (.int ns.sum) m := by simp [sumD, intsD_ints]
theorem toPDs_ints : ∀ ns : List Int, toPDs (ils ns) = some (ns.map .int)
  | [] => rfl
  | i :: ns => by rw [ils_cons]; simp [toPDs, toPD]; rw [toPDs_ints ns]
theorem canLay_ints : ∀ ns : List Int, PyData.canLayAll0 (ns.map .int) = true
  | [] => rfl
  | i :: ns => by simp [PyData.canLayAll0, PyData.canLay0]; exact canLay_ints ns
theorem depth_ints : ∀ ns : List Int, PyData.depthAll (ns.map .int) = 0
  | [] => rfl
  | i :: ns => by simp [PyData.depthAll, PyData.depth]; exact depth_ints ns
@[simp] theorem eq_int (i j : Int) (m : Store) : eqD (.int i) (.int j) m = .ok (.bl (i == j)) m := by simp [eqD, onPD, topPD, toPD, SeqAt.shaped, PyData.canLay0, PyData.depth, PyData.eqv]
@[simp] theorem ne_int (i j : Int) (m : Store) : neD (.int i) (.int j) m = .ok (.bl (!(i == j))) m := by simp [neD, onPD, topPD, toPD, SeqAt.shaped, PyData.canLay0, PyData.depth, PyData.eqv]
@[simp] theorem eq_bl (i j : Bool) (m : Store) : eqD (.bl i) (.bl j) m = .ok (.bl (i == j)) m := by simp [eqD, onPD, topPD, toPD, SeqAt.shaped, PyData.canLay0, PyData.depth, PyData.eqv]
theorem eq_tup (ns ms : List Int) (m : Store) : eqD (.tup (ils ns)) (.tup (ils ms)) m = .ok (.bl (decide (ns = ms))) m := by
  simp [eqD, onPD, topPD, toPD, toPDs_ints, SeqAt.shaped, PyData.canLay0, PyData.depth, PyData.eqv, canLay_ints, depth_ints, PySem.W.ked_eqvAll]
end DL
namespace DL
open PySem L2
theorem compL_on {α : Type} {src : List D} {g : D → DEnv → M DEnv} {elt : DEnv → M D} {e : DEnv} {m : Store} {h f : α → D} : ∀ (xs : List α), (∀ x ∈ xs, ∃ e1, g (h x) e m = .ok e1 m ∧ elt e1 m = .ok (f x) m) → compL ⟨src, []⟩ g tYesD elt e (xs.map h) m = .ok (xs.map f) m
  | [], _ => by simp [compL]
  | d :: ds, q => by
    obtain ⟨e1, h1, h2⟩ := q d (by simp)
    have := compL_on (src := src) (g := g) (elt := elt) (e := e) (m := m) (h := h) (f := f) ds fun x hx => q x (by simp [hx])
    simp [compL, noX, h1, h2, this]
theorem eComp_on {α : Type} {it : DEnv → M Src} {g : D → DEnv → M DEnv} {elt : DEnv → M D} {vs : List Nat} {e : DEnv} {m : Store} {xs : List α} {h f : α → D} (hi : it e m = .ok ⟨xs.map h, []⟩ m) (hl : xs.length ≤ 100000)
    (q : ∀ x ∈ xs, ∃ e1, g (h x) (wipeD e vs) m = .ok e1 m ∧ elt e1 m = .ok (f x) m) : eComp it g tYesD elt vs e m = .ok (.lst (xs.map f)) m := by
  simp [eComp, compM, hi, sizeOk, hl, compL_on xs q]
theorem rngI_eq (n : Nat) : rngI 0 n = (List.range n).map fun (i : Nat) => D.int (i : Int) := by simp [rngI]
def Sq (b : Bool) (ns : List Int) : D := if b then .tup (ils ns) else .lst (ils ns)
@[simp] theorem src_Sq (b : Bool) (ns : List Int) (m : Store) : srcD (Sq b ns) m = .ok ⟨ils ns, []⟩ m := by cases b <;> rfl
@[simp] theorem seq_Sq (b : Bool) (ns : List Int) (m : Store) : seqD (Sq b ns) m = .ok (ils ns) m := by cases b <;> rfl
@[simp] theorem len_Sq (b : Bool) (ns : List Int) (m : Store) : lenD [Sq b ns] m = .ok (.int ns.length) m := by cases b <;> simp [Sq]
@[simp] theorem isi_Sq (cs : List Nat) (b : Bool) (ns : List Int) (m : Store) : isiD cs .seq (Sq b ns) m = .ok (.bl true) m := by cases b <;> rfl
theorem tuple_Sq (b : Bool) (ns : List Int) (m : Store) (h : ns.length ≤ 100000) : tupleD [Sq b ns] m = .ok (.tup (ils ns)) m := by cases b <;> simp [Sq, h]
theorem tru_bls : ∀ bs : List Bool, truFs (bs.map D.bl) = some bs
  | [] => rfl
  | b :: bs => by simp [truFs, truF]; rw [tru_bls bs]
theorem all_bls (bs : List Bool) (m : Store) : allD [.lst (bs.map D.bl)] m = .ok (.bl (bs.all id)) m := by simp [allD, tru_bls]
theorem cm_r {i j : Int} (h1 : -1000000000000 ≤ j) (h2 : j ≤ 1000000000000) : CM i j := .inr ⟨by omega, by omega⟩
theorem cm_l {i j : Int} (h1 : -1000000000000 ≤ i) (h2 : i ≤ 1000000000000) : CM i j := .inl ⟨by omega, by omega⟩
theorem iRg1_nat {as : DEnv → M (List D)} {e : DEnv} {m m1 : Store} {s : Nat} (hs : s ≤ 1000000000) (h : as e m = .ok [.int s] m1) : iRg1 as e m = .ok ⟨rngI 0 s, []⟩ m1 := by
  have := iRg1_ap e m as (n := s) (m1 := m1) h (by omega) (by omega)
  simpa using this
end DL
namespace DL
open PySem L2 PyProof.Rows
open PySem.W (ksFn ksEnv ks_superIn excInitIn excOver)
/-- the scope of such an __init__(slf, v) -/
def iniB (sc : Scope) (slf v : Str) : Bool :=
  decide (sc.kind = .function) && (!sc.isCoroutine && (!sc.isGenerator && (sc.names.all (fun y => !decide (y.2 = .cell)) && (decide (sc.names.lookup ("super" : Str) = some .globalImplicit) && (decide (sc.names.lookup ("__class__" : Str) = some .free) &&
    (decide (sc.names.lookup slf = some .local) && (decide (sc.names.lookup v = some .local) && (decide (slf ≠ v) && (!(slf == ("__debug__" : Str)) && !(v == ("__debug__" : Str)))))))))))
structure IniS (sc : Scope) (slf v : Str) : Prop where
  kind : sc.kind = .function
  co : sc.isCoroutine = false
  gen : sc.isGenerator = false
  noc : ∀ y ∈ sc.names, y.2 ≠ .cell
  sup : sc.names.lookup ("super" : Str) = some .globalImplicit
  cls : sc.names.lookup ("__class__" : Str) = some .free
  ks : sc.names.lookup slf = some .local
  kv : sc.names.lookup v = some .local
  ne : slf ≠ v
  ds : (slf == ("__debug__" : Str)) = false
  dv : (v == ("__debug__" : Str)) = false
theorem iniB_ok {sc : Scope} {slf v : Str} (h : iniB sc slf v = true) : IniS sc slf v := by
  unfold iniB at h
  simp only [Bool.and_eq_true, Bool.not_eq_true', decide_eq_true_eq, List.all_eq_true, decide_eq_false_iff_not] at h
  obtain ⟨h1, h2, h3, h4, h5, h6, h7, h8, h9, h10, h11⟩ := h
  exact ⟨h1, h2, h3, h4, h5, h6, h7, h8, h9, h10, h11⟩
/-- its body, as it is read in env -/
def IniEv (env : Env) (b : List Stmt) (slf v f : Str) : Prop := ∃ (txt : Str) (j : Nat) (p0 p1 p2 p3 p4 p5 p6 p7 p8 p9 : Pos) (pl : Sem Bool),
  b = [.Expr (.Call (.Attribute (.Call (.Name "super" p0) [] [] p1) "__init__" p2) [.Constant (.str txt) j p3] [] p4) p5, .Assign [.Attribute (.Name slf p6) f p7] (.Name v p8) p9] ∧
  eval (.Call (.Attribute (.Call (.Name "super" p0) [] [] p1) "__init__" p2) [.Constant (.str txt) j p3] [] p4) env = (do
    let ov ← attributeBase (.Call (.Name "super" p0) [] [] p1) "__init__" env (eval (.Call (.Name "super" p0) [] [] p1) env)
    standAt p2.atName
    let (f, first) ← holding [ov] (getMethod ov "__init__" pl)
    callWith p4 f first (backTo p4 (starEach [.Constant (.str txt) j p3] env)) []) ∧
  swapsWith (.Call (.Attribute (.Call (.Name "super" p0) [] [] p1) "__init__" p2) [.Constant (.str txt) j p3] [] p4) none p5.line env = pure false ∧
  swapsWith (.Name v p8) (some (.Attribute (.Name slf p6) f p7)) p9.line env = pure false ∧ interactive env = false ∧
  starEach [.Constant (.str txt) j p3] env = [(false, eval (.Constant (.str txt) j p3) env)]
section
variable {prog : Program} {w : World} {A : Around} {E : Value → Shared → Prop} {R : Result → Shared → Prop} {K : PySem.W.Frag} {mg : Str → Option Value}
/-- the first field of an error that has no dict yet -/
theorem err_set {s : Shared} {x C t1 : Addr} {f : Str} {u : Value} {Q : Unit → Shared → Prop} (X : K.In s.heap) (hx : s.heap.get? x = some (HandSPX.excO C t1)) (ov : excOver K C ESX.exTail = true) (hd : PySem.W.hasDictIn K C = true)
    (sa : PySem.W.findIn K (.ref C) "__setattr__" = some (some (.builtin "object.__setattr__"))) (nf : PySem.W.findIn K (.ref C) f = some none)
    (hq : ∀ h' tk dx, (∀ b o, b ≠ x → s.heap.get? b = some o → h'.get? b = some o) → s.heap.objs.size ≤ dx → dx ≠ x → h'.get? x = some { HandSPX.excO C t1 with dict := some dx } → h'.Ns1 dx (fun y => if y = f then some u else none) → Q () { s with heap := h', toks := tk }) :
    wpAny (model prog w) A (setAttr (.ref x) f u) Q E s := by
  have I : PySem.W.InstAt s.heap x (HandSPX.excO C t1) C none := ⟨hx, rfl, rfl, trivial⟩
  obtain ⟨cd, hc, hh⟩ := PySem.W.any_some hd
  refine PySem.W.set_plain X I sa ?_
  refine PySem.W.osa_openX F.store_Exception X I ov (r := none) (by unfold PySem.W.takerIn; rw [nf]; rfl) fun b => ?_
  have hcls : PySem.W.Looks (model prog w) s.heap (classData C) cd := PySem.W.looks_clsIn X hc
  have hxs : x ≠ s.heap.objs.size := Nat.ne_of_lt (Heap.lt_size hx)
  obtain ⟨hp, g, d, t, os⟩ := s
  show wpAny _ _ (Builtin.ObjectAttr.storeInOwnDict (.ref x) (.ref C) _ f u b) _ _ _
  have own : cd.hasDict = true := hh
  clear hh
  cases cd with
  | mk nm bs mro ns qn hdct sn sb ab col del =>
    subst own
    unfold Builtin.ObjectAttr.storeInOwnDict Builtin.ObjectAttr.ownDictForStores
    repeat (first
      | with_reducible refine HandSPX.store_in_new ?hn ?hs
      | with_reducible refine wpAny_loadPart_at hx ?_
      | with_reducible refine hcls.at ?_
      | wp_step)
    case hn =>
      refine ⟨_, #[], _, (Heap.get?_update_ne _ _ _ _ hxs.symm).trans (Heap.get?_push_at rfl rfl), rfl, fun e he => absurd he (by simp), fun _ => rfl⟩
    case hs =>
      intro h1 tk n1 same
      have laid : ∀ {b : Addr} {o : Obj}, b ≠ x → hp.get? b = some o → h1.get? b = some o := fun {b o} nb eb =>
        (same.2 b (Nat.ne_of_lt (Heap.lt_size eb))).trans ((Heap.get?_update_ne _ _ _ _ nb).trans (Heap.get?_push_of_some _ eb))
      refine hq h1 tk hp.objs.size (fun b o nb eb => laid nb eb) (Nat.le_refl _) hxs.symm ?_ n1
      exact (same.2 x hxs).trans (Heap.get?_update_self _ (Heap.get?_push_of_some { cls := .type "dict", data := .dict #[] } hx) rfl)
/-- what the text says of an error class at C, whose __init__ (the def st, at fI) keeps its argument as f -/
structure ErrC (prog : Program) (K : PySem.W.Frag) (st : Stmt) (qual slf v f : Str) (C fI : Addr) : Prop where
  q : excInitIn K C ESX.exTail "Exception.__new__" = true
  ov : excOver K C ESX.exTail = true
  iC : PySem.W.findIn K (.ref C) "__init__" = some (some (.ref fI))
  tI : PySem.W.typeIn K (.ref fI) = some (.type "function")
  df : ∃ oc od kV doc pm an cda ct cc osl, K.lookup fI = some ⟨oc, od, .func (ksFn "__init__" qual (defArgs st) (defBody st) (defScope st) .none kV doc pm an (.ref cda) ct cc), osl⟩ ∧ PySem.W.codeIn K (.ref cda) qual = true ∧
    (∃ ccl cdd vs ccs file tf, K.lookup cda = some ⟨ccl, cdd, .fields vs, ccs⟩ ∧ vs[2]? = some (.str file tf) ∧ ((prog.main.file : Str) == file) = true) ∧ ∃ cl cld csl, K.lookup cc = some ⟨cl, cld, .cell (some (.ref C)), csl⟩
  ps : (defArgs st).posonlyargs ++ (defArgs st).args ≠ [] ∧ ∀ a, ((defArgs st).posonlyargs ++ (defArgs st).args).head? = some a → a.arg = slf
  bd : ∀ (s : Shared) (kV doc pm : Value) (an : Option Addr) (cd ct : Value) (cc : Addr) (a b : Value), BindsTo s (ksFn "__init__" qual (defArgs st) (defBody st) (defScope st) .none kV doc pm an cd ct cc) ⟨[a, b], []⟩ [(slf, a), (v, b)]
  sc : IniS (defScope st) slf v
  ev : ∀ (L : Addr) (cd : Value) (cc : Addr), IniEv (ksEnv qual (defScope st) L fI cd cc) (defBody st) slf v f
  su : ks_superIn K C C "__init__" = some (some (.builtin "Exception.__init__"))
  zs : PySem.W.nsIn K mainGlobals "super" = some none
  tp : (prog.main.scope.names.lookup ("super" : Str)).isSome = false
  op : PySem.W.nsIn K cStatics "thirdparty.any" = some none
  sB : PySem.W.subIn K (.ref C) (.type "Exception") = some true
  sS : PySem.W.mroIn K C (.ref C) = some true
  sa : PySem.W.findIn K (.ref C) "__setattr__" = some (some (.builtin "object.__setattr__"))
  nf : PySem.W.findIn K (.ref C) f = some none
  kp : PySem.W.keepIn K (.ref C) = true
  ty : PySem.W.typeIn K (.ref C) = some (.type "type")
  xf : XfC K C
theorem err_init {s : Shared} {st : Stmt} {qual slf v f : Str} {C fI e t0 : Addr} {u : Value} (T : ErrC prog K st qual slf v f C fI) (Mo : L2.Mod K mg s.heap) (he : s.heap.get? e = some (HandSPX.excO C t0)) (hKe : K.lookup e = none) (hroom : A.depth < recursionLimit)
    (hq : ∀ h' tk dx t1, (∀ b o, b ≠ e → s.heap.get? b = some o → h'.get? b = some o) → s.heap.objs.size ≤ dx → dx ≠ e → h'.get? e = some { HandSPX.excO C t1 with dict := some dx } → h'.Ns1 dx (fun y => if y = f then some u else none) → R (.ok (.ret .none)) { s with heap := h', toks := tk }) :
    codeAny (model prog w) A (.call (.ref fI) ⟨[.ref e, u], []⟩) R s := by
  obtain ⟨oc, od, kV, doc, pm, an, cda, ct, cc, osl, lf, ci, ⟨ccl, cdd, vs, ccs, file, tf, lc, vf, hf⟩, cl, cld, csl, lcc⟩ := T.df
  obtain ⟨txt, j, p0, p1, p2, p3, p4, p5, p6, p7, p8, p9, pl, hb, hev, hsw, hsw2, hint, hstar⟩ := T.ev s.heap.objs.size (.ref cda) cc
  obtain ⟨nm, N, qn, bs, bm, hdct, sn, sub, ab, col, dd, k0, k1, k2, k3, k5, hC, hT⟩ := PySem.W.excInit_of Mo.kin T.q
  have S := T.sc
  refine ks_codeAny_call_defAt (body := defBody st) (binds := [(slf, .ref e), (v, u)]) hroom (Mo.kin _ _ lf) rfl Mo.nolimit (PySem.W.codeRec_of Mo.kin ci) rfl (T.bd s kV doc pm an (.ref cda) ct cc (.ref e) u) S.noc (fun y hy => ?_) (fun h0 ns0 kp0 => ?_) S.co S.gen S.kind
  · simp only [List.mem_cons, List.not_mem_nil, or_false] at hy
    rcases hy with rfl | rfl
    · exact S.ks
    · exact S.kv
  · have up : ∀ {h : Heap}, (∀ b o, h0.get? b = some o → h.get? b = some o) → ∀ b o, s.heap.get? b = some o → h.get? b = some o := fun k b o q => k b o (kp0 b o q)
    have kin0 : K.In h0 := Mo.kin.keeps kp0
    have hlt : e < s.heap.objs.size := Heap.lt_size he
    have eL : e ≠ s.heap.objs.size := Nat.ne_of_lt hlt
    obtain ⟨ar, har⟩ : ∃ ar, ((defArgs st).posonlyargs ++ (defArgs st).args).head? = some ar := by
      cases hl : (defArgs st).posonlyargs ++ (defArgs st).args with
      | nil => exact absurd hl T.ps.1
      | cons a r => exact ⟨a, rfl⟩
    have hself := T.ps.2 ar har
    have nsL : ∀ {h : Heap}, (∀ b o, h0.get? b = some o → h.get? b = some o) → h.Ns s.heap.objs.size (fun x => [(slf, Value.ref e), (v, u)].reverse.lookup x) := fun k => ns0.keeps k
    have mself : (fun x => [(slf, Value.ref e), (v, u)].reverse.lookup x) slf = some (.ref e) := by
      have ne : (slf == v) = false := by simpa using S.ne
      simp [List.lookup, ne]
    have mval : (fun x => [(slf, Value.ref e), (v, u)].reverse.lookup x) v = some u := by
      simp [List.lookup]
    show _root_.PySem.wpAt _ (A.deeper (ksEnv qual (defScope st) s.heap.objs.size fI (.ref cda) cc)) (.func (defBody st) (ksEnv qual (defScope st) s.heap.objs.size fI (.ref cda) cc)) (execs (defBody st) (ksEnv qual (defScope st) s.heap.objs.size fI (.ref cda) cc)) _ _ _
    rw [hb]
    obtain ⟨mb, nsb, hbb⟩ := Mo.blt
    refine ks_wpAt_execs_cons (ks_wpAt_Expr_any (ks_wpAt_MethodCall (pl := pl) ?_ hev) hint hsw)
    refine ks_wpAt_super_base (env := ksEnv qual (defScope st) s.heap.objs.size fI (.ref cda) cc) S.sup S.cls (by decide) rfl (kin0 _ _ lf) rfl har rfl (kin0 _ _ lc) rfl vf hf T.tp ?_
    refine PySem.W.ks_loadName_global S.kind S.sup (Calls.loadGlobal_builtin (Mo.glob.keeps kp0) (PySem.W.mg_none_of Mo.kin Mo.glob T.zs) (nsb.keeps kp0) ((hbb _ (by decide)).trans (by decide +kernel)) ⟨rfl, ?_⟩)
    refine wpAny_loadName_free S.kind S.cls rfl ⟨_, kin0 _ _ lcc, rfl⟩ ?_
    rw [hself]
    refine wpAny_loadName_local S.kind S.ks (nsL fun _ _ q => q) mself ?_
    refine ks_wpAny_isType_cls (kp0 _ _ hC) rfl ⟨rfl, ?_⟩
    refine ks_wpAny_call_super (kp0 _ _ hC) rfl (kp0 _ _ he) rfl (fun c z => by cases z) (PySem.W.looks_mroIn kin0 T.sS) (fun h1 so1 kp1 => ?_)
    have kin1 : K.In h1 := kin0.keeps kp1
    have eC : e ≠ C := fun z => by
      rw [z, hC] at he
      cases he
    have I1 : PySem.W.InstAt h1 e (HandSPX.excO C t0) C none := ⟨kp1 _ _ (kp0 _ _ he), rfl, rfl, trivial⟩
    cases hcl : PySem.W.clsIn K C with
    | none =>
      have z := T.su
      unfold ks_superIn at z
      rw [hcl] at z
      cases z
    | some cd =>
      have z := T.su
      unfold ks_superIn at z
      rw [hcl] at z
      refine ESX.getMethod_super so1 (PySem.W.looks_opaque kin1 T.op) (l₀ := cd.mro) ((PySem.W.looks_clsIn kin1 hcl).andThen .now) rfl kin1 z eC (by decide) (I1.type.andThen (PySem.W.looks_subIn kin1 T.sB)) ?_
      refine ESX.callWith_bound (x := e) ?_ hstar rfl
      rw [hstar]
      refine Calls.spliced_cons (Calls.Constant_str (k := j) (pos := p3) (Calls.spliced_nil ⟨Heap.get?_push_size _ rfl, ?_⟩))
      refine ESX.call_bw (e := e) (t0 := t0) (Heap.get?_push_of_some _ (kp1 _ _ (kp0 _ _ hC))) (Heap.get?_push_of_some _ (kp1 _ _ (kp0 _ _ he))) (Heap.get?_push_size _ rfl) (show 1 ≤ sizeLine by decide) (fun h2 t1 kp2 he2 => ?_)
      have kall : ∀ b o, b ≠ e → h0.get? b = some o → h2.get? b = some o := fun b o nb q => kp2 b o nb (Heap.get?_push_of_some _ (kp1 b o q))
      have kin2 : K.In h2 := fun b o q => kall b o (fun z => by
        rw [z, hKe] at q
        cases q) (kin0 b o q)
      have ns2 : h2.Ns s.heap.objs.size (fun x => [(slf, Value.ref e), (v, u)].reverse.lookup x) := by
        obtain ⟨oL, es, ep, hL, r⟩ := ns0
        exact ⟨oL, es, ep, kall _ _ (Ne.symm eL) hL, r⟩
      refine ks_wpAt_execs_cons (wpAt_of_wpAny (plainObj_wpAny_Assign_Attribute (wpAny_Name (wpAny_loadName_local S.kind S.kv ns2 mval (wpAny_Name (wpAny_loadName_local S.kind S.ks ns2 mself ?_) S.ds)) S.dv) hsw2))
      refine err_set kin2 he2 T.ov T.xf.hdC T.sa T.nf fun h3 tk dx kp3 dn de hx3 n3 => ?_
      refine wpAt_of_wpAny (wpAny_execs_nil ?_)
      have big : s.heap.objs.size ≤ h2.objs.size := by
        obtain ⟨oL, es, ep, hL, r⟩ := ns2
        exact Nat.le_of_lt (Heap.lt_size hL)
      exact hq h3 tk dx t1 (fun b o nb q => kp3 b o nb (kall b o nb (kp0 b o q))) (Nat.le_trans big dn) de hx3 n3
end
end DL
namespace DL
open PySem L2 PyProof.Rows
section
variable {k : Kx} {X : Cx} {E : XK}
theorem pmk_err {st : Stmt} {qual slf v f x : Str} {C fI : Addr} {a : Expr} {ta : TE} {p pos : Pos} {lvl : Nat} (T : ErrC X.prog X.K st qual slf v f C fI) (hr : Room (lvl + 1) X.A) (hg : Gl X x) (hm : X.mg x = some (.ref C)) (ha : PE X a ta)
    (hs : starEach [a] X.env = (false, eval a X.env) :: starEach [] X.env := by rfl) (hdb : (x == ("__debug__" : Str)) = false := by decide) :
    PMk X (.Call (.Name x p) [a] [] pos) (fun σ H Q => ta σ H fun y H1 => ∀ d, H1 d = none → Q (.ref C) (some d) (upd H1 d (.xd [(f, y)]))) := by
  intro pins s σ H Q I h
  refine wpAny_Call_Name_kw (ld_glob I hg hm ?_ hdb)
  refine PySem.W.callWith_K (h₀ := X.base) I.ok.mod.kin T.kp ?_ hs (by rfl)
  rw [hs]
  show wpAny _ _ (spliced ((false, eval a X.env) :: backTo pos (starEach [] X.env))) _ _ s
  refine Calls.spliced_cons (thn (ha.run pins s σ H _ I h) fun u s1 ⟨y, H1, I1, ry, q1⟩ => Calls.spliced_nil ⟨I1.kIn, ?_⟩)
  show wpAny _ _ (call (.ref C) [u]) _ _ _
  obtain ⟨nm, N, qn, bs, bm, hdct, sn, sub, ab, col, dd, k0, k1, k2, k3, k5, hC, hT⟩ := PySem.W.excInit_of I1.kIn T.q
  have Mo : L2.Mod X.K X.mg s1.heap := ⟨I1.kIn, I1.mod.glob.keeps I1.bk, let ⟨mb, b1, b2⟩ := I1.mod.blt; ⟨mb, b1.keeps I1.bk, b2⟩, I1.nolimit⟩
  obtain ⟨hp, g, dr, tk, os⟩ := s1
  have kk : ∀ b o, hp.get? b = some o → ((hp.push (PySem.W.kdv_tup [u])).push (HandSPX.excO C hp.objs.size)).get? b = some o := fun b o z => Heap.get?_push_of_some _ (Heap.get?_push_of_some _ z)
  have atE : ((hp.push (PySem.W.kdv_tup [u])).push (HandSPX.excO C hp.objs.size)).get? (hp.objs.size + 1) = some (HandSPX.excO C hp.objs.size) := by heap_get
  have Mo2 : L2.Mod X.K X.mg ((hp.push (PySem.W.kdv_tup [u])).push (HandSPX.excO C hp.objs.size)) := ⟨Mo.kin.keeps kk, Mo.glob.keeps kk, let ⟨mb, b1, b2⟩ := Mo.blt; ⟨mb, b1.keeps kk, b2⟩, Mo.nolimit.keeps kk⟩
  have noE : X.K.lookup (hp.objs.size + 1) = none := by
    cases z : X.K.lookup (hp.objs.size + 1) with
    | none => rfl
    | some o => exact absurd (Heap.lt_size (Mo.kin _ _ z)) (by show ¬ hp.objs.size + 1 < hp.objs.size; omega)
  refine wpAny_call (HandSPX.call_own F.excBase_Exception hT hC (PySem.W.looks_findIn I1.kIn T.iC) (fun slf => PySem.W.bind_fn I1.kIn slf T.tI) (show 1 ≤ sizeLine by decide) ?_)
  refine err_init T Mo2 atE noE (hr.make C [u] []).depth fun h2 tk2 dx t1 kp2 dn de he2 n2 => ?_
  refine ⟨rfl, ?_⟩
  obtain ⟨G, g1, g2⟩ := restrict h2 fun b => decide (b ≠ hp.objs.size + 1)
  have gk : ∀ {b : Addr}, b ≠ hp.objs.size + 1 → G.get? b = h2.get? b := fun {b} nb => g1 b (decide_eq_true nb)
  have low : ∀ {b : Addr} {o : Obj}, hp.get? b = some o → b ≠ hp.objs.size + 1 := fun {b o} z => Nat.ne_of_lt (Nat.lt_succ_of_lt (Heap.lt_size z))
  have dn2 : hp.objs.size ≤ dx := Nat.le_trans (by rw [Heap.size_push, Heap.size_push]; omega) dn
  have new : ObjOk X.prog X.w (upd H1 dx (.xd [(f, y)])) G dx (.xd [(f, y)]) := ⟨_, n2.at fun o z => (gk de).trans z, relO_put (fs := []) ry fun _ => True.intro⟩
  have J : Inv X pins σ (upd H1 dx (.xd [(f, y)])) ⟨G, g, dr, tk2, os⟩ := I1.laid (t' := tk2) (h' := G) (fun b o z => (gk (low z)).trans (kp2 b o (low z) (kk b o z))) dn2 new
  have hE : H1 (hp.objs.size + 1) = none := I1.hok.fresh (Nat.le_succ _)
  refine ⟨hp.objs.size + 1, _, _, ⟨G, g, dr, tk2, os⟩, upd H1 dx (.xd [(f, y)]), .ref C, some dx, rfl, J, fun b o z => ?_, g2 _ (by simp), he2, ⟨rfl, rfl⟩, rfl, rfl, ?_, rfl, I1.bare, raises_own T.xf.exC T.ty, q1 dx (I1.hok.fresh dn2)⟩
  · by_cases hb : b = hp.objs.size + 1
    · subst hb
      rw [g2 _ (by simp)] at z
      cases z
    · exact (gk hb).symm.trans z
  · rw [upd_ne (Ne.symm de)]
    exact hE
/-- raise C(a) -/
def sRaise (c : Nat) (a : DEnv → M D) : DEnv → M Out := fun e => do let x ← a e; M.exn c [x]
theorem js_raise {st : Stmt} {qual slf v f x : Str} {fI : Addr} {a : Expr} {ma : DEnv → M D} {p pos pos' : Pos} {lvl c : Nat} (T : ErrC X.prog X.K st qual slf v f (k.cl c) fI) (hf : k.xf c = [f]) (hc : X.calm = true) (tk : Takes X (fun cls d _ H => E cls d H)) (hr : Room (lvl + 1) X.A) (hg : Gl X x) (hm : X.mg x = some (.ref (k.cl c))) (ha : JE k X E a ma)
    (hs : starEach [a] X.env = (false, eval a X.env) :: starEach [] X.env := by rfl) (hdb : (x == ("__debug__" : Str)) = false := by decide) : JS k X E (.Raise (some (.Call (.Name x p) [a] [] pos)) none pos') (sRaise c ma) := by
  refine PS.imp (ps_raise hc tk (pmk_err T hr hg hm ha hs hdb)) fun Ds s H h => ?_
  obtain ⟨e, G, L, μ, sg, w, gd⟩ := h
  refine ⟨e, G, L, μ, sg, w, Good.mono (Good.bind gd) fun d1 m1 G1 H1 L1 st1 w1 q1 y r1 d hd => ?_⟩
  refine q1 _ _ _ d (w1.newS (o := .xd [(f, y)]) hd) (w1.new hd) ⟨[y], by rw [hf]; rfl, by rw [hf]; exact upd_same, ?_⟩
  exact RpA.mono (w1.newS (o := .xd [(f, y)]) hd).g (pre_refl L1) _ _ (.cons r1 .nil)
end
end DL
namespace DL
open PySem L2 PyProof.Rows
section
variable {X : Cx} {pins : List (Addr × Obj)}
/-- an error of the class cls, its dict d, has landed in X's frame: the state without it was sI, the ground is B -/
structure Landed (X : Cx) (pins : List (Addr × Obj)) (a : Addr) (cls : Value) (d : Option Addr) (B : Heap) (sI : Shared) (σ : L2.St) (H : Hp) (s : Shared) : Prop where
  inv : Inv X pins σ H sI
  nb : ∀ b o, sI.heap.get? b = some o → b ∉ frs X.stack → B.get? b = some o
  up : sI.heap.UpToSlots s.heap
  fl : HandSPX.FlyingZ B (X.env :: X.outer) a (Zc cls d) s.heap
  na : H a = none
  os : s.os = sI.os
  ag : AllBare s.gens
variable {a : Addr} {cls : Value} {d : Option Addr} {B : Heap} {sI s : Shared} {σ : L2.St} {H : Hp}
theorem Landed.here (c : Landed X pins a cls d B sI σ H s) : Inv X pins σ H s := by
  have j := c.inv.landed c.nb c.fl.1 c.up c.os c.ag
  exact j
theorem Landed.obj (c : Landed X pins a cls d B sI σ H s) (hf : X.env.frame = some X.env.locals) :
    ∃ oe vs, s.heap.get? a = some oe ∧ Zc cls d oe ∧ oe.data = .fields vs ∧ a ≠ X.env.locals ∧ a ∉ X.fs := by
  obtain ⟨oe, vs, h1, h2, h3⟩ := c.fl.there
  have off : a ∉ frs (X.env :: X.outer) := fun hm => by
    obtain ⟨_, o', e', no⟩ := c.fl.2.2.1.mem hm
    rw [h1] at e'
    cases e'
    exact no _ h3
  refine ⟨oe, vs, h1, h2, h3, fun z => ?_, fun hm => ?_⟩
  · exact off (List.mem_filterMap.mpr ⟨X.env, List.mem_cons_self, by rw [hf, z]⟩)
  · obtain ⟨en, he, q⟩ := List.mem_filterMap.mp hm
    exact off (List.mem_filterMap.mpr ⟨en, List.mem_cons_of_mem _ he, q⟩)
end
end DL
namespace DL
open PySem L2 PyProof.Rows
/-- what such a def promises -/
def FnG (P : Program) (w : World) (K : PySem.W.Frag) (mg : Str → Option Value) (base : Heap) (lvl : Nat) (f : Addr) (sp : Sp) : Prop :=
  ∀ (A : Around) (outer : List Env) (s : Shared) (H : Hp) (us : List Value) (vs : List V) (Q : VK) (E : XK), A.guards = some [] → Room lvl A → Env0 P w K mg base A outer s H → Vals vs us → sp vs H Q E →
    codeAny (model P w) A (.call (.ref f) ⟨us, []⟩) (CR (L2.CX P w) outer P w H s Q E) s
section
variable {P : Program} {w : World} {K : PySem.W.Frag} {mg : Str → Option Value} {base : Heap} {k : Kx}
theorem fng_ok {x qual : Str} {st : Stmt} {f : Addr} {fd : FuncData} {N ps : List Str} {lvl : Nat} {m : DEnv → M Out} {kV doc pm cdv ct oc : Value} {an od : Option Addr} {osl : Array (Option Value)} (S : FnScope N ps (defScope st)) (e : fd = PySem.W.fnOf x qual (defArgs st) (defBody st) (defScope st) .none kV doc pm an cdv ct)
    (lk : K.lookup f = some ⟨oc, od, .func fd, osl⟩) (hcd : PySem.W.codeIn K cdv qual = true) (hbi : Binds K fd ps [])
    (hb : ∀ (A : Around) (outer : List Env) (s : Shared) (H : Hp) (E : XK), A.guards = some [] → Room lvl (A.deeper (envOfC qual (defScope st) s.heap.objs.size f cdv)) → JB k (cxOf (L2.CX P w) P w K mg base N qual (defScope st) f cdv A outer s H E) E (defBody st) m) :
    FnG P w K mg base (lvl + 1) f (spD k K ps.length (fnD N.length m)) := by
  subst e
  intro A outer s H us vs Q E hg hr e0 r hsp
  obtain ⟨ds, G, L, μ, ra, hl, w0, gd⟩ := hsp
  have kin : K.In s.heap := e0.mod.kin.keeps fun b o e => (e0.bs b o e).1
  have hlv : vs.length = ps.length := by rw [ra.len, hl]
  have bind := hbi s us kin (by rw [List.append_nil, ← Paired.length r, hlv])
  rw [List.append_nil] at bind
  refine LamX.run_ofS lk hcd S hr e0 bind r hlv fun hr' => ⟨_, hb A outer s H E hg hr', ?_⟩
  have g1 := scope_good (X := cxOf (L2.CX P w) P w K mg base N qual (defScope st) f cdv A outer s H E) w0 gd
  refine ⟨startD N.length ds, G, L, μ, start_sg ra, w0, Good.mono (Good.bind g1) fun o m1 G1 H1 L1 st1 w1 q1 => ?_⟩
  cases o with
  | nx e => exact fun s1 _ => Good.ret q1 w1 _ .non
  | rt d => exact fun v rv => Good.ret q1 w1 v rv
  | bk e => exact False.elim q1
  | ct e => exact False.elim q1
variable {X : Cx} {E : XK}
theorem j_callG {x : Str} {p pos : Pos} {a : Expr} {es : List Expr} {ms : DEnv → M (List D)} {lvl : Nat} {f : Addr} {n : Nat} {den : List D → M D} (F : FnG X.prog X.w X.K X.mg X.base lvl f (spD k X.K n den)) (hgd : X.A.guards = some []) (hr : Room lvl X.A) (hx : Passes (L2.CX X.prog X.w) X E) (hg : Gl X x) (hm : X.mg x = some (.ref f))
    (hk : PySem.W.keepIn X.K (.ref f) = true) (ha : JA k X E (a :: es) ms) (hdb : (x == ("__debug__" : Str)) = false := by decide) (he : starEach (a :: es) X.env = (false, eval a X.env) :: starEach es X.env := by rfl) (hpl : (backTo pos (starEach es X.env)).any (·.1) = false := by rfl) :
    JE k X E (.Call (.Name x p) (a :: es) [] pos) (eCallB (callN n den) ms) := by
  refine ⟨fun pins s σ H Q I h => wpAny_Call_Name_kw (ld_glob I hg hm ?_ hdb)⟩
  obtain ⟨e, G, L, μ, sg, w, gd⟩ := h
  have h' : dA k X.K E ms σ H fun vs H1 => spD k X.K n den vs H1 Q E := ⟨e, G, L, μ, sg, w, Good.mono (Good.bind gd) fun ds m1 G1 H1 L1 st1 w1 q1 vs r => by
    obtain ⟨hl, q1⟩ := good_ite q1
    exact ⟨ds, G1, L1, m1, r, hl, w1, q1⟩⟩
  refine PySem.W.callWith_K (h₀ := X.base) I.ok.mod.kin hk (thn (ha.run pos pins s σ H _ I h') fun us s1 ⟨vs, H1, I1, r, q⟩ => ⟨I1.kIn, ?_⟩) he hpl
  refine wpAny_call (codeAny_mono (F X.A X.stack s1 H1 us vs Q E hgd hr I1.env0 r q) fun r s' hq => ?_)
  cases r with
  | error e => exact hx pins σ H1 s1 e s' I1 hq
  | ok fl =>
    cases fl with
    | ret u => exact I1.after hq
    | next => exact False.elim hq
    | brk => exact False.elim hq
    | cont => exact False.elim hq
end
end DL
namespace DL
open PySem L2 PyProof.Rows
end DL
namespace DL
open PySem L2 PyProof.Rows
section
variable {k : Kx} {X : Cx} {E : XK}
theorem lam_wd {K : PySem.W.Frag} {G H H1 : Hp} {L : Lam} {μ : Store} (w : Wd k K G H L μ) (e : LamX.ExtN H H1) (t : LamX.Tabs k.tb H1) : Wd k K G H1 L μ where
  ext := fun a o h => e a o (w.ext a o h) (w.gt a o h)
  len := w.len
  tk := fun p hp => by
    obtain ⟨⟨o1, a1, b1⟩, ⟨o2, a2, b2⟩⟩ := w.tk p hp
    exact ⟨⟨o1, e _ _ a1 b1, b1⟩, ⟨o2, e _ _ a2 b2, b2⟩⟩
  tab := t
  gt := w.gt
  cell := fun n c h => by
    obtain ⟨a, b, hl, ga, gb, r⟩ := w.cell n c h
    refine ⟨a, b, hl, ga, gb, ?_⟩
    cases c with
    | lst ds =>
      obtain ⟨rfl, vs, h1, q⟩ := r
      exact ⟨rfl, vs, e _ _ h1 (nc_lst vs).1, q⟩
    | dct ks ds =>
      obtain ⟨rfl, vs, h1, q⟩ := r
      exact ⟨rfl, vs, e _ _ h1 (fun _ z => (by cases z)), q⟩
    | ins c ss =>
      obtain ⟨vs, h1, q, ⟨o, ho, nc⟩, ne⟩ := r
      refine ⟨vs, ?_, q, ⟨o, e _ _ ho nc.1, nc⟩, ne⟩
      rcases h1 with ⟨x1, x2⟩ | ⟨x1, x2⟩
      · exact .inl ⟨e _ _ x1 (nc_ins _ _ _).1, x2⟩
      · exact .inr ⟨e _ _ x1 (nc_slO _ _ _ _).1, e _ _ x2 (nc_xd []).1⟩
  apart := w.apart
theorem lam_stp {G H H1 : Hp} {L : Lam} (e : LamX.ExtN H H1) : Stp G H L G H1 L where
  g := Same.refl G
  l := pre_refl L
  tr := fun a b o h n => b o (e a o h n) n
  keep := fun a o h n _ => ⟨e a o h n, id⟩
  nl := fun p hp => .inl hp
end
end DL
namespace DL
open PySem L2 PyProof.Rows
end DL
namespace DL
open PySem L2 PyProof.Rows
abbrev tabO : Obj := { cls := .none, data := .fields #[] }
abbrev scrO (vs : List Value) : Obj := { cls := .type "list", data := .seq vs.toArray }
/-- sys.modules is there -/
def SysD (h : Heap) : Prop := ∃ mm, h.Ns sysModules mm
/-- what is tracked at the law's entry: the tables, and the script unless it stands in the text -/
def entryH (K : PySem.W.Frag) (ts : List Addr) (a : Addr) (vs : List Value) (ns : List Int) : Hp := fun b =>
  if b ∈ ts then some (.tbl #[]) else if b = a ∧ K.lookup a = none then some (.frz (scrO vs) (.lst (ns.map V.int))) else none
section
variable {P : Program} {w : World} {K : PySem.W.Frag} {mg mb : Str → Option Value} {ts : List Addr} {a : Addr} {vs : List Value} {ns : List Int} {h : Heap}
theorem entry_tab {b : Addr} (hb : b ∈ ts) : entryH K ts a vs ns b = some (.tbl #[]) := if_pos hb
theorem entry_off {b : Addr} (hb : b ∉ ts) (hn : b = a → K.lookup a ≠ none) : entryH K ts a vs ns b = none := by
  unfold entryH
  rw [if_neg hb, if_neg]
  exact fun z => hn z.1 z.2
/-- what is tracked, by its object -/
theorem entry_cases {b : Addr} {u : HO} (hT : ∀ b ∈ ts, h.get? b = some tabO) (ha : h.get? a = some (scrO vs)) (e : entryH K ts a vs ns b = some u) :
    (b ∈ ts ∧ u = .tbl #[] ∧ h.get? b = some tabO) ∨ (b = a ∧ b ∉ ts ∧ K.lookup a = none ∧ u = .frz (scrO vs) (.lst (ns.map V.int)) ∧ h.get? b = some (scrO vs)) := by
  unfold entryH at e
  by_cases hb : b ∈ ts
  · rw [if_pos hb] at e
    cases e
    exact .inl ⟨hb, rfl, hT b hb⟩
  · rw [if_neg hb] at e
    by_cases hc : b = a ∧ K.lookup a = none
    · rw [if_pos hc] at e
      cases e
      exact .inr ⟨hc.1, hb, hc.2, rfl, by rw [hc.1]; exact ha⟩
    · rw [if_neg hc] at e
      cases e
/-- any other object is not tracked -/
theorem entry_other {b : Addr} {o : Obj} (hT : ∀ b ∈ ts, h.get? b = some tabO) (ha : h.get? a = some (scrO vs)) (e : h.get? b = some o) (n1 : o.data ≠ .fields #[]) (n2 : ∀ xs n, o.data ≠ .seq xs n) : entryH K ts a vs ns b = none := by
  cases q : entryH K ts a vs ns b with
  | none => rfl
  | some u =>
    rcases entry_cases hT ha q with ⟨_, _, z⟩ | ⟨_, _, _, _, z⟩
    · rw [e] at z
      cases z
      exact absurd rfl n1
    · rw [e] at z
      cases z
      exact absurd rfl (n2 _ _)
theorem law_callG {s : Shared} {lvl : Nat} {fa : Addr} {cs : List (Addr × Addr)} {sp : Sp} (kin : K.In s.heap) (gl : s.heap.Ns mainGlobals mg) (bl : s.heap.Ns builtinsNs mb) (bb : ∀ x : Str, x ≠ "__name__" → mb x = bootBuiltins x) (lim : s.heap.NoLimit) (hsy : SysD s.heap) (hgen : s.gens = #[])
    (hT : ∀ p ∈ cs, s.heap.get? p.2 = some tabO) (nT : ∀ p ∈ cs, K.lookup p.2 = none) (cd : ∀ p ∈ cs, PySem.W.CodeHd s.heap p.1 p.2)
    (bmod : ∃ (bm : Addr) (ob : Obj), mg "__builtins__" = some (.ref bm) ∧ bm ≠ builtinsNs ∧ s.heap.get? bm = some ob ∧ ob.cls = .type "module" ∧ ob.dict = some builtinsNs ∧ ob.data = .plain)
    (ha : s.heap.get? a = some (scrO vs)) (hi : IntsAre vs ns) (hl : ns.length ≤ sizeLine) (hr : Room lvl callerA)
    (F : ∀ base : Heap, K.In base → base.Ns mainGlobals mg → SysD base → (∀ p ∈ cs, LamX.TabB base mg p.1 p.2) → FnG P w K mg base lvl fa sp)
    (hsp : ∀ H : Hp, (∀ p ∈ cs, H p.2 = some (.tbl #[])) → SqL K H a (ns.map V.int) → sp [.ref a] H (fun v _ => v = .bl true) fun _ _ _ => False) :
    codeAny (model P w) callerA (.call (.ref fa) ⟨[.ref a], []⟩) (fun r s' => r = .ok (.ret (.bool true)) ∧ OldK s.heap s'.heap ∧ s'.os = s.os ∧ AllBare s'.gens) s := by
  have rv := L2.vals_ints hi
  have hT' : ∀ b ∈ cs.map (·.2), s.heap.get? b = some tabO := fun b hb => by
    obtain ⟨p, hp, rfl⟩ := List.mem_map.mp hb
    exact hT p hp
  have inT : ∀ p ∈ cs, p.2 ∈ cs.map (·.2) := fun p hp => List.mem_map.mpr ⟨p, hp, rfl⟩
  have aT : a ∉ cs.map (·.2) := fun hb => by
    have z := hT' a hb
    rw [ha] at z
    cases z
  have other := fun {b : Addr} {o : Obj} (e : s.heap.get? b = some o) (n1 : o.data ≠ .fields #[]) (n2 : ∀ xs n, o.data ≠ .seq xs n) => entry_other (K := K) (ns := ns) hT' ha e n1 n2
  generalize hHd : entryH K (cs.map (·.2)) a vs ns = H at other
  have low : ∀ {b : Addr} {o : Obj}, s.heap.get? b = some o → o.data ≠ .fields #[] → (∀ xs n, o.data ≠ .seq xs n) → (hidT s.heap H).get? b = some o := fun {b o} e n1 n2 => hidT_get e (other e n1 n2)
  have nsb : ∀ {b : Addr} {m : Str → Option Value}, s.heap.Ns b m → (hidT s.heap H).Ns b m := fun {b m} z => by
    obtain ⟨o, es, ep, e, d, r⟩ := z
    exact ⟨o, es, ep, low e (fun q => by rw [d] at q; cases q) (fun xs n q => by rw [d] at q; cases q), d, r⟩
  have kb : K.In (hidT s.heap H) := fun b o e => hidT_get (kin b o e) (by
    rw [← hHd]
    refine entry_off (fun hb => ?_) (fun z hn => ?_)
    · obtain ⟨p, hp, rfl⟩ := List.mem_map.mp hb
      rw [nT p hp] at e
      cases e
    · rw [z, hn] at e
      cases e)
  have mo : L2.Mod K mg (hidT s.heap H) := ⟨kb, nsb gl, ⟨mb, nsb bl, bb⟩, let ⟨mc, z1, z2⟩ := lim; ⟨mc, nsb z1, z2⟩⟩
  have tabs : ∀ p ∈ cs, LamX.TabB (hidT s.heap H) mg p.1 p.2 := fun p hp => by
    refine ⟨?_, ?_, fun z => ?_⟩
    · obtain ⟨o, us, file, tf, fl, tg, inF, tx, tt, e, r1, r2, r3, rest⟩ := cd p hp
      refine ⟨o, us, file, tf, fl, tg, inF, tx, tt, low e (fun q => ?_) (fun xs n q => ?_), r1, r2, r3, rest⟩
      · rw [r2] at q
        cases q
        simp at r3
      · rw [r2] at q
        cases q
    · obtain ⟨bm, ob, b1, b2, b3, b4, b5, b6⟩ := bmod
      refine ⟨bm, ob, b1, b2, fun q => ?_, fun q => ?_, low b3 (fun q => by rw [b6] at q; cases q) (fun xs n q => by rw [b6] at q; cases q), b4, b5, b6⟩
      · obtain ⟨o, es, ep, e, d, _⟩ := gl
        rw [q, e] at b3
        cases b3
        rw [d] at b6
        cases b6
      · rw [q, hT p hp] at b3
        cases b3
        cases b6
    · obtain ⟨o, es, ep, e, d, _⟩ := gl
      rw [z, hT p hp] at e
      cases e
      cases d
  have hok : HOk P w H s.heap := fun b u e => by
    rw [← hHd] at e
    rcases entry_cases hT' ha e with ⟨_, rfl, z⟩ | ⟨_, _, _, rfl, z⟩
    · exact z
    · exact ⟨z, by rw [List.length_map]; exact hl, vs, _, rv, z⟩
  have seq : SqL K H a (ns.map V.int) := by
    cases hk : K.lookup a with
    | none =>
      refine .inl (.inr ⟨scrO vs, ?_⟩)
      rw [← hHd]
      unfold entryH
      rw [if_neg aT, if_pos ⟨rfl, hk⟩]
    | some o =>
      have z := kin a o hk
      rw [ha] at z
      cases z
      exact .inr ⟨_, vs.toArray, _, hk, rfl, rfl, rfl, by rw [List.size_toArray, hi.length]; exact hl, by simpa using rv⟩
  have tracked : ∀ p ∈ cs, H p.2 = some (.tbl #[]) := fun p hp => by
    rw [← hHd]
    exact entry_tab (inT p hp)
  have env : Env0 P w K mg (hidT s.heap H) callerA [] s H := ⟨rfl, mo, fun b o e => of_hidT e, Nat.le_of_eq (hidT_size _ _), trivial, fun b hb => absurd (show b ∈ ([] : List Addr) from hb) (by simp), hok, .of_eq hgen⟩
  refine codeAny_mono (F _ kb (nsb gl) (let ⟨mm, z⟩ := hsy; ⟨mm, nsb z⟩) tabs callerA [] s H [.ref a] [.ref a] _ _ rfl hr env (.cons rfl .nil) (hsp H tracked seq)) fun r s' z => ?_
  cases r with
  | error e => exact (cx_no z).elim
  | ok fl =>
    cases fl with
    | next => exact False.elim z
    | brk => exact False.elim z
    | cont => exact False.elim z
    | ret u =>
      obtain ⟨v, H', os, bare, un, hok', rv', q⟩ := z
      have q' : v = .bl true := q
      subst q'
      obtain rfl : u = Value.bool true := rv'
      have kept : ∀ b o, b ∉ cs.map (·.2) → s.heap.get? b = some o → s'.heap.get? b = some o := fun b o nb e => by
        cases hb : H b with
        | none => exact un.keep b o e hb (fun z => absurd (show b ∈ ([] : List Addr) from z) (by simp)) (by simp)
        | some u =>
          rw [← hHd] at hb
          rcases entry_cases hT' ha hb with ⟨z, _, _⟩ | ⟨_, _, _, rfl, z⟩
          · exact absurd z nb
          · rw [hHd] at hb
            have z2 := hok' b _ (un.frzs b _ _ hb)
            rw [e] at z
            cases z
            exact z2.1
      have grown : ∀ p ∈ cs, ∃ more : Array Value, s'.heap.get? p.2 = some { cls := .none, data := .fields more } := fun p hp => by
        obtain ⟨more, z⟩ := un.tbls p.2 #[] (tracked p hp)
        exact ⟨_, hok' p.2 _ z⟩
      refine ⟨rfl, ⟨fun b o e => ?_, fun b o e => ?_⟩, os, bare⟩
      · by_cases hb : b ∈ cs.map (·.2)
        · obtain ⟨p, hp, rfl⟩ := List.mem_map.mp hb
          obtain ⟨more, hm⟩ := grown p hp
          rw [hT p hp] at e
          cases e
          refine .inr (.inl ⟨((cd p hp).tab (hT p hp)).isCodeTable, rfl, #[], more, rfl, ?_⟩)
          rw [Array.empty_append]
          exact hm
        · exact .inl (kept b o hb e)
      · by_cases hb : b ∈ cs.map (·.2)
        · obtain ⟨p, hp, rfl⟩ := List.mem_map.mp hb
          obtain ⟨more, hm⟩ := grown p hp
          exact ⟨_, hm⟩
        · exact ⟨o, kept b o hb e⟩
end
end DL
namespace DL
open PySem L2 PyProof.Rows
/-- a def of the text whose code object stands at c -/
structure FC (K : PySem.W.Frag) (x qual : Str) (st : Stmt) (ps : List Str) (f c : Addr) : Prop where
  ex : ∃ (oc : Value) (od : Option Addr) (kV doc pm : Value) (an : Option Addr) (ct : Value) (osl : Array (Option Value)),
    K.lookup f = some ⟨oc, od, .func (PySem.W.fnOf x qual (defArgs st) (defBody st) (defScope st) .none kV doc pm an (.ref c) ct), osl⟩ ∧ PySem.W.codeIn K (.ref c) qual = true ∧ Binds K (PySem.W.fnOf x qual (defArgs st) (defBody st) (defScope st) .none kV doc pm an (.ref c) ct) ps []
section
variable {P : Program} {w : World} {K : PySem.W.Frag} {mg : Str → Option Value} {base : Heap} {k : Kx}
theorem fng_any {x qual : Str} {st : Stmt} {f : Addr} {N ps : List Str} {lvl : Nat} {m : DEnv → M Out} (F : FA K x qual st ps f) (S : FnScope N ps (defScope st))
    (hb : ∀ (cdv : Value) (A : Around) (outer : List Env) (s : Shared) (H : Hp) (E : XK), A.guards = some [] → Room lvl (A.deeper (envOfC qual (defScope st) s.heap.objs.size f cdv)) → JB k (cxOf (L2.CX P w) P w K mg base N qual (defScope st) f cdv A outer s H E) E (defBody st) m) :
    FnG P w K mg base (lvl + 1) f (spD k K ps.length (fnD N.length m)) := by
  obtain ⟨fd, ⟨⟨oc, od, kV, doc, pm, an, cdv, ct, osl, e, lk, hcd⟩, _⟩, b⟩ := F.ex
  exact fng_ok S e lk hcd b fun A outer s H E hg hr => hb cdv A outer s H E hg hr
theorem fng_mk {x qual : Str} {st : Stmt} {f c : Addr} {N ps : List Str} {lvl : Nat} {m : DEnv → M Out} (F : FC K x qual st ps f c) (S : FnScope N ps (defScope st))
    (hb : ∀ (A : Around) (outer : List Env) (s : Shared) (H : Hp) (E : XK), A.guards = some [] → Room lvl (A.deeper (envOfC qual (defScope st) s.heap.objs.size f (.ref c))) → JB k (cxOf (L2.CX P w) P w K mg base N qual (defScope st) f (.ref c) A outer s H E) E (defBody st) m) :
    FnG P w K mg base (lvl + 1) f (spD k K ps.length (fnD N.length m)) := by
  obtain ⟨oc, od, kV, doc, pm, an, ct, osl, lk, hcd, b⟩ := F.ex
  exact fng_ok S rfl lk hcd b fun A outer s H E hg hr => hb A outer s H E hg hr
theorem FnG.imp {lvl : Nat} {f : Addr} {sp sp' : Sp} (F : FnG P w K mg base lvl f sp) (h : ∀ vs H Q E, sp' vs H Q E → sp vs H Q E) : FnG P w K mg base lvl f sp' := fun A outer s H us vs Q E hg hr e0 r z => F A outer s H us vs Q E hg hr e0 r (h _ _ _ _ z)
/-- where the written part says that a maker, its code object and its table stand -/
theorem mk_eq {h : Heap} {x : Str} {f c T f1 c1 T1 : Addr} {oc cc : Value} {od cod : Option Addr} {fd : FuncData} {osl csl : Array (Option Value)} {vs : Array Value} (M : MkT mg h x f c T) (kin : K.In h) (at1 : mg x = some (.ref f1)) (l1 : K.lookup f1 = some ⟨oc, od, .func fd, osl⟩) (e1 : fd.code = .ref c1)
    (l2 : K.lookup c1 = some ⟨cc, cod, .fields vs, csl⟩) (e2 : vs[11]? = some (.ref T1)) : f = f1 ∧ c = c1 ∧ T = T1 := by
  obtain ⟨a1, ⟨o, fd', g1, g2, g3⟩, ⟨o2, us, file, tf, fl, tg, inF, tx, tt, k1, k2, k3, k4, _⟩, _⟩ := M
  rw [a1] at at1
  cases at1
  have z := kin _ _ l1
  rw [z] at g1
  cases g1
  cases g2
  rw [e1] at g3
  cases g3
  have z2 := kin _ _ l2
  rw [z2] at k1
  cases k1
  cases k3
  rw [e2] at k4
  cases k4
  exact ⟨rfl, rfl, rfl⟩
end
theorem sysD_of {h : Heap} (x : h.NoSeer) : SysD h := let ⟨mm, z, _⟩ := x.mods; ⟨mm, z⟩
end DL
namespace DL
open PySem L2 PyProof.Rows
section
variable {P : Program} {w : World} {K : PySem.W.Frag} {mg : Str → Option Value} {base : Heap} {k : Kx}
theorem take_def {N : List Str} {qual : Str} {sc : Scope} {f : Addr} {cdv : Value} {A : Around} {outer : List Env} {s : Shared} {H : Hp} {E : XK} : Takes (cxOf (L2.CX P w) P w K mg base N qual sc f cdv A outer s H E) (fun cls d _ H => E cls d H) := takes_of rfl rfl rfl rfl
theorem tu_of {tb : List (Addr × Str)} {T : Addr} {q : Str} (nd : (tb.map (·.1)).Nodup) (h : (T, q) ∈ tb) : ∀ p ∈ tb, p.1 = T → p.2 = q := by
  induction tb with
  | nil => cases h
  | cons a r ih =>
    intro p hp e
    simp only [List.map_cons, List.nodup_cons] at nd
    rcases List.mem_cons.mp h with h | h
    · rcases List.mem_cons.mp hp with hp | hp
      · rw [hp, ← h]
      · exact absurd (List.mem_map.mpr ⟨p, hp, by rw [e, ← h]⟩) nd.1
    · rcases List.mem_cons.mp hp with hp | hp
      · exact absurd (List.mem_map.mpr ⟨(T, q), h, by rw [← hp]; exact e.symm⟩) nd.1
      · exact ih nd.2 h p hp e
end
end DL
namespace DL
open PySem L2 PyProof.Rows
def cutD (xs : List D) (lo hi : Option Int) : List D := (xs.drop (HT.sIx xs.length 0 lo)).take (HT.sIx xs.length xs.length hi - HT.sIx xs.length 0 lo)
def sliceD (d : D) (lo hi : Option Int) : M D := match d with
  | .str z => if z.length ≤ 100000 then pure (.str (cutS z lo hi)) else M.bad
  | .tup ds => pure (.tup (cutD ds lo hi))
  | d => do let ds ← seqD d; pure (.lst (cutD ds lo hi))
def pNone : DEnv → M (Option Int) := fun _ => pure none
def pSome (a : DEnv → M D) : DEnv → M (Option Int) := fun e => do
  let x ← a e
  match x with
    | .int i => pure (some i)
    | _ => M.bad
def eSlice (a : DEnv → M D) (lo hi : DEnv → M (Option Int)) : DEnv → M D := fun e => do let x ← a e; let l ← lo e; let h ← hi e; sliceD x l h
section
variable {k : Kx} {X : Cx} {E : XK}
def dO (k : Kx) (K : PySem.W.Frag) (E : XK) (m : DEnv → M (Option Int)) : TO := fun s H Q => ∃ e G L μ, Sg k K G L s e ∧ Wd k K G H L μ ∧ Good k K E G H L (m e μ) fun o _ _ H' _ => Q o H'
abbrev JO (k : Kx) (X : Cx) (E : XK) (e : Option Expr) (m : DEnv → M (Option Int)) : Prop := PO X e (dO k X.K E m)
theorem PO.imp {e : Option Expr} {t t' : TO} (h : PO X e t) (i : ∀ s H Q, t' s H Q → t s H Q) : PO X e t' := ⟨fun pins s σ H Q I q => h.run pins s σ H Q I (i σ H Q q)⟩
theorem jo_none : JO k X E none pNone := PO.imp po_none fun s H Q h => by
  obtain ⟨e, G, L, μ, sg, w, gd⟩ := h
  exact Good.ret gd w
theorem jo_some {a : Expr} {ma : DEnv → M D} (h : JE k X E a ma) : JO k X E (some a) (pSome ma) := PO.imp (po_some h) fun s H Q h => by
  obtain ⟨e, G, L, μ, sg, w, gd⟩ := h
  refine ⟨e, G, L, μ, sg, w, Good.mono (Good.bind gd) fun d1 m1 G1 H1 L1 st1 w1 q1 x r1 => ?_⟩
  cases d1 with
  | int i => cases r1; exact ⟨i, rfl, Good.ret q1 w1⟩
  | _ => exact False.elim q1
theorem cut_rp {G : Hp} {L : Lam} {vs : List V} {ds : List D} (r : RpA k X.K G L vs ds) (lo hi : Option Int) : RpA k X.K G L (cutV vs lo hi) (cutD ds lo hi) := by
  unfold cutV cutD
  rw [r.len]
  exact (r.drop _).take _
theorem cut_whole {ds : List D} {lo hi : Option Int} (h : HT.sIx ds.length 0 lo = 0 ∧ HT.sIx ds.length ds.length hi = ds.length) : cutD ds lo hi = ds := by
  unfold cutD
  rw [h.1, h.2]
  simp
theorem j_slice {a : Expr} {ma : DEnv → M D} {lo hi : Option Expr} {ml mh : DEnv → M (Option Int)} {pos p2 : Pos} (ha : JE k X E a ma) (hl : JO k X E lo ml) (hh : JO k X E hi mh) : JE k X E (.Subscript a (.Slice lo hi none p2) pos) (eSlice ma ml mh) := by
  refine PE.imp (pe_slice (SlR.or sl_str (SlR.or sl_tupA sl_list)) ha hl hh) fun s H Q h => ?_
  obtain ⟨e, G, L, μ, sg, w, gd⟩ := h
  refine ⟨e, G, L, μ, sg, w, Good.mono (Good.bind gd) fun d1 m1 G1 H1 L1 st1 w1 q1 x r1 => ?_⟩
  have sg1 := sg.mono st1.g st1.l
  refine ⟨e, G1, L1, m1, sg1, w1, Good.mono (Good.bind q1) fun o1 m2 G2 H2 L2 st2 w2 q2 => ?_⟩
  refine ⟨e, G2, L2, m2, sg1.mono st2.g st2.l, w2, Good.mono (Good.bind q2) fun o2 m3 G3 H3 L3 st3 w3 q3 => ?_⟩
  have r3 := Rp.mono st3.g st3.l _ _ (Rp.mono st2.g st2.l _ _ r1)
  have seq : ∀ (ne : ∀ t, d1 ≠ .tup t) (q : Good k X.K E G3 H3 L3 ((do let ds ← seqD d1; pure (D.lst (cutD ds o1 o2))) m3) (QV k X.K Q)), rSlS x o1 o2 H3 Q ∨ rSlA X.K x o1 o2 H3 Q ∨ rSlL X.K x o1 o2 H3 Q := fun ne q => by
    obtain ⟨a, vs, ds, rfl, ra, hs | hs, g⟩ := seq_of r3 w3 q
    · refine .inr (.inr ⟨a, vs, rfl, hs.1, fun p hp => ?_⟩)
      exact g _ _ _ (w3.newS hp) (w3.new hp) _ (.lst (SqL.of upd_same) (RpA.mono (w3.newS (o := .lst (cutV vs o1 o2)) hp).g (pre_refl L3) _ _ (cut_rp ra o1 o2)))
    · exact absurd hs.2 (ne ds)
  cases d1 with
  | str z =>
    cases r3
    obtain ⟨hz, g⟩ := good_ite q3
    exact .inl ⟨z, rfl, size_of hz, Good.ret g w3 _ (.str _)⟩
  | tup ds =>
    cases r3 with
    | @tup a vs _ hs ha =>
      refine .inr (.inl ⟨a, vs, rfl, sqT_mono w3.ext hs, fun hw => ?_, fun _ p hp => ?_⟩)
      · have q := Good.ret q3 w3
        rw [ha.len] at hw
        rw [cut_whole hw] at q
        exact q _ (.tup hs ha)
      · exact q3 _ _ _ (w3.newS hp) (w3.new hp) _ (.tup (SqT.of upd_same) (RpA.mono (w3.newS (o := .tup (cutV vs o1 o2)) hp).g (pre_refl L3) _ _ (cut_rp ha o1 o2)))
  | lst ds => exact seq (fun _ z => nomatch z) q3
  | loc n => exact seq (fun _ z => nomatch z) q3
  | _ => exact False.elim q3
end
end DL
namespace DL
open PySem L2 PyProof.Rows
def keyD : D → Option Key
  | .int i => some (.inl i)
  | .str x => some (.inr x)
  | _ => none
section
variable {k : Kx} {X : Cx} {E : XK}
theorem nc_dK (kvs : List (Key × V)) : NC (.dK kvs) := ⟨fun _ e => (by cases e), fun c q e => (by unfold LamX.CodeO at e; cases e)⟩
end
end DL
namespace DL
open PySem L2 PyProof.Rows
end DL
namespace DL
open PySem L2 PyProof.Rows
end DL
namespace DL
open PySem L2 PyProof.Rows
open AutoSeq1 (wpAny_loadPart')
def kqN : Bool → String
  | true => "list"
  | false => "tuple"
theorem KQ.ob {b : Bool} {h : Heap} {a : Addr} {xs : Array Value} (x : KQ b h a xs) : ∃ o, h.get? a = some o ∧ o.cls = .type (kqN b) ∧ ∃ n, o.data = .seq xs n := by
  cases b
  · obtain ⟨o, e, c, n, d⟩ := x
    exact ⟨o, e, c, n, d⟩
  · obtain ⟨o, e, c, n, d⟩ := x
    exact ⟨o, e, c, n, d⟩
abbrev kiO (b : Bool) (l : Addr) : Obj := { cls := .type (kiN b), data := .fields #[.ref l, .int 0 0] }
abbrev enO (it : Addr) : Obj := { cls := .type "enumerate", data := .fields #[.none, .bool false, .ref it, rawInt 0, .none, .none] }
theorem enum_new (b : Bool) (l : Addr) (items : Array Value) : Meets (Builtin.«enumerate.__new__» ⟨[.type "enumerate", .ref l], []⟩) (fun _ R s => KQ b s.heap l items ∧
    R (.ok (.ret (.ref (s.heap.objs.size + 1)))) { s with heap := (s.heap.push (kiO b l)).push (enO s.heap.objs.size) }) :=
  .of_wp fun prog w A R s h => by
    obtain ⟨hp, g, d, tk, os⟩ := s
    obtain ⟨hl, h⟩ := h
    have hsub := sub_enumerate
    obtain ⟨o, ho, hc, n, hd⟩ := hl.ob
    have sz : (hp.push (kiO b l)).objs.size = hp.objs.size + 1 := Heap.size_push ..
    have it : ∀ {A : Around} {E : Value → Shared → Prop} {Q : Value → Shared → Prop}, Q (.ref hp.objs.size) ⟨hp.push (kiO b l), g, d, tk, os⟩ → wpAny (model prog w) A (pyIter (.ref l)) Q E ⟨hp, g, d, tk, os⟩ := fun q => iterK (s := ⟨hp, g, d, tk, os⟩) hl q
    wp_walk using wpAny_loadPart' ho
    refine wpAny_stack_any fun st => wpAny_pure ?_
    have h' : R (.ok (.ret (.ref (hp.push (kiO b l)).objs.size))) ⟨(hp.push (kiO b l)).push (enO hp.objs.size), g, d, tk, os⟩ := by
      rw [sz]
      exact h
    split
    · rename_i c _ _ _ _ _
      cases c == Value.type "enumerate" <;> (wp_walk using it; exact ⟨_, rfl, h'⟩)
    · wp_walk using it
      exact ⟨_, rfl, h'⟩
theorem drawK {prog : Program} {w : World} {A : Around} (hh : A.handled = none) (b : Bool) (it l : Addr) (hne : l ≠ it) (items : Array Value) :
    Draws prog w A it [it, l] items.size (fun i v => items[i]? = some v) (fun i h => KI b h it l i ∧ KQ b h l items) := by
  cases b
  · exact Draws.tuple hh it l hne items
  · exact Draws.list hh it l hne items
/-- at the end: no item is left -/
theorem endK {prog : Program} {w : World} {A : Around} (hh : A.handled = none) (b : Bool) (it l : Addr) (items : Array Value) (i : Nat) (hn : items[i]? = none) :
    Draws prog w A it [it, l] i (fun _ _ => True) (fun j h => j = i ∧ KI b h it l i ∧ KQ b h l items) where
  live := fun _ _ st => let ⟨o, ho, _⟩ := st.2.1.ex; ⟨o, ho⟩
  frame := fun _ _ _ st hk => ⟨st.1, st.2.1.at fun o e => hk it (by simp) o e, by
    obtain ⟨_, _, q⟩ := st
    cases b
    · exact Heap.IsTuple.at q fun o e => hk l (by simp) o e
    · exact Heap.IsList.at q fun o e => hk l (by simp) o e⟩
  item := fun j s Q E hj st _ => absurd st.1 (Nat.ne_of_lt hj)
  done := fun s Q E st hE => nextK_end hh st.2.1 st.2.2 hn hE
theorem call_enumK {prog : Program} {w : World} {A : Around} {E : Value → Shared → Prop} {s : Shared} {b : Bool} {l : Addr} {items : Array Value} {Q : Value → Shared → Prop} (hL : KQ b s.heap l items)
    (h : ∀ h', IsEnum h' (s.heap.objs.size + 1) s.heap.objs.size 0 .none → KI b h' s.heap.objs.size l 0 → (∀ c o, s.heap.get? c = some o → h'.get? c = some o) → Q (.ref (s.heap.objs.size + 1)) { s with heap := h' }) :
    wpAny (model prog w) A (call (.type "enumerate") [.ref l]) Q E s := by
  refine callType_new F.called_enumerate (by decide) (F.typeCall_enumerate_1 _) (F.newCall_enumerate_1 _) (fun obj => F.args_object_init_2 obj _) F.entry_enumerate_new (enum_new b l items) ⟨hL, ?_⟩
  have sz : (s.heap.push (kiO b l)).objs.size = s.heap.objs.size + 1 := Heap.size_push ..
  have he : IsEnum ((s.heap.push (kiO b l)).push (enO s.heap.objs.size)) (s.heap.objs.size + 1) s.heap.objs.size 0 .none := by
    have z := Heap.get?_push_size (s.heap.push (kiO b l)) (o := enO s.heap.objs.size) rfl
    rw [sz] at z
    exact z
  exact ⟨⟨_, he, rfl⟩, h _ he (.of ⟨_, Heap.get?_push_of_some _ (Heap.get?_push_size _ rfl), rfl, rfl⟩) fun c o e => Heap.get?_push_of_some _ (Heap.get?_push_of_some _ e)⟩
/-- the items at a as they stand at each turn, each in a new pair with its place -/
def IteK (b : Bool) (K : PySem.W.Frag) (a : Addr) : It :=
  ⟨fun i H => ∃ (xs : List V) (x : V), SqK b K H a xs ∧ xs[i]? = some x, fun i H v H' => ∃ T x, v = .ref T ∧ H T = none ∧ H' = upd H T (.tup [.int (i : Nat), x]) ∧ ∀ xs, SqK b K H a xs → xs[i]? = some x, fun i H => ∃ xs : List V, SqK b K H a xs ∧ xs.length ≤ i⟩
theorem turn_enumK {P : Program} {w : World} {K : PySem.W.Frag} {elts : List Expr} {kk : Nat} {tpos : Pos} {b : Bool} {a e it : Addr} (ae : a ≠ e) (ai : a ≠ it) :
    Turn P w K (.Tuple elts kk tpos) (IteK b K a) [e, it] e (fun i h => (∃ old, IsEnum h e it ((i : Nat) : Int) old) ∧ KI b h it a i ∧ e ≠ it) where
  mem := by simp
  obj := fun i h st c hc => by
    obtain ⟨⟨old, he⟩, hi, _⟩ := st
    obtain ⟨o, ho, _, hd⟩ := hi.ex
    simp only [List.mem_cons, List.not_mem_nil, or_false] at hc
    rcases hc with rfl | rfl
    · exact ⟨_, he, fun v q => nomatch q⟩
    · exact ⟨o, ho, fun v q => by rw [hd] at q; cases q⟩
  keep := fun i h h' st k => let ⟨⟨old, he⟩, hi, hne⟩ := st; ⟨⟨old, k e (by simp) _ he⟩, hi.at fun o q => k it (by simp) o q, hne⟩
  item := by
    intro X hP hw hK hc i pins s σ H E I hf st hg
    subst hP hw hK
    obtain ⟨⟨old, he⟩, hit, hne⟩ := st
    obtain ⟨xs, x, hq, hx⟩ := hg
    obtain ⟨its, rv, p, _⟩ := sqK_val I hq
    obtain ⟨u, hu, ru⟩ := rv.get hx
    have le := Heap.lt_size he
    have li := hit.lt
    have hlt : i < its.toArray.size := by
      have := (List.getElem?_eq_some_iff.mp hu).1
      simpa using this
    refine wpAny_pyNext_enum_itemD (drawK (by simp [I.ok.hd hc]) b it a ai its.toArray) he ⟨hit, p⟩ hlt hne (by simp [hne, Ne.symm ae]) fun y h' tk hy ho st' hT hsz hk => ?_
    have ey : y = u := by
      have z : its.toArray[i]? = some u := by simpa using hu
      rw [hy] at z
      exact Option.some.inj z
    subst ey
    refine ⟨_, rfl, wpAny_letOwnedTupleGo_enum (s := { s with heap := h', toks := tk + 1 }) ho fun h2 he2 sb => ?_⟩
    have hT2 : h2.get? s.heap.objs.size = some { cls := .type "tuple", data := .seq #[.int i tk, y] } := (sb.2 _ (Nat.ne_of_gt le)).trans hT
    have new : ObjOk X.prog X.w (upd H s.heap.objs.size (.tup [.int (i : Nat), x])) h2 s.heap.objs.size (.tup [.int (i : Nat), x]) :=
      ⟨by show 2 ≤ sizeLine; decide, [.int i tk, y], .cons ⟨_, rfl⟩ (.cons ru .nil), ⟨_, hT2, rfl, _, rfl⟩⟩
    have I1 : L2.Inv X pins σ (upd H s.heap.objs.size (.tup [.int (i : Nat), x])) { s with heap := h2, toks := tk + 1 } :=
      I.turnedNew (ch := [e, it]) (fun c ob hb q => (sb.2 c (fun z => hb (by simp [z]))).trans (hk c ob (fun z => hb (by simp [z])) (fun z => hb (by simp [z])) q)) hf (Nat.le_refl _) new
    refine ⟨.ref s.heap.objs.size, _, I1, rfl, ⟨_, x, rfl, I.hok.fresh (Nat.le_refl _), rfl, fun ys hy' => by rw [sqK_inj I hy' hq]; exact hx⟩, ⟨⟨y, ?_⟩, st'.1.at fun o q => (sb.2 it (Ne.symm hne)).trans q, hne⟩, fun c hb => ?_⟩
    · rw [show ((i + 1 : Nat) : Int) = (i : Int) + 1 by omega]
      exact he2
    · have lc : c < s.heap.objs.size := by
        simp only [List.mem_cons, List.not_mem_nil, or_false] at hb
        rcases hb with rfl | rfl
        · exact le
        · exact li
      rw [upd_ne (Nat.ne_of_lt lc)]
      exact (hf c hb).1
  done := by
    intro X hP hw hK hc i pins s σ H E I hf st hg
    subst hP hw hK
    obtain ⟨⟨old, he⟩, hit, hne⟩ := st
    obtain ⟨xs, hq, hx⟩ := hg
    obtain ⟨its, rv, p, _⟩ := sqK_val I hq
    have hl := rv.length
    have hn : its.toArray[i]? = none := by simp; omega
    obtain ⟨f0, f1, f2, f3, f4, f5⟩ := hf it (by simp)
    exact wpAny_pyNext_enum_endD (endK (by simp [I.ok.hd hc]) b it a its.toArray i hn) he ⟨rfl, hit, p⟩ fun h' eb => ⟨rfl, I.turned (t' := s.toks) (fun c o hb q => eb c o hb q) f0 f1 f3 f4 f5⟩
  self := fun A i s Q E st h => let ⟨⟨_, he⟩, _⟩ := st; wpAny_pyIter_enum he h
def iEnumT (K : PySem.W.Frag) (ta : TA) : TI := fun σ H R => ta σ H fun vs H1 => ∃ b a xs, vs = [.ref a] ∧ SqK b K H1 a xs ∧ R (IteK b K a) H1
theorem pi_enumK {X : Cx} {e : Expr} {ta : TA} {p pos tpos : Pos} {elts : List Expr} {kk : Nat} (hg : Gl X "enumerate") (hm : X.mg "enumerate" = none) (ha : PA X [e] ta) (hs : starEach [e] X.env = [(false, eval e X.env)] := by rfl) :
    PI X (.Tuple elts kk tpos) (.Call (.Name "enumerate" p) [e] [] pos) (iEnumT X.K ta) := by
  refine ⟨fun pins s σ H R I h => ?_⟩
  refine Call_ (ld_blt I hg hm boot_enumerate (PyProof.Rows.callWith_type1 (thn (ha.run pos pins s σ H _ I h) fun us s1 ⟨vs, H1, I1, r1, q1⟩ => ?_) hs rfl))
  obtain ⟨b, a, xs, ex, hq, q⟩ := q1
  subst ex
  cases r1 with
  | cons r rr =>
    cases rr
    cases r
    obtain ⟨its, rv, pq, lt⟩ := sqK_val I1 hq
    refine call_enumK pq fun h' he hit hk => wpAny_pyIter_enum he ?_
    have I2 : L2.Inv X pins σ H1 { s1 with heap := h' } := I1.kept (t' := s1.toks) hk
    refine ⟨s1.heap.objs.size + 1, [s1.heap.objs.size + 1, s1.heap.objs.size], _, _, H1, rfl, I2, turn_enumK (e := s1.heap.objs.size + 1) (it := s1.heap.objs.size) (Nat.ne_of_lt (Nat.lt_succ_of_lt lt)) (Nat.ne_of_lt lt), ⟨⟨.none, he⟩, hit, Nat.succ_ne_self _⟩, fun c hb => ?_, q⟩
    have hle : s1.heap.objs.size ≤ c := by
      rcases List.mem_cons.mp hb with z | z
      · rw [z]
        exact Nat.le_succ _
      · rw [List.mem_singleton.mp z]
        exact Nat.le_refl _
    exact I1.fpOk hle (I1.hok.fresh hle)
def iEnum (a : DEnv → M (List D)) : DEnv → M Src := fun e => do
  let xs ← a e
  match xs with
    | [x] => do let s ← srcD x; pure ⟨enumT s.items, s.gd⟩
    | _ => M.bad
section
variable {k : Kx} {X : Cx} {E : XK} {pos : Pos}
theorem iteK_ok {G : Hp} {L : Lam} {s : Src} {a : Addr} {b : Bool} (h1 : Stand k X.K G L s a b) : ItOk k X.K G L (IteK b X.K a) ⟨enumT s.items, s.gd⟩ := by
  intro G2 H2 L2 μ ge le w ok i
  obtain ⟨vs, hs, ra⟩ := stand_K h1 G2 H2 L2 μ ge le w ok
  refine ⟨fun d hd => ?_, fun hl => ⟨vs, hs, by rw [enumT_len] at hl; rw [ra.len]; exact hl⟩⟩
  obtain ⟨dx, e1, rfl⟩ := enumT_get hd
  obtain ⟨v, hv, rv⟩ := ra.get e1
  refine ⟨⟨vs, v, hs, hv⟩, fun x H3 y => ?_⟩
  obtain ⟨T, x', rfl, hT, rfl, q1⟩ := y
  have z1 := q1 vs hs
  rw [hv] at z1
  cases z1
  exact two_new w hT (.int _) rv
theorem ji_enumK {a : Expr} {ms : DEnv → M (List D)} {p tpos : Pos} {elts : List Expr} {kk : Nat} (hg : Gl X "enumerate") (hm : X.mg "enumerate" = none) (ha : JA k X E [a] ms) (hs : starEach [a] X.env = [(false, eval a X.env)] := by rfl) :
    JI k X E (.Tuple elts kk tpos) (.Call (.Name "enumerate" p) [a] [] pos) (iEnum ms) := by
  refine PI.imp (pi_enumK hg hm ha hs) fun s H R h => ?_
  obtain ⟨e, G, L, μ, sg, w, gd⟩ := h
  refine ⟨e, G, L, μ, sg, w, Good.mono (Good.bind gd) fun ds m1 G1 H1 L1 st1 w1 q1 vs r => ?_⟩
  match ds, r, q1 with
  | [], _, q1 => exact False.elim q1
  | [x], r, q1 =>
    obtain ⟨v, rfl, r1⟩ := one_of (H := H1) r
    obtain ⟨a, s, rfl, ⟨va, hva⟩, sa, q1⟩ := src_atK (f := fun s => (pure ⟨enumT s.items, s.gd⟩ : M Src)) r1 w1 q1
    exact ⟨notTup x, a, va, rfl, hva, Good.ret q1 w1 _ (iteK_ok sa)⟩
  | x :: _ :: _, _, q1 => exact False.elim q1
end
end DL
namespace DL
open PySem L2
section
variable {α β : Type}
@[simp] theorem thn_exn (c : Nat) (fs : List D) (m : Store) (f : α → Store → Res β) : (Res.exn c fs m : Res α).thn f = .exn c fs m := (rfl)
@[simp] theorem exn_ap (c : Nat) (fs : List D) (m : Store) : (M.exn c fs : M α) m = .exn c fs m := (rfl)
end
variable (e : DEnv) (m : Store)
@[simp] theorem sRaise_ap (c : Nat) (a : DEnv → M D) : sRaise c a e m = (a e m).thn fun x m1 => .exn c [x] m1 := by simp [sRaise]
@[simp] theorem pNone_ap : pNone e m = .ok none m := (rfl)
theorem pSome_int {a : DEnv → M D} {i : Int} {m1 : Store} (h : a e m = .ok (.int i) m1) : pSome a e m = .ok (some i) m1 := by simp [pSome, h]
@[simp] theorem eSlice_ap (a : DEnv → M D) (lo hi : DEnv → M (Option Int)) : eSlice a lo hi e m = (a e m).thn fun x m1 => (lo e m1).thn fun l m2 => (hi e m2).thn fun h m3 => sliceD x l h m3 := by simp [eSlice]
@[simp] theorem slice_tup (ds : List D) (lo hi : Option Int) : sliceD (.tup ds) lo hi m = .ok (.tup (cutD ds lo hi)) m := (rfl)
@[simp] theorem slice_lst (ds : List D) (lo hi : Option Int) : sliceD (.lst ds) lo hi m = .ok (.lst (cutD ds lo hi)) m := (rfl)
theorem cut_to (ds : List D) (n : Nat) : cutD ds none (some (n : Int)) = ds.take n := by
  unfold cutD
  rw [HT.sIx_nat]
  show (ds.drop 0).take (min n ds.length - 0) = _
  simp [List.take_eq_take_iff]
theorem cut_from (ds : List D) (n : Nat) : cutD ds (some (n : Int)) none = ds.drop n := by
  unfold cutD
  rw [HT.sIx_nat]
  show (ds.drop (min n ds.length)).take (ds.length - min n ds.length) = _
  by_cases h : n ≤ ds.length
  · rw [Nat.min_eq_left h, List.take_of_length_le (by simp)]
  · have h' : ds.length ≤ n := by omega
    rw [Nat.min_eq_right h', List.drop_length, List.drop_eq_nil_of_le h']
    simp
@[simp] theorem isi_non (cs : List Nat) (t : Ty) : isiD cs t .non m = .ok (.bl (isK t .non)) m := (rfl)
@[simp] theorem isi_str (cs : List Nat) (t : Ty) (x : Str) : isiD cs t (.str x) m = .ok (.bl (isK t .str)) m := (rfl)
@[simp] theorem isi_dct (cs : List Nat) (t : Ty) (ks : List Key) (x : List D) : isiD cs t (.dct ks x) m = .ok (.bl (isK t .dct)) m := (rfl)
theorem ne_self {d : D} {x : PyData} (h : topPD d m = some x) (hs : SeqAt.shaped x = true) : neD d d m = .ok (.bl false) m := by
  simp [neD, onPD, h, hs, SeqAt.eqv_refl x (SeqAt.canLay_of_shaped hs)]
@[simp] theorem eMeth_ap (tab : MTab) (o : DEnv → M D) (as : DEnv → M (List D)) : eMeth tab o as e m = (o e m).thn fun x m1 => (clsM x m1).thn fun c m2 => (methOf tab c m2).thn fun q m3 => (as e m3).thn fun ds m4 => callN q.1 q.2 (x :: ds) m4 := by simp [eMeth]
@[simp] theorem clsM_obj (c : Nat) (ds : List D) : clsM (.obj c ds) m = .ok c m := (rfl)
@[simp] theorem methOf_hd (c : Nat) (q : Nat × (List D → M D)) (tab : MTab) : methOf ((c, q) :: tab) c m = .ok q m := by simp [methOf, List.lookup]
theorem compL_flt {α : Type} {src : List D} {g : D → DEnv → M DEnv} {t : DEnv → M Bool} {elt : DEnv → M D} {e : DEnv} {m : Store} {h f : α → D} {p : α → Bool} : ∀ (xs : List α), (∀ x ∈ xs, ∃ e1, g (h x) e m = .ok e1 m ∧ t e1 m = .ok (p x) m ∧ (p x = true → elt e1 m = .ok (f x) m)) →
    compL ⟨src, []⟩ g t elt e (xs.map h) m = .ok ((xs.filter p).map f) m
  | [], _ => by simp [compL]
  | d :: ds, q => by
    obtain ⟨e1, h1, h2, h3⟩ := q d (by simp)
    have ih := compL_flt (src := src) (g := g) (t := t) (elt := elt) (e := e) (m := m) (h := h) (f := f) (p := p) ds fun x hx => q x (by simp [hx])
    cases hp : p d with
    | true => simp [compL, noX, h1, h2, h3 hp, ih, hp]
    | false => simp [compL, noX, h1, h2, ih, hp]
theorem eComp_flt {α : Type} {it : DEnv → M Src} {g : D → DEnv → M DEnv} {t : DEnv → M Bool} {elt : DEnv → M D} {vs : List Nat} {e : DEnv} {m : Store} {xs : List α} {h f : α → D} {p : α → Bool} (hi : it e m = .ok ⟨xs.map h, []⟩ m) (hl : xs.length ≤ 100000)
    (q : ∀ x ∈ xs, ∃ e1, g (h x) (wipeD e vs) m = .ok e1 m ∧ t e1 m = .ok (p x) m ∧ (p x = true → elt e1 m = .ok (f x) m)) : eComp it g t elt vs e m = .ok (.lst ((xs.filter p).map f)) m := by
  simp [eComp, compM, hi, sizeOk, hl, compL_flt xs q]
theorem iEnum_ap (as : DEnv → M (List D)) {x : D} {m1 : Store} {xs : List D} (h : as e m = .ok [x] m1) (h1 : srcD x m1 = .ok ⟨xs, []⟩ m1) : iEnum as e m = .ok ⟨enumT xs, []⟩ m1 := by
  simp [iEnum, h, h1]
end DL
namespace DL
open PySem L2 PyProof.Rows
section
variable {k : Kx} {X : Cx} {E : XK}
def gSlot (K : PySem.W.Frag) (ta : TE) (f : Str) : TG := fun v σ H Q => ta σ H fun x H1 => ∃ a C dx p vs i, x = .ref a ∧ SlX.Slt H1 a C dx vs ∧ SlX.SCls K C ∧ SlX.Slot1 K C f p i ∧ Q σ (SlX.slH H1 a C dx (SlX.putS i v vs))
theorem pg_slot {o : Expr} {ta : TE} {f : Str} {pos : Pos} (ho : PE X o ta) (ha : ∀ v, assign (.Attribute o f pos) X.env v = (do
      let ov ← holding [v] (eval o X.env)
      standAt pos.atName
      holding [v, ov] (setAttr ov f v)
      release [v, ov] []) := by intro _; rfl) : PG X (.Attribute o f pos) (gSlot X.K ta f) := by
  refine ⟨fun pins s σ H v u Q I r h => ?_⟩
  rw [ha]
  refine wpAny_bind (wpAny_holding (thn (ho.run pins s σ H _ I h) fun ov s1 ⟨x, H1, I1, r1, a, C, dx, p, vs, i, ex, hsl, c, t, q⟩ => ?_))
  subst ex
  obtain rfl : ov = Value.ref a := r1
  refine wpAny_bind (wpAny_standAt (wpAny_bind (wpAny_holding (SlX.setslot_ok I1 hsl c t r fun s3 I3 => ?_))))
  exact wpAny_release ⟨σ, _, I3, q⟩
def gAt (tab : List (Nat × Nat)) (mo : DEnv → M D) : D → DEnv → M DEnv := fun d e => do let y ← mo e; setAtT tab y d; pure e
theorem jg_attr {o : Expr} {mo : DEnv → M D} {f : Str} {pos : Pos} {tab : List (Nat × Nat)} (F : SlAll k X f tab) (ho : JE k X E o mo) (ha : ∀ v, assign (.Attribute o f pos) X.env v = (do
      let ov ← holding [v] (eval o X.env)
      standAt pos.atName
      holding [v, ov] (setAttr ov f v)
      release [v, ov] []) := by intro _; rfl) : JG k X E (.Attribute o f pos) [] (gAt tab mo) := by
  refine PG.imp (pg_slot ho ha) fun v s H Q h => ?_
  obtain ⟨d, e, G, L, μ, sg, r, w, gd⟩ := h
  refine ⟨e, G, L, μ, sg, w, Good.mono (Good.bind gd) fun d2 m2 G2 H2 L2 st2 w2 q2 x2 r2 => ?_⟩
  have sg2 := sg.mono st2.g st2.l
  obtain ⟨a, c, dx, vs, i, m', rfl, ht, hsl, st3, w3, q3⟩ := setAt_good r2 (Rp.mono st2.g st2.l _ _ r) w2 q2
  obtain ⟨sc, p, sp⟩ := slAll_of F ht
  exact ⟨a, k.cl c, dx, p, vs, i, rfl, hsl, sc, sp, Good.up q3 st3 _ _ _ (Stp.refl _ _ _) w3 _ (sg2.mono st3.g st3.l) ⟨rfl, fun _ _ => rfl⟩⟩
end
end DL
namespace DL
open PySem L2 PyProof.Rows
end DL
namespace DL
open PySem L2 PyProof.Rows
theorem u1 {u c : Nat} (h : u + 64 < c) : u + 1 < c := by omega
def keyDD : Key → D
  | .inl i => .int i
  | .inr x => .str x
def dGetD (ks : List Key) (ds : List D) (x : Key) : Option D := ((ks.zip ds).find? fun p => decide (p.1 = x)).map (·.2)
def dPutD (ks : List Key) (ds : List D) (x : Key) (d : D) : List Key × List D := if (ks.any fun y => decide (y = x)) = true then (ks, (ks.zip ds).map fun p => if p.1 = x then d else p.2) else (ks ++ [x], ds ++ [d])
section
variable {k : Kx} {K : PySem.W.Frag} {G H : Hp} {L : Lam} {m : Store}
theorem dGet_rp : ∀ {ks : List Key} {vs : List V} {ds : List D} (x : Key), ks.length = vs.length → RpA k K G L vs ds →
    (∀ d, dGetD ks ds x = some d → ∃ v, valV (ks.zip vs) x = some v ∧ Rp k K G L v d) ∧ (dGetD ks ds x = none → valV (ks.zip vs) x = none)
  | [], _, _, x, _, r => ⟨fun d e => by simp [dGetD] at e, fun _ => rfl⟩
  | y :: ks, [], _, x, hl, r => by simp at hl
  | y :: ks, v :: vs, _, x, hl, r => by
    cases r with
    | @cons _ _ d ds r1 r2 =>
      obtain ⟨h1, h2⟩ := dGet_rp (ks := ks) x (by simpa using hl) r2
      by_cases e : y = x
      · have a : dGetD (y :: ks) (d :: ds) x = some d := by simp [dGetD, e]
        have b : valV ((y :: ks).zip (v :: vs)) x = some v := by simp [valV, e]
        rw [a, b]
        refine ⟨fun d' z => ?_, fun z => by cases z⟩
        cases z
        exact ⟨v, rfl, r1⟩
      · have a : dGetD (y :: ks) (d :: ds) x = dGetD ks ds x := by simp [dGetD, e]
        have b : valV ((y :: ks).zip (v :: vs)) x = valV (ks.zip vs) x := by simp [valV, e]
        rw [a, b]
        exact ⟨h1, h2⟩
theorem zip_put : ∀ {ks : List Key} {vs : List V} (x : Key) (v : V), ks.length = vs.length → (ks.zip vs).map (fun kv => if kv.1 = x then (kv.1, v) else kv) = ks.zip ((ks.zip vs).map fun p => if p.1 = x then v else p.2)
  | [], _, x, v, _ => rfl
  | y :: ks, [], x, v, hl => by simp at hl
  | y :: ks, u :: vs, x, v, hl => by
    have := zip_put (ks := ks) (vs := vs) x v (by simpa using hl)
    simp only [List.zip_cons_cons, List.map_cons, this]
    by_cases e : y = x <;> simp [e]
theorem rpA_put : ∀ {ks : List Key} {vs : List V} {ds : List D} (x : Key) {v : V} {d : D}, ks.length = vs.length → RpA k K G L vs ds → Rp k K G L v d →
    RpA k K G L ((ks.zip vs).map fun p => if p.1 = x then v else p.2) ((ks.zip ds).map fun p => if p.1 = x then d else p.2)
  | [], _, _, x, _, _, _, _, _ => .nil
  | y :: ks, [], _, x, _, _, hl, r, _ => by simp at hl
  | y :: ks, u :: vs, _, x, v, d, hl, r, q => by
    cases r with
    | cons r1 r2 =>
      have := rpA_put (ks := ks) x (by simpa using hl) r2 q
      simp only [List.zip_cons_cons, List.map_cons]
      refine .cons ?_ this
      by_cases e : y = x
      · simp [e]; exact q
      · simp [e]; exact r1
theorem any_zip : ∀ {ks : List Key} {vs : List V} (x : Key), ks.length = vs.length → ((ks.zip vs).any fun kv => decide (kv.1 = x)) = ks.any fun y => decide (y = x)
  | [], _, x, _ => rfl
  | y :: ks, [], x, hl => by simp at hl
  | y :: ks, u :: vs, x, hl => by
    have := any_zip (ks := ks) (vs := vs) x (by simpa using hl)
    simp only [List.zip_cons_cons, List.any_cons, this]
theorem dPut_rp {ks : List Key} {vs : List V} {ds : List D} {x : Key} {v : V} {d : D} (hl : ks.length = vs.length) (r : RpA k K G L vs ds) (q : Rp k K G L v d) :
    ∃ ws, putK (ks.zip vs) x v = (dPutD ks ds x d).1.zip ws ∧ (dPutD ks ds x d).1.length = ws.length ∧ RpA k K G L ws (dPutD ks ds x d).2 := by
  unfold putK dPutD
  rw [any_zip x hl]
  by_cases e : (ks.any fun y => decide (y = x)) = true
  · simp only [e, if_true]
    exact ⟨_, zip_put x v hl, by simp [hl], rpA_put x hl r q⟩
  · simp only [e, if_false, Bool.false_eq_true]
    exact ⟨vs ++ [v], by rw [List.zip_append hl]; rfl, by simp [hl], r.append (.cons q .nil)⟩
theorem nt_dK (kvs : List (Key × V)) : NT (.dK kvs) := fun _ z => (by cases z)
theorem Wd.newDct (w : Wd k K G H L m) {p : Addr} (h : H p = none) : Wd k K G (upd H p (.dK [])) (L ++ [(p, p)]) (m ++ [some (.dct [] [])]) := by
  have w1 := w.newLoc (p := p) (vs := []) (ds := []) h .nil
  have old : ∀ {b : Addr}, b ≠ p → upd H p (.dK []) b = upd H p (.lst []) b := fun {b} hb => by rw [upd_ne hb, upd_ne hb]
  refine ⟨fun b u e => ?_, by rw [w1.len]; simp, fun q hq => ?_, tabs_upd w.tab (nc_none h), w.gt, fun n c e => ?_, fun i j a b a' b' li lj => ?_⟩
  · have hb : b ≠ p := fun z => by
      rw [z, w.gnone h] at e
      cases e
    rw [old hb]
    exact w1.ext b u e
  · obtain ⟨⟨o1, a1, b1⟩, ⟨o2, a2, b2⟩⟩ := w1.tk q hq
    refine ⟨?_, ?_⟩
    · by_cases z : q.1 = p
      · exact ⟨.dK [], by rw [z, upd_same], nt_dK []⟩
      · exact ⟨o1, by rw [old z]; exact a1, b1⟩
    · by_cases z : q.2 = p
      · exact ⟨.dK [], by rw [z, upd_same], nt_dK []⟩
      · exact ⟨o2, by rw [old z]; exact a2, b2⟩
  · by_cases hn : n < m.length
    · rw [List.getElem?_append_left hn] at e
      obtain ⟨a, b, hl, ga, gb, r'⟩ := w.cell n c e
      obtain ⟨⟨oa, ha⟩, ⟨ob, hb⟩⟩ := r'.addr
      exact ⟨a, b, pre_get (List.prefix_append _ _) hl, ga, gb, r'.step (Same.refl G) (List.prefix_append _ _) (upd_ne (ne_of_none ha h)) (upd_ne (ne_of_none hb h))⟩
    · have h1 := (List.getElem?_eq_some_iff.mp e).1
      simp at h1
      have e0 : n = m.length := by omega
      subst e0
      simp at e
      subst e
      exact ⟨p, p, by rw [← w.len]; simp, w.gnone h, w.gnone h, rfl, [], upd_same, rfl, .nil⟩
  · refine w1.apart i j a b a' b' ?_ ?_
    · rcases live_app li with z | z
      · obtain ⟨c, hc⟩ := z
        exact ⟨c, by rw [List.getElem?_append_left (List.getElem?_eq_some_iff.mp hc).1]; exact hc⟩
      · exact ⟨.lst [], by rw [z]; simp⟩
    · rcases live_app lj with z | z
      · obtain ⟨c, hc⟩ := z
        exact ⟨c, by rw [List.getElem?_append_left (List.getElem?_eq_some_iff.mp hc).1]; exact hc⟩
      · exact ⟨.lst [], by rw [z]; simp⟩
theorem Wd.lookD (w : Wd k K G H L m) {n : Nat} {ks : List Key} {ds : List D} (hn : m[n]? = some (some (.dct ks ds))) {v : V} (r : Rp k K G L v (.loc n)) : ∃ a vs, v = .ref a ∧ L[n]? = some (a, a) ∧ G a = none ∧ H a = some (.dK (ks.zip vs)) ∧ ks.length = vs.length ∧ RpA k K G L vs ds := by
  obtain ⟨a0, b0, hl0, ga, gb, rfl, vs, h, q⟩ := w.cell n _ hn
  cases r with
  | loc hl =>
    rw [hl] at hl0
    cases hl0
    exact ⟨_, vs, rfl, hl, ga, h, q⟩
theorem Wd.setDct (w : Wd k K G H L m) {n : Nat} {a : Addr} {ks' ks : List Key} {vs : List V} {ds' ds : List D} (hn : m[n]? = some (some (.dct ks' ds'))) (hl : L[n]? = some (a, a)) (he : ks.length = vs.length) (r : RpA k K G L vs ds) : Wd k K G (upd H a (.dK (ks.zip vs))) L (m.set n (some (.dct ks ds))) := by
  obtain ⟨a0, b0, hl0, ga, gb, r0⟩ := w.cell n _ hn
  rw [hl] at hl0
  cases hl0
  obtain ⟨_, vs0, h0, _⟩ := id r0
  refine ⟨fun c u e => ?_, by rw [List.length_set]; exact w.len, fun q hq => ⟨nt_upd (nt_dK _) (w.tk q hq).1, nt_upd (nt_dK _) (w.tk q hq).2⟩, tabs_upd w.tab (nc_at h0 (nc_dK _)), w.gt, fun i c e => ?_, fun i j a b a' b' li lj => w.apart i j a b a' b' (live_set hn li) (live_set hn lj)⟩
  · have : c ≠ a := fun z => by
      rw [z, ga] at e
      cases e
    rw [upd_ne this]
    exact w.ext c u e
  · by_cases hi : n = i
    · subst hi
      rw [List.getElem?_set_self (List.getElem?_eq_some_iff.mp hn).1] at e
      cases e
      exact ⟨a, a, hl, ga, ga, rfl, vs, upd_same, he, r⟩
    · rw [List.getElem?_set_ne hi] at e
      obtain ⟨a', b', hl', ga', gb', r'⟩ := w.cell i c e
      obtain ⟨n1, n2, n3, n4⟩ := w.apart i n a' b' a a ⟨c, e⟩ ⟨_, hn⟩ (Ne.symm hi) hl' hl
      exact ⟨a', b', hl', ga', gb', r'.step (Same.refl G) (pre_refl L) (upd_ne n1) (upd_ne n3)⟩
theorem nt_frz (o : Obj) (kvs : List (Key × V)) : NT (.frz o (.dK kvs)) := fun _ z => (by cases z)
/-- a dict that is done: locked, from now on data -/
theorem Wd.freezeD (w : Wd k K G H L m) {n : Nat} {a : Addr} {ks : List Key} {ds : List D} {o : Obj} {kvs kvs' : List (Key × V)} (hn : m[n]? = some (some (.dct ks ds))) (hl : L[n]? = some (a, a)) (h : H a = some (.dK kvs')) : Wd k K (upd G a (.frz o (.dK kvs))) (upd H a (.frz o (.dK kvs))) L (m.set n none) := by
  obtain ⟨a0, b0, hl0, ga, gb, r0⟩ := w.cell n _ hn
  rw [hl] at hl0
  cases hl0
  refine ⟨fun c u e => ?_, by rw [List.length_set]; exact w.len, fun q hq => ⟨nt_upd (nt_frz _ _) (w.tk q hq).1, nt_upd (nt_frz _ _) (w.tk q hq).2⟩, tabs_upd w.tab (nc_at h (nc_dK _)), gt_upd (nt_frz _ _) w.gt, fun i c e => ?_, fun i j a b a' b' li lj => w.apart i j a b a' b' (live_kill li).1 (live_kill lj).1⟩
  · by_cases hc : c = a
    · subst hc
      rw [upd_same] at e
      cases e
      exact upd_same
    · rw [upd_ne hc] at e
      rw [upd_ne hc]
      exact w.ext c u e
  · have hni : n ≠ i := fun z => (live_kill ⟨c, e⟩).2 z.symm
    rw [List.getElem?_set_ne hni] at e
    obtain ⟨a', b', hl', ga', gb', r'⟩ := w.cell i c e
    obtain ⟨n1, n2, n3, n4⟩ := w.apart i n a' b' a a ⟨c, e⟩ ⟨_, hn⟩ (Ne.symm hni) hl' hl
    exact ⟨a', b', hl', by rw [upd_ne n1]; exact ga', by rw [upd_ne n3]; exact gb', r'.step (Same.new ga) (pre_refl L) (upd_ne n1) (upd_ne n3)⟩
theorem freezeDS {n : Nat} {a b : Addr} {o o' : HO} (hl : L[n]? = some (a, b)) (ga : G a = none) (h : H a = some o') (no : NT o) : Stp G H L (upd G a o) (upd H a o) L where
  g := fun c u e => by rw [upd_ne (ne_of_none e ga)]; exact e
  l := pre_refl L
  tr := fun x e => bare_at no e
  keep := fun x u e nt ne => by
    have hx : x ≠ a := (ne (a, b) (List.mem_of_getElem? hl)).1
    rw [upd_ne hx, upd_ne hx]
    exact ⟨e, id⟩
  nl := fun q hq => .inl hq
end
section
variable {k : Kx} {X : Cx} {E : XK}
def eDNew : DEnv → M D := fun _ m => .ok (.loc m.length) (m ++ [some (.dct [] [])])
theorem j_dnew {pos : Pos} : JE k X E (.Dict [] [] pos) eDNew := by
  refine PE.imp pe_dnewK fun s H Q h => ?_
  obtain ⟨e, G, L, μ, sg, w, gd⟩ := h
  intro p hp
  exact gd _ _ _ (newLocS hp) (w.newDct hp) _ (.loc (a := p) (b := p) (by rw [← w.len]; simp))
/-- d[y] = v -/
def setK (o i v : D) : M Unit := fun m => match o with
  | .loc n => match m[n]?, keyD i with
    | some (some (.dct ks ds)), some x => if ks.length < 100000 then .ok () (m.set n (some (.dct (dPutD ks ds x v).1 (dPutD ks ds x v).2))) else .bad
    | _, _ => .bad
  | _ => .bad
def sSetK (o i v : DEnv → M D) : DEnv → M Out := fun e => do let x ← v e; let y ← o e; let z ← i e; setK y z x; pure (.nx e)
theorem key_rp {G : Hp} {L : Lam} {d : D} {v : V} {x : Key} (r : Rp k X.K G L v d) (h : keyD d = some x) : v = kV x := by
  cases d with
  | int i => cases r; cases h; rfl
  | str z => cases r; cases h; rfl
  | _ => cases h
theorem setK_good {β : Type} {o i v : D} {x y : V} {u : V} {f : Unit → M β} {G H : Hp} {L : Lam} {μ : Store} {Q : β → Store → Hp → Hp → Lam → Prop} (ro : Rp k X.K G L x o) (ri : Rp k X.K G L y i) (rv : Rp k X.K G L u v) (w : Wd k X.K G H L μ) (g : Good k X.K E G H L ((setK o i v >>= f) μ) Q) :
    ∃ p H' m', x = .ref p ∧ DPut H p y u H' ∧ Stp G H L G H' L ∧ Wd k X.K G H' L m' ∧ Good k X.K E G H L (f () m') Q := by
  have g' : Good k X.K E G H L (M.bind (setK o i v) f μ) Q := g
  unfold M.bind setK at g'
  cases o with
  | loc n =>
    simp only at g'
    cases hm : μ[n]? with
    | none => rw [hm] at g'; exact False.elim g'
    | some c =>
      cases c with
      | none => rw [hm] at g'; exact False.elim g'
      | some c =>
        cases c with
        | ins _ _ => rw [hm] at g'; exact False.elim g'
        | lst _ => rw [hm] at g'; exact False.elim g'
        | dct ks ds =>
          rw [hm] at g'
          cases hk : keyD i with
          | none => rw [hk] at g'; exact False.elim g'
          | some z =>
            rw [hk] at g'
            simp only at g'
            by_cases hz : ks.length < 100000
            · rw [if_pos hz] at g'
              have ey := key_rp ri hk
              subst ey
              obtain ⟨a, vs, rfl, hl, ga, h, he, ra⟩ := w.lookD hm ro
              obtain ⟨ws, e1, e2, e3⟩ := dPut_rp (x := z) he ra rv
              refine ⟨a, upd H a (.dK (putK (ks.zip vs) z u)), _, rfl, DPut.k h (by rw [List.length_zip]; exact lt_size (by omega)), setLocS hl h, ?_, g'⟩
              rw [e1]
              exact w.setDct hm hl e2 e3
            · rw [if_neg hz] at g'
              exact False.elim g'
  | _ => exact False.elim g'
theorem js_setK {o i v : Expr} {mo mi mv : DEnv → M D} {pos pos' : Pos} (hu : X.A.units + 1 < cLine) (hv : JE k X E v mv) (ho : JE k X E o mo) (hi : JE k X E i mi) (hs : swapsWith v (some (.Subscript o i pos')) pos.line X.env = pure false := by rfl) :
    JS k X E (.Assign [.Subscript o i pos'] v pos) (sSetK mo mi mv) := by
  refine PS.imp (ps_dput hu ho hi hv hs) fun Ds s H h => ?_
  obtain ⟨e, G, L, μ, sg, w, gd⟩ := h
  refine ⟨e, G, L, μ, sg, w, Good.mono (Good.bind gd) fun d1 m1 G1 H1 L1 st1 w1 q1 x1 r1 => ?_⟩
  have sg1 := sg.mono st1.g st1.l
  refine ⟨e, G1, L1, m1, sg1, w1, Good.mono (Good.bind q1) fun d2 m2 G2 H2 L2 st2 w2 q2 x2 r2 => ?_⟩
  have sg2 := sg1.mono st2.g st2.l
  refine ⟨e, G2, L2, m2, sg2, w2, Good.mono (Good.bind q2) fun d3 m3 G3 H3 L3 st3 w3 q3 x3 r3 => ?_⟩
  have sg3 := sg2.mono st3.g st3.l
  obtain ⟨p, H', m', rfl, dp, st4, w4, q4⟩ := setK_good (Rp.mono st3.g st3.l _ _ r2) r3 (Rp.mono st3.g st3.l _ _ (Rp.mono st2.g st2.l _ _ r1)) w3 q3
  exact ⟨p, H', rfl, dp, Good.up q4 st4 _ _ _ (Stp.refl _ _ _) w4 _ (sg3.mono st4.g st4.l)⟩
/-- d.get(y, z) -/
def isDct (o : D) : M Unit := fun m => match o with
  | .loc n => match m[n]? with
    | some (some (.dct _ _)) => .ok () m
    | _ => .bad
  | .fdc _ _ => .ok () m
  | _ => .bad
def dctD (o i : D) : M (Option D) := fun m => match o with
  | .loc n => match m[n]?, keyD i with
    | some (some (.dct ks ds)), some x => .ok (dGetD ks ds x) m
    | _, _ => .bad
  | .fdc ks ds => match keyD i with
    | some x => .ok (dGetD ks ds x) m
    | _ => .bad
  | _ => .bad
def eGet2 (o i z : DEnv → M D) : DEnv → M D := fun e => do let x ← o e; isDct x; let y ← i e; let d ← z e; let r ← dctD x y; pure (r.getD d)
theorem dctD_good {β : Type} {o i : D} {x y : V} {f : Option D → M β} {G H : Hp} {L : Lam} {μ : Store} {Q : β → Store → Hp → Hp → Lam → Prop} (ro : Rp k X.K G L x o) (ri : Rp k X.K G L y i) (w : Wd k X.K G H L μ) (g : Good k X.K E G H L ((dctD o i >>= f) μ) Q) :
    ∃ a od ov, x = .ref a ∧ DGet H a y ov ∧ (∀ d, od = some d → ∃ v, ov = some v ∧ Rp k X.K G L v d) ∧ (od = none → ov = none) ∧ Good k X.K E G H L (f od μ) Q := by
  have g' : Good k X.K E G H L (M.bind (dctD o i) f μ) Q := g
  unfold M.bind dctD at g'
  cases o with
  | loc n =>
    simp only at g'
    cases hm : μ[n]? with
    | none => rw [hm] at g'; exact False.elim g'
    | some c =>
      cases c with
      | none => rw [hm] at g'; exact False.elim g'
      | some c =>
        cases c with
        | ins _ _ => rw [hm] at g'; exact False.elim g'
        | lst _ => rw [hm] at g'; exact False.elim g'
        | dct ks ds =>
          rw [hm] at g'
          cases hk : keyD i with
          | none => rw [hk] at g'; exact False.elim g'
          | some z =>
            rw [hk] at g'
            have ey := key_rp ri hk
            subst ey
            obtain ⟨a, vs, rfl, hl, ga, h, he, ra⟩ := w.lookD hm ro
            obtain ⟨h1, h2⟩ := dGet_rp z he ra
            exact ⟨a, _, _, rfl, DGet.k h, h1, h2, g'⟩
  | fdc ks ds =>
    simp only at g'
    cases hk : keyD i with
    | none => rw [hk] at g'; exact False.elim g'
    | some z =>
      rw [hk] at g'
      have ey := key_rp ri hk
      subst ey
      cases ro with
      | @fdc _ a o vs _ hs he ra =>
        obtain ⟨h1, h2⟩ := dGet_rp z he ra
        exact ⟨a, _, _, rfl, .inl ⟨_, z, .inr ⟨o, w.ext _ _ hs⟩, rfl, rfl⟩, h1, h2, g'⟩
  | _ => exact False.elim g'
theorem isDct_good {β : Type} {o : D} {x : V} {f : Unit → M β} {G H : Hp} {L : Lam} {μ : Store} {Q : β → Store → Hp → Hp → Lam → Prop} (ro : Rp k X.K G L x o) (w : Wd k X.K G H L μ) (g : Good k X.K E G H L ((isDct o >>= f) μ) Q) :
    ∃ a, x = .ref a ∧ IsD H a ∧ Good k X.K E G H L (f () μ) Q := by
  have g' : Good k X.K E G H L (M.bind (isDct o) f μ) Q := g
  unfold M.bind isDct at g'
  cases o with
  | loc n =>
    simp only at g'
    cases hm : μ[n]? with
    | none => rw [hm] at g'; exact False.elim g'
    | some c =>
      cases c with
      | none => rw [hm] at g'; exact False.elim g'
      | some c =>
        cases c with
        | ins _ _ => rw [hm] at g'; exact False.elim g'
        | lst _ => rw [hm] at g'; exact False.elim g'
        | dct ks ds =>
          rw [hm] at g'
          obtain ⟨a, vs, rfl, hl, ga, h, he, ra⟩ := w.lookD hm ro
          exact ⟨a, rfl, .inl ⟨_, .inl h⟩, g'⟩
  | fdc ks ds =>
    cases ro with
    | @fdc _ a o vs _ hs he ra => exact ⟨a, rfl, .inl ⟨_, .inr ⟨o, w.ext _ _ hs⟩⟩, g'⟩
  | _ => exact False.elim g'
theorem j_get2 {o e f : Expr} {mo me mf : DEnv → M D} {apos cpos : Pos} (hu : X.A.units + 1 < cLine) (ho : JE k X E o mo) (he : JE k X E e me) (hf : JE k X E f mf) (m : M2 X o "get" apos e f cpos := by exact ⟨rfl, rfl, rfl, rfl⟩) :
    JE k X E (.Call (.Attribute o "get" apos) [e, f] [] cpos) (eGet2 mo me mf) := by
  refine PE.imp (pe_dget2 hu ho he hf m) fun s H Q h => ?_
  obtain ⟨e, G, L, μ, sg, w, gd⟩ := h
  refine ⟨e, G, L, μ, sg, w, Good.mono (Good.bind gd) fun d1 m1 G1 H1 L1 st1 w1 q1 x1 r1 => ?_⟩
  have sg1 := sg.mono st1.g st1.l
  obtain ⟨a, rfl, isd, q1⟩ := isDct_good r1 w1 q1
  refine ⟨a, rfl, isd, e, G1, L1, m1, sg1, w1, Good.mono (Good.bind q1) fun d2 m2 G2 H2 L2 st2 w2 q2 x2 r2 => ?_⟩
  have sg2 := sg1.mono st2.g st2.l
  refine ⟨e, G2, L2, m2, sg2, w2, Good.mono (Good.bind q2) fun d3 m3 G3 H3 L3 st3 w3 q3 x3 r3 => ?_⟩
  obtain ⟨a', od, ov, e1, dg, h1, h2, q4⟩ := dctD_good (Rp.mono st3.g st3.l _ _ (Rp.mono st2.g st2.l _ _ r1)) (Rp.mono st3.g st3.l _ _ r2) w3 q3
  cases e1
  refine ⟨ov, dg, ?_⟩
  cases od with
  | none =>
    rw [h2 rfl]
    exact Good.ret q4 w3 _ r3
  | some d =>
    obtain ⟨v, rfl, rv⟩ := h1 d rfl
    exact Good.ret q4 w3 _ rv
/-- d[y] -/
def ixK (o i : D) : M D := do let r ← dctD o i; match r with | some d => pure d | none => M.bad
theorem j_ixK {o i : Expr} {mo mi : DEnv → M D} {pos : Pos} (hu : X.A.units + 1 < cLine) (ho : JE k X E o mo) (hi : JE k X E i mi) (hs : NoSl i) : JE k X E (.Subscript o i pos) (eOp ixK mo mi) := by
  refine PE.imp (pe_dget hu ho hi hs) fun s H Q h => ?_
  obtain ⟨e, G, L, μ, sg, w, gd⟩ := h
  refine ⟨e, G, L, μ, sg, w, Good.mono (Good.bind gd) fun d1 m1 G1 H1 L1 st1 w1 q1 x1 r1 => ?_⟩
  refine ⟨e, G1, L1, m1, sg.mono st1.g st1.l, w1, Good.mono (Good.bind q1) fun d2 m2 G2 H2 L2 st2 w2 q2 x2 r2 => ?_⟩
  obtain ⟨a, od, ov, rfl, dg, h1, h2, q4⟩ := dctD_good (Rp.mono st2.g st2.l _ _ r1) r2 w2 q2
  cases od with
  | none => exact False.elim q4
  | some d =>
    obtain ⟨v, rfl, rv⟩ := h1 d rfl
    exact ⟨a, v, rfl, dg, Good.ret q4 w2 _ rv⟩
/-- y in d -/
def inK (y x : D) : M D := do let r ← dctD x y; pure (.bl r.isSome)
theorem op_inK (hu : X.A.units + 1 < cLine) : OpR X (compareOp .In) (fun y x H Q => ∃ a o, x = .ref a ∧ DGet H a y o ∧ Q (.bl o.isSome) H) := by
  intro pins s σ H y x u v Q I ry rx h
  obtain ⟨a, o, rfl, g, q⟩ := h
  obtain rfl : v = Value.ref a := rx
  exact d_in hu I g ry fun s3 I3 => ⟨.bl o.isSome, H, I3, rfl, q⟩
theorem b_inK (hu : X.A.units + 1 < cLine) : BinD k X E (compareOp .In) inK := by
  refine ⟨_, op_inK hu, fun y x dy dx G H L μ Q ry rx w g => ?_⟩
  obtain ⟨a, od, ov, rfl, dg, h1, h2, q4⟩ := dctD_good rx ry w g
  refine ⟨a, ov, rfl, dg, ?_⟩
  cases od with
  | none =>
    rw [h2 rfl]
    exact Good.ret q4 w _ (.bl _)
  | some d =>
    obtain ⟨v, rfl, rv⟩ := h1 d rfl
    exact Good.ret q4 w _ (.bl _)
def tFrz (t : TE) : TE := fun σ H Q => t σ H fun v H1 => ∃ d u, v = .ref d ∧ H1 d = some u ∧ Mut (some u) ∧ ∀ od, Q v (upd H1 d (.frz od u))
theorem pe_frz {e : Expr} {t : TE} (h : PE X e t) : PE X e (tFrz t) := by
  refine ⟨fun pins s σ H Q I hw => ?_⟩
  refine thn (h.run pins s σ H _ I hw) fun v s1 ⟨x, H1, I1, r, d, u, ex, hd, mu, q⟩ => ?_
  obtain ⟨od, I2⟩ := I1.lock hd mu
  exact ⟨x, _, I2, r, q od⟩
def frzK (o : D) : M D := fun m => match o with
  | .loc n => match m[n]? with
    | some (some (.dct ks ds)) => .ok (.fdc ks ds) (m.set n none)
    | _ => .bad
  | _ => .bad
theorem j_frzK {a : Expr} {ma : DEnv → M D} (h : JE k X E a ma) : JE k X E a (eUn frzK ma) := by
  refine PE.imp (pe_frz h) fun s H Q h => ?_
  obtain ⟨e, G, L, μ, sg, w, gd⟩ := h
  refine ⟨e, G, L, μ, sg, w, Good.mono (Good.bind gd) fun d1 m1 G1 H1 L1 st1 w1 q1 x r1 => ?_⟩
  have q1' : Good k X.K E G1 H1 L1 (frzK d1 m1) (QV k X.K Q) := q1
  unfold frzK at q1'
  cases d1 with
  | loc n =>
    simp only at q1'
    cases hm : m1[n]? with
    | none => rw [hm] at q1'; exact False.elim q1'
    | some o =>
      cases o with
      | none => rw [hm] at q1'; exact False.elim q1'
      | some c =>
        cases c with
        | ins _ _ => rw [hm] at q1'; exact False.elim q1'
        | lst _ => rw [hm] at q1'; exact False.elim q1'
        | dct ks ds =>
          rw [hm] at q1'
          obtain ⟨a, vs, rfl, hl, ga, h, he, ra⟩ := w1.lookD hm r1
          refine ⟨a, _, rfl, h, trivial, fun od => ?_⟩
          exact q1' _ _ _ (freezeDS hl ga h (nt_frz od _)) (w1.freezeD hm hl h) _ (.fdc upd_same he (RpA.mono (Same.new ga) (pre_refl L1) _ _ ra))
  | _ => exact False.elim q1'
def srcK (d : D) : M Src := match d with
  | .fdc ks _ => pure ⟨ks.map keyDD, []⟩
  | _ => M.bad
def iKeyD (a : DEnv → M D) : DEnv → M Src := fun e => do let x ← a e; srcK x
theorem key_is (x : Key) {G : Hp} {L : Lam} : Rp k X.K G L (kV x) (keyDD x) := by
  cases x with
  | inl i => exact .int i
  | inr z => exact .str z
theorem ji_keys {tg a : Expr} {ma : DEnv → M D} (ha : JE k X E a ma) : JI k X E tg a (iKeyD ma) := by
  refine PI.imp (pi_keys ha) fun s H R h => ?_
  obtain ⟨e, G, L, μ, sg, w, gd⟩ := h
  refine ⟨e, G, L, μ, sg, w, Good.mono (Good.bind gd) fun d m1 G1 H1 L1 st1 w1 q1 v r => ?_⟩
  cases d with
  | fdc ks ds =>
    cases r with
    | @fdc _ a o vs _ hs hl ra =>
      refine ⟨a, o, rfl, .inl ⟨_, w1.ext _ _ hs, Good.ret q1 w1 _ ?_⟩⟩
      intro G2 H2 L2 μ2 ge le w2 ok i
      have hh : H2 a = some (.frz o (.dK (ks.zip vs))) := w2.ext _ _ (ge _ _ hs)
      have hz : (ks.zip vs).length = ks.length := by rw [List.length_zip]; omega
      refine ⟨fun d hd => ?_, fun hi => ⟨hh, by rw [hz]; simpa using hi⟩⟩
      rw [List.getElem?_map] at hd
      cases hk : ks[i]? with
      | none => rw [hk] at hd; cases hd
      | some x =>
        rw [hk] at hd
        cases hd
        have hi : i < ks.length := (List.getElem?_eq_some_iff.mp hk).1
        have hv : i < vs.length := by omega
        refine ⟨⟨hh, by rw [hz]; exact hi⟩, fun x' H3 y => ?_⟩
        obtain ⟨rfl, x2, v2, e2, rfl⟩ := y
        rw [List.getElem?_zip_eq_some] at e2
        rw [hk] at e2
        have := e2.1
        cases this
        exact ⟨G2, Stp.refl _ _ _, w2, key_is _⟩
  | _ => exact False.elim q1
end
end DL
namespace DL
open PySem L2 PyProof.Rows
theorem lookup_relabel {env : Env} : ∀ {names : List (Str × NameKind)} {x : Str}, names.lookup x = some .cell ∨ names.lookup x = some .free →
    (names.map fun (n, k) => if (k == NameKind.free && env.scope.kind == .function && env.kindOf n == some .cell) then (n, NameKind.cell) else (n, k)).lookup x = some .cell ∨
    (names.map fun (n, k) => if (k == NameKind.free && env.scope.kind == .function && env.kindOf n == some .cell) then (n, NameKind.cell) else (n, k)).lookup x = some .free
  | [], _, h => by simp at h
  | (n, k) :: r, x, h => by
    have ih := @lookup_relabel env r x
    rw [List.map_cons]
    dsimp only
    by_cases hc : (k == NameKind.free && env.scope.kind == .function && env.kindOf n == some .cell) = true
    · rw [if_pos hc]
      cases hx : x == n with
      | true => left; simp only [List.lookup_cons, hx]
      | false =>
        simp only [List.lookup_cons, hx] at h ⊢
        exact ih h
    · rw [if_neg hc]
      cases hx : x == n with
      | true =>
        simp only [List.lookup_cons, hx] at h ⊢
        exact h
      | false =>
        simp only [List.lookup_cons, hx] at h ⊢
        exact ih h
theorem blkOk_nest {N : List Str} {sc scope : Scope} {env : Env} {own : List (Str × Nat)} (h : blkC N sc scope own = true) : BlkOk N (relabel sc env) scope own := by
  obtain ⟨h1, h2, h3, h4, h5⟩ := blkOk_by h
  exact ⟨h1, h2, h3, fun y hy e => lookup_relabel (h4 y hy e), h5⟩
end DL
namespace DL
open PySem L2 PyProof.Rows
theorem ok_app {a b : Str} (ha : PyData.strOk a = true) (hb : PyData.strOk b = true) : PyData.strOk (a ++ b) = true := by
  unfold PyData.strOk at *
  rw [Str.cps_append]
  simp only [Array.all_append, ha, hb, Bool.and_self]
theorem ok_ofString (s : String) : PyData.strOk (Str.ofString s) = true := by
  unfold PyData.strOk
  rw [Str.ofString_eq_toList]
  simp only [Array.all_eq_true, List.getElem_toArray, List.getElem_map, decide_eq_true_eq]
  intro i hi
  have hv := (s.toList[i]'(by simpa using hi)).valid
  generalize s.toList[i]'(by simpa using hi) = c at hv
  rcases hv with h | h
  · have : c.toNat < 0xd800 := h
    show c.toNat < 0x110000
    omega
  · exact h.2
theorem len_ofString (s : String) : (Str.ofString s).length = s.toList.length := by
  rw [Str.ofString_eq_toList]
  simp [Str.length]
theorem nat_text {n k : Nat} (hk : 0 < k) (h : n < 10 ^ k) : (toString n).toList.length ≤ k := by
  show (Nat.repr n).toList.length ≤ k
  rw [Nat.toList_repr]
  exact (Nat.length_toDigits_le_iff (by decide) hk).mpr h
/-- how long an int's text is -/
theorem int_text {i : Int} {k : Nat} (hk : 0 < k) (h : i.natAbs < 10 ^ k) : (PyData.int i).shown.length ≤ k + 1 ∧ PyData.strOk (PyData.int i).shown = true := by
  have e : (PyData.int i).shown = Str.ofString (toString i) := by rw [PyData.shown]
  rw [e]
  refine ⟨?_, ok_ofString _⟩
  rw [len_ofString]
  cases i with
  | ofNat n =>
    have h1 : n < 10 ^ k := by simpa using h
    have h2 : (toString (Int.ofNat n)).toList = (toString n).toList := rfl
    rw [h2]
    have := nat_text hk h1
    omega
  | negSucc n =>
    have h1 : n + 1 < 10 ^ k := by simpa using h
    have h2 : (toString (Int.negSucc n)) = "-" ++ toString (n + 1) := rfl
    rw [h2, String.toList_append, List.length_append]
    have := nat_text hk h1
    have e1 : ("-" : String).toList.length = 1 := rfl
    omega
theorem log2_lt {n k : Nat} (h : n < 2 ^ k) (hk : 0 < k) : n.log2 < k := by
  by_cases h0 : n = 0
  · subst h0
    simpa using hk
  · exact (Nat.log2_lt h0).mpr h
mutual
/-- plain data -/
def pln : D → Bool
  | .non => true
  | .bl _ => true
  | .int i => decide (i.natAbs < 10 ^ 30)
  | .str s => PyData.strOk s && (PyData.strOk (reprText s) && decide ((reprText s).length ≤ 40))
  | .lst ds => plnL ds
  | .tup ds => plnL ds
  | _ => false
def plnL : List D → Bool
  | [] => true
  | d :: ds => pln d && plnL ds
end
mutual
/-- a bound for the text's length -/
def wdD : D → Nat
  | .lst ds => 4 + wdL ds
  | .tup ds => 4 + wdL ds
  | _ => 40
def wdL : List D → Nat
  | [] => 0
  | d :: ds => wdD d + 2 + wdL ds
end
mutual
def dpD : D → Nat
  | .lst ds => dpL ds + 1
  | .tup ds => dpL ds + 1
  | _ => 0
def dpL : List D → Nat
  | [] => 0
  | d :: ds => max (dpD d) (dpL ds)
end
theorem join_len : ∀ ts : List Str, (∀ t ∈ ts, PyData.strOk t = true) → (Str.join ", " ts).length ≤ (ts.map fun t => t.length + 2).sum ∧ PyData.strOk (Str.join ", " ts) = true
  | [], _ => ⟨by decide +kernel, by decide +kernel⟩
  | [x], h => by
    refine ⟨?_, h x (by simp)⟩
    show x.length ≤ _
    simp
  | x :: y :: r, h => by
    obtain ⟨h3, h4⟩ := join_len (y :: r) fun t ht => h t (by simp [List.mem_cons.mp ht])
    have e : Str.join ", " (x :: y :: r) = x ++ ", " ++ Str.join ", " (y :: r) := rfl
    rw [e]
    refine ⟨?_, ok_app (ok_app (h x (by simp)) (by decide +kernel)) h4⟩
    rw [Str.length_append, Str.length_append]
    have : (", " : Str).length = 2 := by decide
    simp only [List.map_cons, List.sum_cons] at h3 ⊢
    omega
theorem textFrom_bound : ∀ (ts : List Str) (k : Nat) (acc : Str), (∀ t ∈ ts, PyData.strOk t = true) → PyData.strOk acc = true → (textFrom k acc ts).length ≤ acc.length + (ts.map fun t => t.length + 2).sum ∧ PyData.strOk (textFrom k acc ts) = true
  | [], k, acc, _, ha => ⟨by show acc.length ≤ _; simp, ha⟩
  | t :: r, k, acc, h, ha => by
    have e : textFrom k acc (t :: r) = textFrom (k + 1) (acc ++ (if k > 0 then ", " else "" : String) ++ t) r := rfl
    have ha' : PyData.strOk (acc ++ (if k > 0 then ", " else "" : String) ++ t) = true := ok_app (ok_app ha (ok_ofString _)) (h t (by simp))
    obtain ⟨h1, h2⟩ := textFrom_bound r (k + 1) _ (fun x hx => h x (by simp [hx])) ha'
    rw [e]
    refine ⟨?_, h2⟩
    have hl : (acc ++ (if k > 0 then ", " else "" : String) ++ t).length ≤ acc.length + 2 + t.length := by
      rw [Str.length_append, Str.length_append]
      have : (Str.ofString (if k > 0 then ", " else "" : String)).length ≤ 2 := by split <;> decide
      omega
    simp only [List.map_cons, List.sum_cons]
    omega
theorem list_len {ts : List Str} (h : ∀ t ∈ ts, PyData.strOk t = true) : (listText ts).length ≤ 2 + (ts.map fun t => t.length + 2).sum ∧ PyData.strOk (listText ts) = true := by
  obtain ⟨h1, h2⟩ := textFrom_bound ts 0 "[" h (by decide +kernel)
  unfold listText
  refine ⟨?_, ok_app h2 (by decide +kernel)⟩
  rw [Str.length_append]
  have a : ("[" : Str).length = 1 := by decide
  have b : ("]" : Str).length = 1 := by decide
  omega
theorem tuple_len {ts : List Str} (h : ∀ t ∈ ts, PyData.strOk t = true) : (tupleText ts).length ≤ 3 + (ts.map fun t => t.length + 2).sum ∧ PyData.strOk (tupleText ts) = true := by
  obtain ⟨h1, h2⟩ := join_len ts h
  unfold tupleText
  refine ⟨?_, ?_⟩
  · rw [Str.length_append, Str.length_append]
    have a : ("(" : Str).length = 1 := by decide
    split
    · have b : (",)" : Str).length = 2 := by decide
      show _ + _ + (",)" : Str).length ≤ _
      omega
    · have b : (")" : Str).length = 1 := by decide
      show _ + _ + (")" : Str).length ≤ _
      omega
  · refine ok_app (ok_app (by decide +kernel) h2) ?_
    split
    · exact (by decide +kernel : PyData.strOk (",)" : Str) = true)
    · exact (by decide +kernel : PyData.strOk (")" : Str) = true)
structure PlnP (d : D) (x : PyData) : Prop where
  pd : toPD d = some x
  sh : x.showable = true
  ly : x.canLay0 = true
  dp : x.depth = dpD d
  ln : x.shown.length ≤ wdD d
  ok : PyData.strOk x.shown = true
structure PlnA (ds : List D) (xs : List PyData) : Prop where
  pd : toPDs ds = some xs
  sh : PyData.showableAll xs = true
  ly : PyData.canLayAll0 xs = true
  dp : PyData.depthAll xs = dpL ds
  ln : ((PyData.shownAll xs).map fun t => t.length + 2).sum ≤ wdL ds
  ok : ∀ t ∈ PyData.shownAll xs, PyData.strOk t = true
mutual
theorem pln_pd : ∀ d : D, pln d = true → ∃ x, PlnP d x
  | .non, _ => ⟨.none, rfl, rfl, rfl, rfl, by show (PyData.none).shown.length ≤ 40; decide +kernel, by decide +kernel⟩
  | .bl b, _ => ⟨.bool b, rfl, rfl, rfl, rfl, by show (PyData.bool b).shown.length ≤ 40; cases b <;> decide +kernel, by cases b <;> decide +kernel⟩
  | .int i, h => by
    have h' : i.natAbs < 10 ^ 30 := by simpa [pln] using h
    obtain ⟨h1, h2⟩ := int_text (by decide) h'
    refine ⟨.int i, rfl, ?_, rfl, rfl, ?_, h2⟩
    · rw [PyData.showable, decide_eq_true_eq]
      exact log2_lt (Nat.lt_of_lt_of_le h' (Nat.le_trans (by decide : 10 ^ 30 ≤ 2 ^ 100) (Nat.pow_le_pow_right (by decide) (by decide)))) (by decide)
    · show _ ≤ 40
      omega
  | .str s, h => by
    simp only [pln, Bool.and_eq_true, decide_eq_true_eq] at h
    have e : (PyData.str s).shown = reprText s := by rw [PyData.shown]
    exact ⟨.str s, rfl, rfl, by rw [PyData.canLay0]; exact h.1, rfl, by rw [e]; exact h.2.2, by rw [e]; exact h.2.1⟩
  | .lst ds, h => by
    obtain ⟨xs, p⟩ := pln_pds ds (by simpa [pln] using h)
    obtain ⟨l1, l2⟩ := list_len p.ok
    have e : (PyData.list xs).shown = listText (PyData.shownAll xs) := by rw [PyData.shown]
    refine ⟨.list xs, by rw [toPD, p.pd]; rfl, by rw [PyData.showable]; exact p.sh, by rw [PyData.canLay0]; exact p.ly, by rw [PyData.depth, p.dp, dpD], ?_, by rw [e]; exact l2⟩
    rw [e, wdD]
    have := p.ln
    omega
  | .tup ds, h => by
    obtain ⟨xs, p⟩ := pln_pds ds (by simpa [pln] using h)
    obtain ⟨l1, l2⟩ := tuple_len p.ok
    have e : (PyData.tuple xs).shown = tupleText (PyData.shownAll xs) := by rw [PyData.shown]
    refine ⟨.tuple xs, by rw [toPD, p.pd]; rfl, by rw [PyData.showable]; exact p.sh, by rw [PyData.canLay0]; exact p.ly, by rw [PyData.depth, p.dp, dpD], ?_, by rw [e]; exact l2⟩
    rw [e, wdD]
    have := p.ln
    omega
  | .loc _, h => by simp [pln] at h
  | .obj _ _, h => by simp [pln] at h
  | .cls _, h => by simp [pln] at h
  | .dct _ _, h => by simp [pln] at h
  | .fdc _ _, h => by simp [pln] at h
  | .err _ _, h => by simp [pln] at h
theorem pln_pds : ∀ ds : List D, plnL ds = true → ∃ xs, PlnA ds xs
  | [], _ => ⟨[], rfl, rfl, rfl, rfl, Nat.le_refl _, fun t h => by cases h⟩
  | d :: ds, h => by
    simp only [plnL, Bool.and_eq_true] at h
    obtain ⟨x, p⟩ := pln_pd d h.1
    obtain ⟨xs, q⟩ := pln_pds ds h.2
    refine ⟨x :: xs, by rw [toPDs, p.pd, q.pd], by rw [PyData.showableAll, p.sh, q.sh]; rfl, by rw [PyData.canLayAll0, p.ly, q.ly]; rfl, by rw [PyData.depthAll, p.dp, q.dp, dpL], ?_, fun t ht => ?_⟩
    · rw [PyData.shownAll, List.map_cons, List.sum_cons, wdL]
      have := p.ln
      have := q.ln
      omega
    · rw [PyData.shownAll] at ht
      rcases List.mem_cons.mp ht with rfl | ht
      · exact p.ok
      · exact q.ok t ht
end
theorem plnP_top {d : D} {x : PyData} (p : PlnP d x) (h : pln d = true) (m : Store) : topPD d m = some x := by
  cases d with
  | loc n => simp [pln] at h
  | _ => exact p.pd
theorem plnP_shp {d : D} {x : PyData} (p : PlnP d x) (h : dpD d ≤ 60) : SeqAt.shaped x = true := by
  unfold SeqAt.shaped
  rw [p.ly, p.dp]
  simp only [Bool.true_and, decide_eq_true_eq]
  omega
/-- plain data that are not too large -/
def Pln (d : D) : Prop := pln d = true ∧ wdD d ≤ 100000 ∧ dpD d ≤ 60
theorem Pln.ne {d : D} (h : Pln d) (m : Store) : neD d d m = .ok (.bl false) m := by
  obtain ⟨x, p⟩ := pln_pd d h.1
  exact ne_self m (plnP_top p h.1 m) (plnP_shp p h.2.2)
end DL
namespace DL
open PySem L2 PyProof.Rows
def SrcAt (m : Store) (n : Nat) : Prop := ∃ a s : Int, m[n]? = some (some (.lst [.int a, .int s]))
/-- only the source at n has changed -/
def Chg (n : Nat) (m m' : Store) : Prop := ∃ a s : Int, m' = m.set n (some (.lst [.int a, .int s]))
section
variable {n : Nat} {m m1 m2 : Store}
theorem Chg.refl (h : SrcAt m n) : Chg n m m := by
  obtain ⟨a, s, h⟩ := h
  refine ⟨a, s, ?_⟩
  apply List.ext_getElem?
  intro i
  by_cases e : n = i
  · subst e
    rw [List.getElem?_set_self (List.getElem?_eq_some_iff.mp h).1, h]
  · rw [List.getElem?_set_ne e]
theorem Chg.trans (h : Chg n m m1) (h' : Chg n m1 m2) : Chg n m m2 := by
  obtain ⟨a, s, rfl⟩ := h
  obtain ⟨a', s', rfl⟩ := h'
  exact ⟨a', s', by rw [List.set_set]⟩
theorem Chg.len (h : Chg n m m1) : m1.length = m.length := by
  obtain ⟨a, s, rfl⟩ := h
  simp
theorem Chg.src (h : Chg n m m1) (q : SrcAt m n) : SrcAt m1 n := by
  obtain ⟨a, s, rfl⟩ := h
  obtain ⟨a', s', q⟩ := q
  exact ⟨a, s, by rw [List.getElem?_set_self (List.getElem?_eq_some_iff.mp q).1]⟩
theorem Chg.get (h : Chg n m m1) {i : Nat} (hi : i ≠ n) : m1[i]? = m[i]? := by
  obtain ⟨a, s, rfl⟩ := h
  rw [List.getElem?_set_ne (Ne.symm hi)]
theorem src_lt (q : SrcAt m n) : n < m.length := by
  obtain ⟨_, _, q⟩ := q
  exact (List.getElem?_eq_some_iff.mp q).1
theorem src_app (q : SrcAt m n) (j : Store) : SrcAt (m ++ j) n := by
  have := src_lt q
  obtain ⟨a, s, q⟩ := q
  exact ⟨a, s, by rw [List.getElem?_append_left this]; exact q⟩
theorem Chg.trim (h : Chg n m m1) : trimOk m m1 = true := by
  obtain ⟨a, s, rfl⟩ := h
  unfold trimOk
  simp only [List.length_set, Nat.le_refl, decide_true, Bool.true_and, List.all_eq_true]
  intro p hp
  obtain ⟨i, hi⟩ := List.mem_iff_getElem?.mp hp
  rw [List.getElem?_zip_eq_some] at hi
  obtain ⟨h1, h2⟩ := hi
  rw [show (m.set n (some (.lst [.int a, .int s]))).take m.length = m.set n (some (.lst [.int a, .int s])) from List.take_of_length_le (by simp)] at h1
  by_cases hn : n = i
  · subst hn
    have hl := (List.getElem?_eq_some_iff.mp h2).1
    rw [List.getElem?_set_self hl] at h1
    have e : p.1 = some (.lst [.int a, .int s]) := (Option.some.inj h1).symm
    unfold cellKept
    rw [e]
    simp [Cell.und, D.undL, D.und]
  · rw [List.getElem?_set_ne hn] at h1
    have e : p.1 = p.2 := Option.some.inj (h1.symm.trans h2)
    simp [cellKept, e]
/-- what was appended is undone: the source's own change is left -/
theorem Chg.split {j m' : Store} (h : Chg n (m ++ j) m') (q : n < m.length) : ∃ m1, m' = m1 ++ j ∧ Chg n m m1 := by
  obtain ⟨a, s, rfl⟩ := h
  exact ⟨_, by rw [List.set_append_left _ _ q], a, s, rfl⟩
/-- a def whose own cells are forgotten, and which draws -/
theorem fn_chg {k : Nat} {b : DEnv → M Out} {ds : List D} {junk : Store} {d : D} (h : b (startD k ds) m = .ok (.rt d) (m1 ++ junk)) (c : Chg n m m1) (hd : d.und m.length = true) : fnD k b ds m = .ok d m1 := fn_trim h c.len c.trim hd
theorem fn_chg0 {k : Nat} {b : DEnv → M Out} {ds : List D} {d : D} (h : b (startD k ds) m = .ok (.rt d) m1) (c : Chg n m m1) : fnD k b ds m = .ok d m1 := fn_any h c.len
end
inductive All2 {α β : Type} (P : α → β → Prop) : List α → List β → Prop
  | nil : All2 P [] []
  | cons {a : α} {b : β} {as : List α} {bs : List β} : P a b → All2 P as bs → All2 P (a :: as) (b :: bs)
theorem All2.len {α β : Type} {P : α → β → Prop} {as : List α} {bs : List β} (h : All2 P as bs) : bs.length = as.length := by
  induction h with
  | nil => rfl
  | cons _ _ ih => simp [ih]
theorem All2.mem {α β : Type} {P : α → β → Prop} {as : List α} {bs : List β} (h : All2 P as bs) {b : β} (hb : b ∈ bs) : ∃ a ∈ as, P a b := by
  induction h with
  | nil => cases hb
  | cons p _ ih =>
    rcases List.mem_cons.mp hb with rfl | hb
    · exact ⟨_, by simp, p⟩
    · obtain ⟨a, ha, q⟩ := ih hb
      exact ⟨a, by simp [ha], q⟩
theorem All2.ints {α : Type} {P : α → Int → Prop} {as : List α} {bs : List D} (h : All2 (fun a d => ∃ i, d = D.int i ∧ P a i) as bs) : ∃ is, bs = ils is ∧ All2 P as is := by
  induction h with
  | nil => exact ⟨[], rfl, .nil⟩
  | cons p _ ih =>
    obtain ⟨i, rfl, p⟩ := p
    obtain ⟨is, rfl, q⟩ := ih
    exact ⟨i :: is, rfl, .cons p q⟩
theorem All2.sk {α β γ : Type} {P : α → γ → Prop} {f : γ → β} {as : List α} {bs : List β} (h : All2 (fun a d => ∃ i, d = f i ∧ P a i) as bs) : ∃ is, bs = is.map f ∧ All2 P as is := by
  induction h with
  | nil => exact ⟨[], rfl, .nil⟩
  | cons p _ ih =>
    obtain ⟨i, rfl, p⟩ := p
    obtain ⟨is, rfl, q⟩ := ih
    exact ⟨i :: is, rfl, .cons p q⟩
theorem compL_chg {n : Nat} {src : List D} {g : D → DEnv → M DEnv} {elt : DEnv → M D} {e : DEnv} {P : D → D → Prop} : ∀ (ds : List D), (∀ d ∈ ds, ∀ m, SrcAt m n → ∃ e1 r m', g d e m = .ok e1 m ∧ elt e1 m = .ok r m' ∧ Chg n m m' ∧ P d r) →
    ∀ m, SrcAt m n → ∃ rs m', compL ⟨src, []⟩ g tYesD elt e ds m = .ok rs m' ∧ Chg n m m' ∧ All2 P ds rs
  | [], _, m, q => ⟨[], m, by simp [compL], Chg.refl q, .nil⟩
  | d :: ds, h, m, q => by
    obtain ⟨e1, r, m1, h1, h2, c1, p⟩ := h d (by simp) m q
    obtain ⟨rs, m2, h3, c2, p2⟩ := compL_chg (src := src) ds (fun x hx => h x (by simp [hx])) m1 (c1.src q)
    exact ⟨r :: rs, m2, by simp [compL, noX, h1, h2, h3], c1.trans c2, .cons p p2⟩
/-- a comprehension whose items draw -/
theorem eComp_chg {n : Nat} {it : DEnv → M Src} {g : D → DEnv → M DEnv} {elt : DEnv → M D} {vs : List Nat} {e : DEnv} {m m0 : Store} {ds : List D} {P : D → D → Prop} (hi : it e m = .ok ⟨ds, []⟩ m0) (c0 : Chg n m m0) (q : SrcAt m n) (hl : ds.length ≤ 100000)
    (h : ∀ d ∈ ds, ∀ m, SrcAt m n → ∃ e1 r m', g d (wipeD e vs) m = .ok e1 m ∧ elt e1 m = .ok r m' ∧ Chg n m m' ∧ P d r) : ∃ rs m', eComp it g tYesD elt vs e m = .ok (.lst rs) m' ∧ Chg n m m' ∧ All2 P ds rs := by
  obtain ⟨rs, m2, h3, c2, p2⟩ := compL_chg (src := ds) ds h m0 (c0.src q)
  exact ⟨rs, m2, by simp [eComp, compM, hi, sizeOk, hl, h3], c0.trans c2, p2⟩
/-- a loop that draws, over an invariant of the turn and the environment -/
theorem forL_chg {src : List D} {g : D → DEnv → M DEnv} {b : DEnv → M Out} (I : Nat → DEnv → Store → Prop) (ds : List D) (e : DEnv) (m : Store)
    (h0 : I 0 e m) (st : ∀ j d e m, ds[j]? = some d → I j e m → ∃ e1 m1 e2 m2, g d e m = .ok e1 m1 ∧ (b e1 m1 = .ok (.nx e2) m2 ∨ b e1 m1 = .ok (.ct e2) m2) ∧ I (j + 1) e2 m2) :
    ∃ e' m', forL ⟨src, []⟩ g b ds e m = .ok (.nx e') m' ∧ I ds.length e' m' := by
  have := forL_inv (src := src) (g := g) (b := b) I ds 0 e m h0 (fun j d e m hj hi => by
    have := st j d e m hj (by simpa using hi)
    simpa using this)
  simpa using this
theorem rng_get {k j : Nat} {d : D} (h : (rngI 0 k)[j]? = some d) : j < k ∧ d = .int j := by
  have hl : j < k := by
    have := (List.getElem?_eq_some_iff.mp h).1
    simpa [rngI] using this
  refine ⟨hl, ?_⟩
  rw [rngI_eq] at h
  simp [hl] at h
  exact h.symm
@[simp] theorem rng_len (k : Nat) (a : Int) : (rngI a k).length = k := by simp [rngI]
theorem eApp_of {o v : DEnv → M D} {e : DEnv} {m m1 m2 m3 : Store} {x y r : D} (h1 : o e m = .ok x m1) (h2 : isLocL x m1 = .ok () m1) (h3 : v e m1 = .ok y m2) (h4 : growD x [y] m2 = .ok r m3) : eApp o v e m = .ok r m3 := by
  unfold eApp
  simp only [bind_ap, h1, thn_ok, h2, h3, h4]
theorem sq_of {s t : DEnv → M Out} {e e1 : DEnv} {m m1 : Store} {r : Res Out} (h : s e m = .ok (.nx e1) m1) (h' : t e1 m1 = r) : sSeq s t e m = r := by
  rw [sSeq_ap, h, thn_ok, andThen_nx]
  exact h'
theorem fr_of {it : DEnv → M Src} {g : D → DEnv → M DEnv} {b : DEnv → M Out} {e : DEnv} {m m1 : Store} {ds : List D} {r : Res Out} (h : it e m = .ok ⟨ds, []⟩ m1) (h' : forL ⟨ds, []⟩ g b ds e m1 = r) : sFor it g b e m = r := by
  rw [sFor_ap, h, thn_ok]
  exact h'
@[simp] theorem add_tup (i j : List D) (m : Store) : addD (.tup i) (.tup j) m = mkT (i ++ j) m := (rfl)
@[simp] theorem add_lst (i j : List D) (m : Store) : addD (.lst i) (.lst j) m = mkL (i ++ j) m := (rfl)
end DL
namespace DL
open PySem L2 PySem.HandSPX
end DL
namespace DL
open PySem L2 PyProof.Rows
open PySem.W (ksFn ksEnv ks_superIn excInitIn excOver kxs_mw)
end DL
namespace DL
open PySem L2 PyProof.Rows
open PySem.W (ksFn ksEnv)
end DL
namespace DL
open PySem L2 PyProof.Rows
open PySem.W (ksFn ksEnv)
end DL
namespace DL
open PySem L2 PyProof.Rows
open PySem.W (ksFn ksEnv)
end DL
namespace DL
open PySem L2 PyProof.Rows
open PySem.W (ksFn ksEnv)
section
variable {k : Kx} {X : Cx} {E : XK} {st : Stmt} {qual slf a b f f2 x : Str} {B newId initId : String} {tl : List Value} {C fI : Addr} {lvl : Nat} {p pos : Pos}
theorem PK.imp {kws : List Keyword} {t t' : TA} (h : PK X kws t) (g : ∀ σ H Q, t' σ H Q → t σ H Q) : PK X kws t' := ⟨fun pos pins s σ H Q I z => h.run pos pins s σ H Q I (g _ _ _ z)⟩
end
end DL
namespace DL
open PySem L2 PyProof.Rows
end DL
namespace DL
open PySem L2 PyProof.Rows
section
variable {k : Kx} {X : Cx} {E : XK}
def mxL : List Int → Option Int
  | [] => none
  | n :: ns => some (ns.foldl max n)
theorem foldl_max_ge : ∀ (ns : List Int) (n : Int), n ≤ ns.foldl max n ∧ ∀ y ∈ ns, y ≤ ns.foldl max n
  | [], n => ⟨Int.le_refl _, fun _ h => nomatch h⟩
  | k :: ns, n => by
    obtain ⟨h1, h2⟩ := foldl_max_ge ns (max n k)
    rw [List.foldl_cons]
    refine ⟨by omega, fun y hy => ?_⟩
    rcases List.mem_cons.mp hy with rfl | hy
    · omega
    · exact h2 y hy
theorem foldl_max_mem : ∀ (ns : List Int) (n : Int), ns.foldl max n ∈ n :: ns
  | [], n => by simp
  | k :: ns, n => by
    have h := foldl_max_mem ns (max n k)
    rw [List.foldl_cons]
    rcases List.mem_cons.mp h with h | h
    · rw [h]
      by_cases q : n ≤ k
      · rw [Int.max_eq_right q]; simp
      · rw [Int.max_eq_left (by omega)]; simp
    · exact List.mem_cons_of_mem _ (List.mem_cons_of_mem _ h)
theorem mxL_is {n : Int} {ns : List Int} {m : Int} (h1 : m ∈ n :: ns) (h2 : ∀ y ∈ n :: ns, y ≤ m) : m = ns.foldl max n := by
  have a := foldl_max_ge ns n
  have b := h2 _ (foldl_max_mem ns n)
  rcases List.mem_cons.mp h1 with rfl | h1
  · omega
  · have := a.2 m h1
    omega
def mxD : List D → M D
  | [d] => do
    let ds ← seqD d
    match intsD ds with
      | some ns => match mxL ns with
        | some m => pure (.int m)
        | none => M.bad
      | none => M.bad
  | xs => maxD xs
def rMaxT (K : PySem.W.Frag) : List V → Hp → VK → Prop := fun vs H Q => ∃ (a : Addr) (n : Int) (ns : List Int), vs = [V.ref a] ∧ SqT K H a ((n :: ns).map V.int) ∧ Q (.int (ns.foldl max n)) H
theorem cr_maxT (hc : X.calm = true) (hu : X.A.units + 64 < cLine) : CallR X (.builtin "max") (rMaxT X.K) := by
  intro pins s σ H vs us Q I r h
  obtain ⟨a, n, ns, rfl, hs, q⟩ := h
  obtain ⟨its, rv, hl, _⟩ := I.tuple hs
  rw [Vals.ref1 r]
  have dp : DpAll X.K H ((n :: ns).map V.int) ((n :: ns).map PyData.int) := by
    generalize (n :: ns) = l
    induction l with
    | nil => exact .nil
    | cons i l ih => exact .cons (.int i) ih
  obtain ⟨as, rd⟩ := Dp.readsAll I _ _ its dp rv
  have al : PySem.W.AlikeAll ((n :: ns).map PyData.int) := by
    refine ⟨fun x hx y hy => ?_, fun x hx => ?_⟩
    · obtain ⟨i, _, rfl⟩ := List.mem_map.mp hx
      obtain ⟨j, _, rfl⟩ := List.mem_map.mp hy
      rfl
    · obtain ⟨i, _, rfl⟩ := List.mem_map.mp hx
      exact fun z => nomatch z
  have dz : PyData.depthAll ((n :: ns).map PyData.int) = 0 := by
    generalize (n :: ns) = l
    induction l with
    | nil => rfl
    | cons i l ih => simp [PyData.depthAll, PyData.depth, ih]
  refine PySem.W.max_tuple_data (x := .int n) (xs := ns.map .int) (as := as) (I.ok.hd hc) hl (by simpa using rd) al (by rw [show PyData.int n :: ns.map .int = (n :: ns).map .int from rfl, dz]; omega) fun i v h' tk bs hv hr hk => ?_
  rw [PySem.W.maxD_ints] at hr
  cases hr with
  | int _ t => exact ⟨.int _, H, I.kept hk, ⟨_, rfl⟩, q⟩
theorem f_mx (hc : X.calm = true) (hu : X.A.units + 64 < cLine) : FunD k X E (.builtin "max") mxD := by
  obtain ⟨r0, h1, h2⟩ := f_max (k := k) (X := X) (E := E) hc
  refine ⟨_, CallR.or h1 (CallR.or (cr_max hc) (cr_maxT hc hu)), fun xs ds G H L μ Q r w g => ?_⟩
  match ds, r, g with
  | [d], r, g =>
    refine .inr ?_
    obtain ⟨v, rfl, r'⟩ := one_of (H := H) r
    have g' : Good k X.K E G H L ((seqD d >>= fun ds => match intsD ds with | some ns => (match mxL ns with | some m => (pure (.int m) : M D) | none => M.bad) | none => M.bad) μ) (QV k X.K Q) := g
    obtain ⟨a, vs, ds, rfl, ra, hs, g⟩ := seq_of r' w g'
    cases e : intsD ds with
    | none => simp only [e] at g; exact False.elim g
    | some ns =>
      simp only [e] at g
      rw [intsD_of ra e] at hs
      cases ns with
      | nil => exact False.elim g
      | cons n ns =>
        have q := Good.ret (a := D.int (ns.foldl max n)) g w _ (.int _)
        rcases hs with ⟨hs, _⟩ | ⟨hs, _⟩
        · exact .inl ⟨a, n :: ns, rfl, hs, by simp, fun m m1 m2 => by rw [mxL_is m1 m2]; exact q⟩
        · exact .inr ⟨a, n, ns, rfl, hs, q⟩
  | [], r, g => exact .inl (h2 xs [] G H L μ Q r w g)
  | x :: y :: t, r, g => exact .inl (h2 xs (x :: y :: t) G H L μ Q r w g)
end
end DL
namespace DL
open PySem L2 PyProof.Rows
end DL
namespace DL
open PySem L2 PyProof.Rows
def frzV (i : Nat) (e : DEnv) : M DEnv := match e[i]? with
  | some (some d) => do let x ← frzD d; pure (e.set i (some x))
  | _ => M.bad
def fzO (i : Nat) (o : Out) : M Out := match o with
  | .nx e => do let e2 ← frzV i e; pure (.nx e2)
  | o => pure o
def sFz (i : Nat) (s : DEnv → M Out) : DEnv → M Out := fun e => do let o ← s e; fzO i o
section
variable {k : Kx} {X : Cx} {E : XK}
theorem frz_good {β : Type} {G H : Hp} {L : Lam} {μ : Store} {d : D} {v : V} {f : D → M β} {Q : β → Store → Hp → Hp → Lam → Prop} (r : Rp k X.K G L v d) (w : Wd k X.K G H L μ) (g : Good k X.K E G H L ((frzD d >>= f) μ) Q) :
    ∃ d' G' m', Stp G H L G' H L ∧ Wd k X.K G' H L m' ∧ Rp k X.K G' L v d' ∧ Good k X.K E G' H L (f d' m') Q := by
  have g' : Good k X.K E G H L (M.bind (frzD d) f μ) Q := g
  unfold M.bind frzD at g'
  cases d with
  | loc n =>
    simp only at g'
    cases hm : μ[n]? with
    | none => rw [hm] at g'; exact False.elim g'
    | some o =>
      cases o with
      | none => rw [hm] at g'; exact False.elim g'
      | some c =>
        cases c with
        | ins _ _ => rw [hm] at g'; exact False.elim g'
        | dct _ _ => rw [hm] at g'; exact False.elim g'
        | lst ds =>
          rw [hm] at g'
          obtain ⟨a, vs, rfl, hl, ga, h, ra⟩ := w.look hm r
          exact ⟨_, _, _, freezeS hl ga, w.freeze hm hl h, .lst (SqL.of upd_same) (RpA.mono (Same.new ga) (pre_refl L) _ _ ra), Good.up g' (freezeS hl ga)⟩
  | _ => exact ⟨_, _, _, Stp.refl _ _ _, w, r, g'⟩
theorem js_fz {st : Stmt} {m : DEnv → M Out} (i : Nat) (h : JS k X E st m) : JS k X E st (sFz i m) := by
  refine PS.imp h fun Ds s H h => ?_
  obtain ⟨e, G, L, μ, sg, w, gd⟩ := h
  refine ⟨e, G, L, μ, sg, w, Good.mono (Good.bind gd) fun o m1 G1 H1 L1 st1 w1 q1 => ?_⟩
  cases o with
  | nx e' =>
    intro s' sg'
    have q2 : Good k X.K E G1 H1 L1 ((frzV i e' >>= fun e2 => (pure (.nx e2) : M Out)) m1) (fun o _ G' H' L' => OutOk k X.K Ds o G' H' L') := q1
    unfold frzV at q2
    cases he : e'[i]? with
    | none => rw [he] at q2; exact False.elim q2
    | some od =>
      cases od with
      | none => rw [he] at q2; exact False.elim q2
      | some d =>
        rw [he] at q2
        obtain ⟨v, hv, rv⟩ := sg'.2 i d he
        have q3 : Good k X.K E G1 H1 L1 ((frzD d >>= fun x => (pure (.nx (e'.set i (some x))) : M Out)) m1) (fun o _ G' H' L' => OutOk k X.K Ds o G' H' L') := by
          have e : ((frzD d >>= fun x => (pure (e'.set i (some x)) : M DEnv)) >>= fun e2 => (pure (.nx e2) : M Out)) m1 = (frzD d >>= fun x => (pure (.nx (e'.set i (some x))) : M Out)) m1 := by
            show M.bind (M.bind (frzD d) _) _ m1 = M.bind (frzD d) _ m1
            unfold M.bind
            cases frzD d m1 <;> rfl
          rw [← e]
          exact q2
        obtain ⟨d', G', m', st, w', r', g'⟩ := frz_good rv w1 q3
        have sg2 := (sg'.mono st.g st.l).set i r'
        have es : s'.set i (some v) = s' := by
          apply List.ext_getElem?
          intro j
          rw [List.getElem?_set]
          by_cases hj : i = j
          · subst hj
            rw [if_pos rfl, hv]
            have := (List.getElem?_eq_some_iff.mp hv).1
            rw [if_pos this]
          · rw [if_neg hj]
        rw [es] at sg2
        exact Good.ret g' w' s' sg2
  | rt d => exact Good.ret q1 w1
  | bk e' => exact Good.ret q1 w1
  | ct e' => exact Good.ret q1 w1
end
end DL
namespace DL
open PySem L2 PyProof.Rows
abbrev zO (f0 f1 : Value) (TI TO : Addr) : Obj := { cls := .type "zip", data := .fields #[f0, f1, .bool false, .ref TI, .ref TO] }
def ZG (h : Heap) (z TI TO : Addr) : Prop := ∃ f0 f1, (f0 = .none ∨ ∃ a : Int, f0 = rawInt a) ∧ h.get? z = some (zO f0 f1 TI TO)
theorem ZG.ob {h : Heap} {z TI TO : Addr} (x : ZG h z TI TO) : ∃ f0 f1, h.get? z = some (zO f0 f1 TI TO) := let ⟨f0, f1, _, e⟩ := x; ⟨f0, f1, e⟩
theorem ZG.at {h h' : Heap} {z TI TO : Addr} (x : ZG h z TI TO) (e : ∀ o, h.get? z = some o → h'.get? z = some o) : ZG h' z TI TO := let ⟨f0, f1, c, q⟩ := x; ⟨f0, f1, c, e _ q⟩
end DL
namespace DL
open PySem L2 PyProof.Rows
open AutoSeq1 (wpAny_loadPart')
/-- the zip's own things -/
structure ZSt (h : Heap) (z TI TO i1 i2 l1 l2 : Addr) (b1 b2 : Bool) (i : Nat) : Prop where
  z : ZG h z TI TO
  ti : IsPair h TI (.ref i1) (.ref i2)
  to : ∃ a b, IsPair h TO a b
  k1 : KI b1 h i1 l1 i
  k2 : KI b2 h i2 l2 i
theorem ZSt.at {h h' : Heap} {z TI TO i1 i2 l1 l2 : Addr} {b1 b2 : Bool} {i : Nat} (x : ZSt h z TI TO i1 i2 l1 l2 b1 b2 i) (k : ∀ c ∈ [z, TI, TO, i1, i2], ∀ o, h.get? c = some o → h'.get? c = some o) : ZSt h' z TI TO i1 i2 l1 l2 b1 b2 i :=
  ⟨x.z.at fun o e => k z (by simp) o e, k TI (by simp) _ x.ti, let ⟨a, b, q⟩ := x.to; ⟨a, b, k TO (by simp) _ q⟩, x.k1.at fun o e => k i1 (by simp) o e, x.k2.at fun o e => k i2 (by simp) o e⟩
end DL
namespace DL
open PySem L2 PyProof.Rows
open AutoSeq1 (wpAny_loadPart')
end DL
namespace DL
open PySem L2
theorem fn_trimN {n : Nat} {b : DEnv → M Out} {ds : List D} {m m0 junk : Store} {e : DEnv} (h : b (startD n ds) m = .ok (.nx e) (m0 ++ junk)) (hl : m0.length = m.length) (hk : trimOk m m0 = true) : fnD n b ds m = .ok .non m0 := by
  have ht : trimOk m (m0 ++ junk) = true := by
    unfold trimOk at hk ⊢
    have e1 : (m0 ++ junk).take m.length = m0 := by rw [← hl]; simp
    have e2 : m0.take m.length = m0 := by rw [← hl]; simp
    rw [e1]
    rw [e2] at hk
    simp only [Bool.and_eq_true, decide_eq_true_eq] at hk ⊢
    exact ⟨by rw [List.length_append]; omega, hk.2⟩
  have e1 : (m0 ++ junk).take m.length = m0 := by rw [← hl]; simp
  simp [fnD, scopeM, runB, h, ht, e1, D.und]
theorem undO_map (n : Nat) : ∀ vs : List D, undO n (vs.map some) = D.undL n vs
  | [] => rfl
  | v :: vs => by simp [undO, D.undL, undO_map n vs]
theorem undL_mono {n k : Nat} (h : n ≤ k) : ∀ ds : List D, D.undL n ds = true → D.undL k ds = true := by
  have key : ∀ (j : Nat) (d : D), sizeOf d ≤ j → d.und n = true → d.und k = true := by
    intro j
    induction j with
    | zero =>
      intro d hd _
      cases d <;> simp at hd
    | succ j ih =>
      intro d hd hu
      have lst : ∀ ds : List D, sizeOf ds ≤ j → D.undL n ds = true → D.undL k ds = true := by
        intro ds
        induction ds with
        | nil => intro _ _; rfl
        | cons x r ihr =>
          intro hs hq
          simp only [D.undL, Bool.and_eq_true] at hq ⊢
          simp at hs
          exact ⟨ih x (by omega) hq.1, ihr (by omega) hq.2⟩
      cases d with
      | loc i =>
        simp only [D.und, decide_eq_true_eq] at hu ⊢
        omega
      | lst ds => simp at hd; exact lst ds (by omega) hu
      | tup ds => simp at hd; exact lst ds (by omega) hu
      | obj c ds => simp at hd; exact lst ds (by omega) hu
      | dct ks ds => simp at hd; exact lst ds (by omega) hu
      | fdc ks ds => simp at hd; exact lst ds (by omega) hu
      | err c ds => simp at hd; exact lst ds (by omega) hu
      | _ => rfl
  intro ds
  induction ds with
  | nil => intro _; rfl
  | cons x r ih =>
    intro hq
    simp only [D.undL, Bool.and_eq_true] at hq ⊢
    exact ⟨key _ x (Nat.le_refl _) hq.1, ih hq.2⟩
/-- the instance that is being made has got its slots -/
theorem trim_ins {m : Store} {c : Nat} {ss : List (Option D)} {vs : List D} (hu : D.undL m.length vs = true) : trimOk (m ++ [some (.ins c ss)]) (m ++ [some (.ins c (vs.map some))]) = true := by
  unfold trimOk
  simp only [List.length_append, List.length_singleton, Nat.le_refl, decide_true, Bool.true_and, List.all_eq_true]
  intro p hp
  rw [show (m ++ [some (Cell.ins c (vs.map some))]).take (m.length + 1) = m ++ [some (Cell.ins c (vs.map some))] from List.take_of_length_le (by simp)] at hp
  rw [List.zip_append rfl] at hp
  rcases List.mem_append.mp hp with hp | hp
  · obtain ⟨i, hi⟩ := List.mem_iff_getElem?.mp hp
    rw [List.getElem?_zip_eq_some] at hi
    have e : p.1 = p.2 := Option.some.inj (hi.1.symm.trans hi.2)
    simp [cellKept, e]
  · simp only [List.zip_cons_cons, List.zip_nil_left, List.mem_singleton] at hp
    subst hp
    unfold cellKept
    have : undO (m.length + 1) (vs.map some) = true := by
      rw [undO_map]
      exact undL_mono (Nat.le_succ _) vs hu
    simp [Cell.und, this]
theorem isLocOk {m : Store} {n : Nat} {ds : List D} (h : m[n]? = some (some (.lst ds))) : isLocL (.loc n) m = .ok () m := by
  unfold isLocL
  simp only [h]
theorem tupleLoc {m : Store} {n : Nat} {ds : List D} (h : m[n]? = some (some (.lst ds))) (hl : ds.length ≤ 100000) : tupleD [.loc n] m = .ok (.tup ds) m := by
  show (do let ds ← seqD (.loc n); mkT ds : M D) m = _
  rw [bind_ap, seq_loc h]
  simp [hl]
theorem appLoc {m : Store} {n : Nat} {ds : List D} {x : D} (h : m[n]? = some (some (.lst ds))) (hl : ds.length + 1 ≤ 100000) : growD (.loc n) [x] m = .ok .non (m.set n (some (.lst (ds ++ [x])))) := by
  unfold growD
  simp only [h, List.length_cons, List.length_nil]
  rw [if_pos (by omega)]
theorem compM_on {α : Type} {it : DEnv → M Src} {g : D → DEnv → M DEnv} {elt : DEnv → M D} {vs : List Nat} {e : DEnv} {m : Store} {xs : List α} {h f : α → D} (hi : it e m = .ok ⟨xs.map h, []⟩ m) (hl : xs.length ≤ 100000)
    (q : ∀ x ∈ xs, ∃ e1, g (h x) (wipeD e vs) m = .ok e1 m ∧ elt e1 m = .ok (f x) m) : compM it g tYesD elt vs e m = .ok (xs.map f) m := by
  simp [compM, hi, DL.sizeOk, hl, compL_on xs q]
/-- a list that is done, behind a statement -/
theorem fz_of {i n : Nat} {s : DEnv → M Out} {e e1 : DEnv} {m m1 : Store} {ds : List D} (h : s e m = .ok (.nx e1) m1) (he : e1[i]? = some (some (.loc n))) (hm : m1[n]? = some (some (.lst ds))) : sFz i s e m = .ok (.nx (e1.set i (some (.lst ds)))) (m1.set n none) := by
  unfold sFz
  simp only [bind_ap, h, thn_ok, fzO, frzV, he, frzD, hm, pure_ap]
/-- o.f = v on the instance that is being made -/
theorem attr_of {c i n : Nat} {tab : List (Nat × Nat)} {o v : DEnv → M D} {e : DEnv} {m m1 : Store} {x : D} {ss : List (Option D)} (hv : v e m = .ok x m1) (ho : o e m1 = .ok (.loc n) m1) (hm : m1[n]? = some (some (.ins c ss))) (ht : tab.lookup c = some i) :
    sAttr tab o v e m = .ok (.nx e) (m1.set n (some (.ins c (putD i x ss)))) := by
  unfold sAttr
  simp only [bind_ap, hv, thn_ok, ho]
  have : setAtT tab (.loc n) x m1 = .ok () (m1.set n (some (.ins c (putD i x ss)))) := by
    unfold setAtT setAt
    simp only [clsD, hm, ht]
  rw [this]
  rfl
end DL
namespace DL
open PySem L2
def tps (l : List (List Int)) : List D := l.map fun d => D.tup (ils d)
@[simp] theorem tps_length (l : List (List Int)) : (tps l).length = l.length := by simp [tps]
@[simp] theorem tps_get (l : List (List Int)) (i : Nat) : (tps l)[i]? = (l[i]?).map fun d => D.tup (ils d) := by simp [tps]
@[simp] theorem tps_app (a b : List (List Int)) : tps a ++ tps b = tps (a ++ b) := by simp [tps]
/-- pieces: tuples of tuples of ints -/
def pcs (l : List (List (List Int))) : List D := l.map fun d => D.tup (tps d)
@[simp] theorem pcs_length (l : List (List (List Int))) : (pcs l).length = l.length := by simp [pcs]
@[simp] theorem pcs_get (l : List (List (List Int))) (i : Nat) : (pcs l)[i]? = (l[i]?).map fun d => D.tup (tps d) := by simp [pcs]
theorem und_tps (n : Nat) : ∀ l : List (List Int), D.undL n (tps l) = true
  | [] => rfl
  | q :: r => by
    show (D.und n (.tup (ils q)) && D.undL n (tps r)) = true
    simp [D.und, undL_ints, und_tps n r]
theorem und_pcs (n : Nat) : ∀ l : List (List (List Int)), D.undL n (pcs l) = true
  | [] => rfl
  | q :: r => by
    show (D.und n (.tup (tps q)) && D.undL n (pcs r)) = true
    simp [D.und, und_tps, und_pcs n r]
/-- a list or a tuple -/
def cD (c : Bool) (ds : List D) : D := if c then .tup ds else .lst ds
@[simp] theorem src_cD (c : Bool) (ds : List D) (m : Store) : srcD (cD c ds) m = .ok ⟨ds, []⟩ m := by cases c <;> rfl
@[simp] theorem seq_cD (c : Bool) (ds : List D) (m : Store) : seqD (cD c ds) m = .ok ds m := by cases c <;> rfl
@[simp] theorem len_cD (c : Bool) (ds : List D) (m : Store) : lenD [cD c ds] m = .ok (.int ds.length) m := by cases c <;> rfl
@[simp] theorem isi_cD (cs : List Nat) (c : Bool) (ds : List D) (m : Store) : isiD cs .seq (cD c ds) m = .ok (.bl true) m := by cases c <;> rfl
/-- a row, a piece as they are handed in -/
def rwD (x : List Int × Bool) : D := Sq x.2 x.1
def pcD (x : List (List Int × Bool) × Bool) : D := cD x.2 (x.1.map rwD)
def rwsOf (x : List (List Int × Bool) × Bool) : List (List Int) := x.1.map (·.1)
theorem all_true {α : Type} (xs : List α) (m : Store) : allD [.lst (xs.map fun _ => D.bl true)] m = .ok (.bl true) m := by
  have : (xs.map fun _ => D.bl true) = (xs.map fun _ => true).map D.bl := by simp
  rw [this, all_bls]
  simp
/-- the spots of pieces of so many parts -/
def spG : Nat → List Nat → List (Nat × Nat)
  | _, [] => []
  | i, k :: r => (List.range k).map (fun j => (i, j)) ++ spG (i + 1) r
def spT (q : Nat × Nat) : D := .tup [.int q.1, .int q.2]
theorem undL_spT (n : Nat) : ∀ l : List (Nat × Nat), D.undL n (l.map spT) = true
  | [] => rfl
  | q :: r => by
    show (D.und n (spT q) && D.undL n (r.map spT)) = true
    simp [spT, D.und, D.undL, undL_spT n r]
theorem spG_app : ∀ (i : Nat) (a b : List Nat), spG i (a ++ b) = spG i a ++ spG (i + a.length) b
  | i, [], b => by simp [spG]
  | i, k :: a, b => by
    have := spG_app (i + 1) a b
    simp only [List.cons_append, spG, List.length_cons]
    rw [this, show i + 1 + a.length = i + (a.length + 1) by omega, List.append_assoc]
theorem spG_succ {ks : List Nat} {j k : Nat} (h : ks[j]? = some k) : spG 0 (ks.take (j + 1)) = spG 0 (ks.take j) ++ (List.range k).map fun i => (j, i) := by
  have hj := (List.getElem?_eq_some_iff.mp h).1
  rw [List.take_succ, h]
  show spG 0 (ks.take j ++ [k]) = _
  rw [spG_app, List.length_take, Nat.min_eq_left (by omega), Nat.zero_add]
  simp [spG]
theorem spG_len : ∀ (i : Nat) (ks : List Nat), (spG i ks).length = ks.sum
  | _, [] => rfl
  | i, k :: r => by simp [spG, spG_len (i + 1) r]
end DL
namespace DL
open PySem L2 PyProof.Rows
/-- items in the order of their keys, stably -/
def srtBy {α : Type} (xs : List α) (kz : List PyData) : List α := ((xs.zip kz).mergeSort (PySem.W.dataLe false (·.2))).map (·.1)
section
variable {X : Cx} {pins : List (Addr × Obj)} {σ : L2.St} {H : Hp} {s : Shared}
/-- an address that is younger than all that the running body has -/
structure Ours (X : Cx) (pins : List (Addr × Obj)) (b : Addr) : Prop where
  nl : b ≠ X.env.locals
  nf : b ∉ X.fs
  yg : b ∈ X.ex ∨ X.s_0.heap.objs.size ≤ b
  nc : ∀ x c, X.env.cells.lookup x = some c → c ≠ b
  np : ∀ p ∈ X.pn ++ pins, p.1 ≠ b
theorem ours_of (I : Inv X pins σ H s) {b : Addr} (hb : s.heap.objs.size ≤ b) : Ours X pins b where
  nl := Nat.ne_of_gt (Nat.lt_of_lt_of_le I.lt hb)
  nf := I.nofs hb
  yg := .inr (Nat.le_trans I.sz hb)
  nc := fun x c e z => by
    obtain ⟨v, o, ho, _⟩ := I.cell x c e
    exact absurd (Nat.lt_of_lt_of_le (Heap.lt_size ho) hb) (by rw [z]; exact Nat.lt_irrefl _)
  np := fun p hp z => by
    have ho := (I.pin p hp).1
    exact absurd (Nat.lt_of_lt_of_le (Heap.lt_size ho) hb) (by rw [z]; exact Nat.lt_irrefl _)
theorem each_vals {vs : List V} {us : List Value} (r : Vals vs us) : PySem.W.EachIs (fun u v => RelV v u) us vs := by
  induction r with
  | nil => exact .nil
  | cons h _ ih => exact .cons h ih
theorem each_zip {vs : List V} {us : List Value} {kz : List PyData} (r : PySem.W.EachIs (fun u v => RelV v u) us vs) (hl : kz.length = vs.length) : PySem.W.EachIs (fun u (p : V × PyData) => RelV p.1 u) us (vs.zip kz) := by
  induction r generalizing kz with
  | nil => exact .nil
  | cons h _ ih =>
    match kz, hl with
    | y :: kz, hl => exact .cons h (ih (by simpa using hl))
theorem each_fst {us : List Value} {ps : List (V × PyData)} (r : PySem.W.EachIs (fun u (p : V × PyData) => RelV p.1 u) us ps) : Vals (ps.map (·.1)) us := by
  induction r with
  | nil => exact .nil
  | cons h _ ih => exact .cons h ih
theorem zip_snd {α β : Type} : ∀ {as : List α} {bs : List β}, bs.length = as.length → (as.zip bs).map (·.2) = bs
  | [], [], _ => rfl
  | _ :: _, _ :: _, h => by simp [zip_snd (by simpa using h)]
/-- what came out stands for the items in the order of their keys -/
theorem out_vals {xs : List V} {us out : List Value} {kz : List PyData} (r : Vals xs us) (hl : kz.length = xs.length) (h : PySem.W.KeyedOut false kz us out) : Vals (srtBy xs kz) out := by
  have h' : PySem.W.KeyedOut false ((xs.zip kz).map (·.2)) us out := by rw [zip_snd hl]; exact h
  exact each_fst (PySem.W.keyedOut_each (·.2) h' (each_zip (each_vals r) hl))
theorem mem2 {α : Type} {a b x : α} {l : List α} (h : x ∈ l) : x ∈ a :: b :: l := List.mem_cons_of_mem _ (List.mem_cons_of_mem _ h)
/-- the keys are made one by one, then the items are put in order -/
theorem keys_run {a kS f : Addr} {e1 : Nat} {xs : List V} {us : List Value} {W : Nat → List V → Hp → Prop} {Q : VK} {R : PySem.Fin → Shared → Prop} {E' : Value → Shared → Prop} {A : Around}
    (oa : Ours X pins a) (ok : Ours X pins kS) (hka : kS ≠ a) (hz : us.length ≤ sizeLine) (r : Vals xs us)
    (I : Inv X ((kS, seqObj "list" #[] 0) :: (a, seqObj "list" #[] e1) :: pins) σ H s) (w0 : W 0 [] H)
    (turn : ∀ i x u ks H1 pins1 s1, (∀ p ∈ pins, p ∈ pins1) → xs[i]? = some x → RelV x u → W i ks H1 → Inv X pins1 σ H1 s1 → wpAny (model X.prog X.w) A (call (.ref f) [u]) (EP X pins1 σ fun kv H2 => W (i + 1) (ks ++ [kv]) H2) (fun _ _ => False) s1)
    (fin : ∀ ks H1 s1 pins1 vs, W xs.length ks H1 → Inv X pins1 σ H1 s1 → Vals ks vs → ∃ kz, PySem.W.EachIs (fun v d => ∃ as, Reads s1.heap v d as) vs kz ∧ PySem.W.AllAlike kz ∧ PySem.W.Sortable kz ∧ (∀ d, d ∈ kz → A.units + d.depth < cLine) ∧ kz.length = xs.length ∧ ∀ p, H1 p = none → Q (.ref p) (upd H1 p (.lst (srtBy xs kz))))
    (h : ∀ s2, EP X pins σ Q (.ref a) s2 → R (.done (.ret .none)) s2) :
    wpAny (model X.prog X.w) A (ksk_rest a (.ref f) false us.toArray e1 (.ref kS)) R E' s := by
  have hl := r.length
  unfold ksk_rest
  refine wpAny_bind (wpAny_rule ?_)
  rw [List.forIn_toArray]
  refine wpAny_bind (ksk_fold (fun i s' => ∃ H1 ks kA e, W i ks H1 ∧ Vals ks kA.toList ∧ kA.size = i ∧ Inv X ((kS, seqObj "list" kA e) :: (a, seqObj "list" #[] e1) :: pins) σ H1 s') us 0 s ⟨H, [], #[], 0, w0, .nil, rfl, I⟩ ?step ?done)
  case step =>
    rintro j u s' hu ⟨H1, ks, kA, e, hw, rk, hk, I1⟩
    simp only [Nat.zero_add] at hw hk ⊢
    have hj : j < us.length := (List.getElem?_eq_some_iff.mp hu).1
    obtain ⟨x, hx⟩ : ∃ x, xs[j]? = some x := ⟨_, List.getElem?_eq_getElem (by omega)⟩
    obtain ⟨u', hu', rx⟩ := r.get hx
    rw [hu] at hu'
    cases hu'
    refine wpAny_bind (wpAny_attempt (wpAny_mono (turn j x u ks H1 _ s' (fun p hp => mem2 hp) hx rx hw I1) (fun kv s'' he => ?_) fun _ _ z => z.elim))
    obtain ⟨y, H2, I2, ry, hw2⟩ := he
    obtain ⟨nk, hk0, _, _, _⟩ := I2.pin (kS, seqObj "list" kA e) (List.mem_append_right _ List.mem_cons_self)
    obtain ⟨na, ha0, _, _, _⟩ := I2.pin (a, seqObj "list" #[] e1) (List.mem_append_right _ (List.mem_cons_of_mem _ List.mem_cons_self))
    have sb := Heap.SameBut.update s''.heap kS (Obj.mapSeq (·.push kv))
    obtain ⟨c2, hc2⟩ : ∃ c2, (s''.heap.update kS (Obj.mapSeq (·.push kv))).get? kS = some (seqObj "list" (kA.push kv) c2) := ⟨_, get?_update_seq nk (·.push kv)⟩
    have I3 : Inv X pins σ H2 s'' := I2.pins_of fun p hp => I2.pin p (List.mem_append_right _ (mem2 hp))
    have I4 : Inv X pins σ H2 { s'' with heap := s''.heap.update kS (Obj.mapSeq (·.push kv)) } := I3.turned (t' := s''.toks) (fun b o hb q => (sb.2 b hb).trans q) hk0 ok.nl ok.yg ok.nc ok.np
    have hsz : kA.size ≤ sizeLine := by omega
    have hsz2 : (kA.push kv).size ≤ sizeLine + 1 := by rw [Array.size_push]; omega
    refine wpAny_bind (listUpdate_at nk rfl (wpAny_pure ⟨rfl, H2, ks ++ [y], kA.push kv, c2, hw2, ?_, by rw [Array.size_push]; omega, I4.pins_of fun p hp => ?_⟩) hsz hsz2)
    · rw [Array.toList_push]
      exact rk.append (.cons ry .nil)
    · rcases List.mem_cons.mp hp with rfl | hp
      · exact ⟨hc2, hk0, ok.nl, ok.nf, fun v z => by cases z⟩
      · rcases List.mem_cons.mp hp with rfl | hp
        · exact ⟨(sb.2 a hka.symm).trans na, ha0, oa.nl, oa.nf, fun v z => by cases z⟩
        · exact I4.pin p (List.mem_append_right _ hp)
  case done =>
    rintro s' ⟨H1, ks, kA, e, hw, rk, hk, I1⟩
    simp only [Nat.zero_add] at hw hk
    rw [← hl] at hw
    obtain ⟨kz, ek, hal, hsk, hu, hkl, hq⟩ := fin ks H1 s' _ kA.toList hw I1 rk
    obtain ⟨nk, hk0, _, _, _⟩ := I1.pin (kS, seqObj "list" kA e) (List.mem_append_right _ List.mem_cons_self)
    obtain ⟨na, ha0, _, _, _⟩ := I1.pin (a, seqObj "list" #[] e1) (List.mem_append_right _ (List.mem_cons_of_mem _ List.mem_cons_self))
    have I3 : Inv X pins σ H1 s' := I1.pins_of fun p hp => I1.pin p (List.mem_append_right _ (mem2 hp))
    refine wpAny_bind (listItems_at nk rfl ?_)
    obtain ⟨B, g1, g2⟩ := restrict s'.heap (fun b => decide (b ≠ kS))
    have gB : ∀ b, b ≠ kS → B.get? b = s'.heap.get? b := fun b hb => g1 b (by simpa using hb)
    have nB : B.get? kS = none := g2 kS (by simp)
    refine PySem.W.keyH_end (κ := PySem.W.dataKind s'.heap kz) (h₁ := B) (vs := us) (fun b o _ q => ?_) nB nk na hka (PySem.W.SortsAt.data ek hal hsk hu) hk hz fun h' tk c k' n' => h _ ?_
    · by_cases hb : b = kS
      · rw [hb, nB] at q
        cases q
      · rw [gB b hb] at q
        exact q
    · have kp : ∀ b o, b ∉ [kS, a] → s'.heap.get? b = some o → h'.get? b = some o := fun b o hb q => by
        simp only [List.mem_cons, List.not_mem_nil, or_false, not_or] at hb
        exact k' b o hb.2 (by rw [gB b hb.1]; exact q)
      have hv : Vals (srtBy xs kz) (PySem.W.sortVals (PySem.W.dataKind s'.heap kz) false kA.toList us) := out_vals r hkl ⟨s'.heap, kA.toList, hal, rfl, ek⟩
      have nt : ∀ b u, H1 b = some u → b ∉ [kS, a] := fun b u q hb => by
        simp only [List.mem_cons, List.not_mem_nil, or_false] at hb
        rcases hb with rfl | rfl
        · rw [hk0] at q; cases q
        · rw [ha0] at q; cases q
      have J : Inv X pins σ (upd H1 a (.lst (srtBy xs kz))) { s' with heap := h', toks := tk } := by
        refine I3.step (g' := s'.gens) (d' := s'.drawn) (t' := tk) (ch := [kS, a]) (fun b hb => ?_) (fun b o _ _ hc q _ => kp b o hc q) (fun b o _ _ hc q _ => ⟨o.slots, kp b o hc q⟩) (fun b o hc _ n => ?_) (fun b o hc q => ⟨o, kp b o hc q⟩)
          (fun b ys q => ?_) (fun b o u q => ?_) (fun b ps q => ⟨#[], ?_⟩) (fun m hm => ?_) (fun b u q => ?_) I3.bare
        · simp only [List.mem_cons, List.not_mem_nil, or_false] at hb
          rcases hb with rfl | rfl
          · exact ⟨ok.yg, ok.nl, ok.nc, ok.np⟩
          · exact ⟨oa.yg, oa.nl, oa.nc, oa.np⟩
        · rw [upd_ne (fun z => hc (by rw [z]; simp))]
          exact n
        · rw [upd_ne (ne_of_none q ha0)]
          exact q
        · rw [upd_ne (ne_of_none q ha0)]
          exact q
        · rw [upd_ne (ne_of_none q ha0), q]
          simp
        · obtain ⟨ob, es, ep, ho, rr⟩ := hm
          exact ⟨ob, es, ep, kp _ ob (by simp only [List.mem_cons, List.not_mem_nil, or_false, not_or]; exact ⟨Ne.symm ok.nl, Ne.symm oa.nl⟩) ho, rr⟩
        · by_cases hb : b = a
          · subst hb
            rw [upd_same] at q
            cases q
            refine ⟨?_, _, c, hv, n'⟩
            rw [hv.length]
            rw [PySem.W.sortVals_length false (by rw [Array.length_toList]; exact hk)]
            exact hz
          · rw [upd_ne hb] at q
            refine (I3.hok b u q).stay (fun c2 v hc y => kp c2 v ?_ y) (fun c2 y => ?_) fun c2 ys y => ?_
            · rcases hc with y | y
              · rw [y]; exact nt b u q
              · exact nt c2 _ y
            · rw [upd_ne (ne_of_none y ha0)]
              exact y
            · rw [upd_ne (ne_of_none y ha0)]
              exact y
      exact ⟨.ref a, _, J, rfl, hq a ha0⟩
/-- sorted(xs, key=f) -/
theorem sorted_keyI {l f : Addr} {xs : List V} {W : Nat → List V → Hp → Prop} {Q : VK} (I : Inv X pins σ H s) (hs : SqL X.K H l xs) (w0 : W 0 [] H)
    (turn : ∀ i x u ks H1 pins1 s1, (∀ p ∈ pins, p ∈ pins1) → xs[i]? = some x → RelV x u → W i ks H1 → Inv X pins1 σ H1 s1 → wpAny (model X.prog X.w) X.A.in1.in1 (call (.ref f) [u]) (EP X pins1 σ fun kv H2 => W (i + 1) (ks ++ [kv]) H2) (fun _ _ => False) s1)
    (fin : ∀ ks H1 s1 pins1 vs, W xs.length ks H1 → Inv X pins1 σ H1 s1 → Vals ks vs → ∃ kz, PySem.W.EachIs (fun v d => ∃ as, Reads s1.heap v d as) vs kz ∧ PySem.W.AllAlike kz ∧ PySem.W.Sortable kz ∧ (∀ d, d ∈ kz → X.A.in1.in1.units + d.depth < cLine) ∧ kz.length = xs.length ∧ ∀ p, H1 p = none → Q (.ref p) (upd H1 p (.lst (srtBy xs kz)))) :
    wpAny (model X.prog X.w) X.A (call (.builtin "sorted") [.ref l] [(Str.ofString "key", .ref f)]) (EP X pins σ Q) X.xe s := by
  obtain ⟨its, r, pl, hz⟩ := I.list hs
  have hz' : its.length ≤ sizeLine := by rw [← r.length]; exact hz
  refine PySem.W.sorted_of_sort (vs := its) pl.isList hz' (ksk_s1 _ _) (fun _ => ksk_l1 _ _) fun E' => ?_
  rw [ksk_t1]
  unfold ksk_tree
  have hc := PySem.W.copyHeap_at s.heap its
  generalize hg : PySem.W.copyHeap s.heap its = g at hc
  have gk : ∀ b o, s.heap.get? b = some o → g.get? b = some o := fun b o q => by rw [← hg]; exact PySem.W.copyHeap_old q
  obtain ⟨e1, h1⟩ : ∃ e1, (g.update (s.heap.objs.size + 1) (Obj.mapSeq fun _ => (#[] : Array Value))).get? (s.heap.objs.size + 1) = some (seqObj "list" #[] e1) := ⟨_, get?_update_seq hc fun _ => #[]⟩
  have sb := Heap.SameBut.update g (s.heap.objs.size + 1) (Obj.mapSeq fun _ => (#[] : Array Value))
  generalize hg2 : g.update (s.heap.objs.size + 1) (Obj.mapSeq fun _ => (#[] : Array Value)) = g2 at h1 sb
  refine wpAny_bind (listItems_at hc rfl (wpAny_bind (listUpdate_at hc rfl ?_ (by rw [List.size_toArray]; exact hz') (Nat.zero_le _))))
  rw [hg2]
  refine wpAny_bind (seqEpoch_at h1 rfl (wpAny_bind (wpAny_newTuple (wpAny_bind (wpAny_newList (wpAny_holding ?_) (Nat.zero_le _))) (by show its.length ≤ _; exact hz'))))
  have l2 : s.heap.objs.size + 1 < g2.objs.size := Heap.lt_size h1
  have kp : ∀ b o, s.heap.get? b = some o → ((g2.push (seqObj "tuple" its.toArray 0)).push (seqObj "list" #[] 0)).get? b = some o := fun b o q =>
    Heap.get?_push_of_some _ (Heap.get?_push_of_some _ ((sb.2 b (Nat.ne_of_lt (Nat.lt_succ_of_lt (Heap.lt_size q)))).trans (gk b o q)))
  have I1 : Inv X pins σ H { s with heap := (g2.push (seqObj "tuple" its.toArray 0)).push (seqObj "list" #[] 0) } := I.kept (t' := s.toks) kp
  have oa : Ours X pins (s.heap.objs.size + 1) := ours_of I (Nat.le_succ _)
  have lk : s.heap.objs.size ≤ (g2.push (seqObj "tuple" its.toArray 0)).objs.size := by rw [Heap.size_push]; omega
  have ok : Ours X pins (g2.push (seqObj "tuple" its.toArray 0)).objs.size := ours_of I lk
  have hka : (g2.push (seqObj "tuple" its.toArray 0)).objs.size ≠ s.heap.objs.size + 1 := by rw [Heap.size_push]; omega
  refine keys_run (X := X) (pins := pins) (e1 := e1) (Q := Q) oa ok hka hz' r (I1.pins_of fun p hp => ?_) w0 turn fin fun s2 h2 => ⟨rfl, h2⟩
  rcases List.mem_cons.mp hp with rfl | hp
  · exact ⟨Heap.get?_push_size _ rfl, I.hok.fresh lk, ok.nl, ok.nf, fun v z => by cases z⟩
  · rcases List.mem_cons.mp hp with rfl | hp
    · exact ⟨Heap.get?_push_of_some _ (Heap.get?_push_of_some _ h1), I.hok.fresh (Nat.le_succ _), oa.nl, oa.nf, fun v z => by cases z⟩
    · exact I1.pin p (List.mem_append_right _ hp)
end
end DL
namespace DL
open PySem L2 PyProof.Rows
/-- the items' keys; the store is kept -/
def keysM (kf : D → M D) : List D → Store → Option (List PyData)
  | [], _ => some []
  | d :: ds, m => match kf d m with
    | .ok kd m' => if m' = m then (match toPD kd, keysM kf ds m with | some x, some xs => some (x :: xs) | _, _ => none) else none
    | _ => none
def isTc : PyData → Bool
  | .tuple (_ :: _) => true
  | _ => false
def isOt : PyData → Bool
  | .tuple _ => false
  | .none => false
  | _ => true
/-- keys that can be put in order -/
def kzOk (kz : List PyData) : Bool := (kz.all fun a => kz.all (PySem.W.alike a)) && (kz.all isTc || kz.all isOt) && kz.all fun d => decide (d.depth ≤ 40)
theorem kz_alike {kz : List PyData} (h : kzOk kz = true) : PySem.W.AllAlike kz := fun d hd d' hd' => by
  simp only [kzOk, Bool.and_eq_true, List.all_eq_true] at h
  exact h.1.1 d hd d' hd'
theorem kz_sort {kz : List PyData} (h : kzOk kz = true) : PySem.W.Sortable kz := by
  simp only [kzOk, Bool.and_eq_true, Bool.or_eq_true, List.all_eq_true] at h
  rcases h.1.2 with q | q
  · refine .inl fun d hd => ?_
    have := q d hd
    match d, this with
    | .tuple (x :: r), _ => exact ⟨x, r, rfl⟩
  · refine .inr fun d hd => ?_
    have := q d hd
    match d, this with
    | .int _, _ => exact ⟨by simp, by simp⟩
    | .bool _, _ => exact ⟨by simp, by simp⟩
    | .str _, _ => exact ⟨by simp, by simp⟩
    | .list _, _ => exact ⟨by simp, by simp⟩
    | .dict _, _ => exact ⟨by simp, by simp⟩
theorem kz_deep {kz : List PyData} (h : kzOk kz = true) {d : PyData} (hd : d ∈ kz) : d.depth ≤ 40 := by
  simp only [kzOk, Bool.and_eq_true, List.all_eq_true, decide_eq_true_eq] at h
  exact h.2 d hd
def sortR (kf : D → M D) (ds : List D) : M D := fun m => match keysM kf ds m with
  | some kz => if kzOk kz = true then .ok (.lst (srtBy ds kz)) m else .bad
  | none => .bad
def sortKD (kf : D → M D) (x : D) : M D := match x with
  | .tup _ => M.bad
  | _ => seqD x >>= sortR kf
theorem keysM_len {kf : D → M D} {m : Store} : ∀ {ds : List D} {kz : List PyData}, keysM kf ds m = some kz → kz.length = ds.length
  | [], _, h => by cases h; rfl
  | d :: ds, kz, h => by
    unfold keysM at h
    split at h
    · split at h
      · split at h
        · rename_i h2
          cases h
          simp [keysM_len h2]
        · cases h
      · cases h
    · cases h
theorem keysM_at {kf : D → M D} {m : Store} : ∀ {ds : List D} {kz : List PyData} {i : Nat} {d : D}, keysM kf ds m = some kz → ds[i]? = some d → ∃ kd x, kf d m = .ok kd m ∧ toPD kd = some x ∧ kz[i]? = some x
  | [], _, _, _, _, h => by simp at h
  | d :: ds, kz, i, d', h, hi => by
    unfold keysM at h
    split at h
    · rename_i kd m' e
      split at h
      · rename_i em
        subst em
        split at h
        · rename_i x xs e1 e2
          cases h
          cases i with
          | zero =>
            simp at hi
            subst hi
            exact ⟨kd, x, e, e1, rfl⟩
          | succ i =>
            obtain ⟨kd', x', q1, q2, q3⟩ := keysM_at e2 (i := i) (by simpa using hi)
            exact ⟨kd', x', q1, q2, by simpa using q3⟩
        · cases h
      · cases h
    · cases h
section
variable {k : Kx} {X : Cx} {E : XK} {pins : List (Addr × Obj)} {σ : L2.St} {H : Hp} {s : Shared}
theorem rpA_each {G : Hp} {L : Lam} {vs : List V} {ds : List D} (r : RpA k X.K G L vs ds) : PySem.W.EachIs (fun v d => Rp k X.K G L v d) vs ds := by
  induction vs generalizing ds with
  | nil => cases r; exact .nil
  | cons v vs ih =>
    cases r with
    | cons h t => exact .cons h (ih t)
theorem each_rpA {G : Hp} {L : Lam} {vs : List V} {ds : List D} (r : PySem.W.EachIs (fun v d => Rp k X.K G L v d) vs ds) : RpA k X.K G L vs ds := by
  induction r with
  | nil => exact .nil
  | cons h _ ih => exact .cons h ih
theorem each_zip2 {α β : Type} {R : α → β → Prop} {as : List α} {bs : List β} (r : PySem.W.EachIs R as bs) : ∀ {kz : List PyData}, PySem.W.EachIs (fun (p : α × PyData) (q : β × PyData) => R p.1 q.1 ∧ p.2 = q.2) (as.zip kz) (bs.zip kz) := by
  induction r with
  | nil => exact .nil
  | cons h _ ih =>
    intro kz
    cases kz with
    | nil => exact .nil
    | cons y kz => exact .cons ⟨h, rfl⟩ ih
theorem each_fst2 {α β : Type} {R : α → β → Prop} {as : List (α × PyData)} {bs : List (β × PyData)} (r : PySem.W.EachIs (fun (p : α × PyData) (q : β × PyData) => R p.1 q.1 ∧ p.2 = q.2) as bs) : PySem.W.EachIs R (as.map (·.1)) (bs.map (·.1)) := by
  induction r with
  | nil => exact .nil
  | cons h _ ih => exact .cons h.1 ih
theorem dataLe_snd {α β : Type} (p q : α × PyData) (p' q' : β × PyData) (h : p.2 = p'.2) (h' : q.2 = q'.2) : PySem.W.dataLe false (·.2) p q = PySem.W.dataLe false (·.2) p' q' := by
  unfold PySem.W.dataLe PySem.W.sortLe
  simp only [h, h']
theorem srt_rpA {G : Hp} {L : Lam} {vs : List V} {ds : List D} (r : RpA k X.K G L vs ds) (kz : List PyData) : RpA k X.K G L (srtBy vs kz) (srtBy ds kz) := by
  have z := each_zip2 (rpA_each r) (kz := kz)
  refine each_rpA (each_fst2 (PySem.W.sort_each z fun p hp q hq => ?_))
  exact dataLe_snd _ _ _ _ (z.zip p hp).2 (z.zip q hq).2
/-- the turns of the keys, by a denotation of the key's call -/
def rSortK (k : Kx) (K : PySem.W.Frag) (kf : D → M D) : V → Hp → VK → Prop := fun x H Q => ∃ a xs ds kz G L μ, x = .ref a ∧ SqL K H a xs ∧ RpA k K G L xs ds ∧ Wd k K G H L μ ∧ keysM kf ds μ = some kz ∧ kzOk kz = true ∧
  ∀ G' H' L', Stp G H L G' H' L' → Wd k K G' H' L' μ → ∀ p, H' p = none → Q (.ref p) (upd H' p (.lst (srtBy xs kz)))
theorem sortK_run {f : Addr} {kf : D → M D} {x : V} {u : Value} {Q : VK} (J : Hp → Prop) (j0 : J H) (hu : X.A.units + 60 < cLine)
    (call1 : ∀ (v : V) (d kd : D) (w : Value) (G1 H1 : Hp) (L1 : Lam) (μ : Store) (pins1 : List (Addr × Obj)) (s1 : Shared) (Q1 : VK), (∀ p ∈ pins, p ∈ pins1) → J H1 → Inv X pins1 σ H1 s1 → RelV v w → Rp k X.K G1 L1 v d → Wd k X.K G1 H1 L1 μ → kf d μ = .ok kd μ →
      (∀ G2 H2 L2, Stp G1 H1 L1 G2 H2 L2 → Wd k X.K G2 H2 L2 μ → J H2 → ∀ y, Rp k X.K G2 L2 y kd → Q1 y H2) → wpAny (model X.prog X.w) X.A.in1.in1 (call (.ref f) [w]) (EP X pins1 σ Q1) (fun _ _ => False) s1)
    (I : Inv X pins σ H s) (rx : RelV x u) (h : rSortK k X.K kf x H Q) :
    wpAny (model X.prog X.w) X.A (call (.builtin "sorted") [u] [(Str.ofString "key", .ref f)]) (EP X pins σ Q) X.xe s := by
  obtain ⟨a, xs, ds, kz, G, L, μ, rfl, hs, ra, w, hk, hok, hq⟩ := h
  cases (show u = Value.ref a from rx)
  have kl := keysM_len hk
  have xl := ra.len
  refine sorted_keyI (Q := Q) (W := fun i ks H1 => J H1 ∧ ∃ G1 L1, Stp G H L G1 H1 L1 ∧ Wd k X.K G1 H1 L1 μ ∧ DpAll X.K H1 ks (kz.take i) ∧ ∃ kds, RpA k X.K G1 L1 ks kds ∧ toPDs kds = some (kz.take i)) I hs ⟨j0, G, L, Stp.refl G H L, w, .nil, [], .nil, rfl⟩ (fun i x u ks H1 pins1 s1 hpn hx rx hw I1 => ?_) fun ks H1 s1 pins1 vs hw I1 rk => ?_
  · obtain ⟨j1, G1, L1, st, w1, dp, kds, rk, hkd⟩ := hw
    obtain ⟨d, hd, rd⟩ := ra.get2 hx
    obtain ⟨kd, y, e1, e2, e3⟩ := keysM_at hk hd
    refine call1 x d kd u G1 H1 L1 μ pins1 s1 _ hpn j1 I1 rx (Rp.mono st.g st.l _ _ rd) w1 e1 fun G2 H2 L2 st2 w2 j2 z rz => ?_
    have et : kz.take (i + 1) = kz.take i ++ [y] := by rw [List.take_add_one, e3]; rfl
    have rk2 := RpA.append (RpA.mono st2.g st2.l _ _ rk) (.cons rz .nil)
    have tp : toPDs (kds ++ [kd]) = some (kz.take (i + 1)) := by
      rw [et]
      clear rk2 rk dp et
      generalize kz.take i = ts at hkd
      induction kds generalizing ts with
      | nil => simp only [toPDs] at hkd; cases hkd; simp [toPDs, e2]
      | cons q qs ih =>
        obtain ⟨y1, ys, rfl, h1, h2⟩ := toPDs_cons hkd
        simp [toPDs, h1, ih ys h2]
    exact ⟨j2, G2, L2, st.trans st2, w2, dpA_of (X := X) w2.ext _ _ _ rk2 tp, kds ++ [kd], rk2, tp⟩
  · obtain ⟨_, G1, L1, st, w1, dp, _⟩ := hw
    have ek : kz.take xs.length = kz := List.take_of_length_le (by omega)
    rw [ek] at dp
    refine ⟨kz, ?_, kz_alike hok, kz_sort hok, fun d hd => ?_, by omega, hq G1 H1 L1 st w1⟩
    · obtain ⟨as, hr⟩ := Dp.readsAll I1 kz ks vs dp rk
      clear ek kl hk hok hq
      exact PySem.W.readsAll_each id (by rw [List.map_id]; exact hr)
    · have := kz_deep hok hd
      show X.A.units + 1 + 1 + d.depth < cLine
      omega
end
end DL
namespace DL
open PySem L2 PyProof.Rows
section
variable {k : Kx} {X : Cx} {E : XK}
/-- what the denotation says, from its goodness -/
theorem sortK_good {kf : D → M D} {d : D} {x : V} {G H : Hp} {L : Lam} {μ : Store} {Q : VK} (r : Rp k X.K G L x d) (w : Wd k X.K G H L μ) (g : Good k X.K E G H L (sortKD kf d μ) (QV k X.K Q)) : rSortK k X.K kf x H Q := by
  have key : (∀ t, d ≠ .tup t) → Good k X.K E G H L ((seqD d >>= sortR kf) μ) (QV k X.K Q) → rSortK k X.K kf x H Q := fun nt g => by
    obtain ⟨a, vs, ds, rfl, ra, hs, g2⟩ := seq_of r w g
    unfold sortR at g2
    cases hk : keysM kf ds μ with
    | none => rw [hk] at g2; exact False.elim g2
    | some kz =>
      rw [hk] at g2
      simp only at g2
      by_cases hok : kzOk kz = true
      · rw [if_pos hok] at g2
        rcases hs with ⟨hs, _⟩ | ⟨_, z⟩
        · refine ⟨a, vs, ds, kz, G, L, μ, rfl, hs, ra, w, hk, hok, fun G' H' L' st w' p hp => ?_⟩
          have g3 := Good.up g2 st
          exact g3 _ _ _ (w'.newS hp) (w'.new hp) _ (.lst (SqL.of upd_same) (srt_rpA (RpA.mono (Same.trans st.g (w'.newS (o := .lst (srtBy vs kz)) hp).g) st.l _ _ ra) kz))
        · exact absurd z (nt _)
      · rw [if_neg hok] at g2
        exact False.elim g2
  cases d with
  | tup t => exact False.elim g
  | _ => exact key (fun _ z => nomatch z) g
end
end DL
namespace DL
open PySem L2 PyProof.Rows
def lenK (d : D) : M D := seqD d >>= fun ds => mkT [.int ds.length, d]
def isDs (ds t : List D) : M Unit := fun m => if t = ds then .ok () m else .bad
def sortLD (x : D) : M D := sortKD lenK x
section
variable {k : Kx} {X : Cx} {E : XK} {pins : List (Addr × Obj)} {σ : L2.St} {H : Hp} {s : Shared}
/-- a lambda of one parameter that captures nothing is called; it raises nothing -/
theorem lam1_run {f c' : Addr} {params : Arguments} {body : Expr} {scope : Scope} {pm ctv : Value} {x q : Str} {A : Around} {lvl : Nat} {v : V} {u : Value} {Q : VK} {t : TE} (S : FnScope [x] [x] scope) (hf : s.heap.get? f = some (PySem.W.kla_obj "<lambda>" q params body scope [] pm c' ctv))
    (hc : H c' = some (LamX.CodeO c' q)) (hbind : bindArgs (PySem.W.kla_fn "<lambda>" q params body scope [] pm (.ref c') ctv) ⟨[u], []⟩ = pure [(x, u)]) (hr : Room (lvl + 1) A) (e0 : Env0 X.prog X.w X.K X.mg X.base A X.stack s H) (I : Inv X pins σ H s) (rv : RelV v u)
    (hb : PE (cxOf (L2.CX X.prog X.w) X.prog X.w X.K X.mg X.base [x] q scope f (.ref c') A X.stack s H (fun _ _ _ => False)) body t) (ht : t (start [x] [v]) H Q) :
    wpAny (model X.prog X.w) A (call (.ref f) [u]) (EP X pins σ Q) (fun _ _ => False) s := by
  obtain ⟨⟨oc, vs, tk, hoc, hdc, hvc⟩, _, _⟩ := I.hok c' _ hc
  have rc : codeAny (model X.prog X.w) A (.call (.ref f) ⟨[u], []⟩) (CR (L2.CX X.prog X.w) X.stack X.prog X.w H s Q fun _ _ _ => False) s := by
    refine PySem.W.kla_callFunE hr.depth hf rfl S.co S.gen rfl ⟨c', oc, vs, tk, rfl, hoc, hdc, hvc⟩ ?_
    rw [hbind]
    have hkind : ∀ y ∈ [(x, u)], scope.names.lookup y.1 = some .local ∨ (scope.names.lookup y.1 = some .cell ∧ ((cellsFrom (s.heap.objs.size + 1) scope.names []).lookup y.1).isSome = true) := fun y hy => by
      rw [List.mem_singleton.mp hy]
      rcases S.par x (by simp) with z | z
      · exact .inl z
      · exact .inr ⟨z, PySem.W.cellsFrom_some _ _ _ (.inl z)⟩
    refine wpAny_pure (wpAny_newFunctionEnv_cells S.kind hkind fun env he s1 z => ?_)
    subst he
    refine ⟨I.nolimit.keeps z.toInCall.keep, ?_⟩
    have J : Inv (cxOf (L2.CX X.prog X.w) X.prog X.w X.K X.mg X.base [x] q scope f (.ref c') A X.stack s H (fun _ _ _ => False)) [] (start [x] [v]) H s1 := inv_start S hr.hd e0 rfl (.cons rv .nil) z
    refine PySem.W.kla_codeExpr (wpAny_mono (hb.run [] s1 _ H Q J ht) (fun v' s' hq => ?_) fun e s' hq => hq)
    obtain ⟨w', H', J', rv', q'⟩ := hq
    exact ⟨w', H', J'.os, J'.bare, J'.base, J'.hok, rv', q'⟩
  refine wpAny_call (codeAny_mono rc fun r s' hq => ?_)
  cases r with
  | error e =>
    obtain ⟨_, _, _, _, _, _, _, _, _, _, _, _, z⟩ := hq
    exact z.elim
  | ok fl =>
    cases fl with
    | ret u => exact I.after hq
    | next => exact False.elim hq
    | brk => exact False.elim hq
    | cont => exact False.elim hq
theorem nofs_of (I : Inv X pins σ H s) {f : Addr} (h : f ∉ frs X.stack) : f ∉ X.fs := fun z => by
  rcases I.ok.stk with e | ⟨e, hf⟩
  · exact h (by rw [e]; exact z)
  · refine h ?_
    rw [e]
    unfold frs
    rw [List.filterMap_cons, hf]
    exact List.mem_cons_of_mem _ z
theorem ep_pins {p : Addr × Obj} {Q : VK} {u : Value} {s' : Shared} (h : EP X (p :: pins) σ Q u s') : EP X pins σ Q u s' := by
  obtain ⟨v, H', I, r, q⟩ := h
  exact ⟨v, H', I.pins_of fun p hp => I.pin p (List.mem_append_right _ (List.mem_cons_of_mem _ hp)), r, q⟩
theorem lenK_good {d kd : D} {μ : Store} (h : lenK d μ = .ok kd μ) : ∃ ds, seqD d μ = .ok ds μ ∧ kd = .tup [.int ds.length, d] := by
  unfold lenK at h
  rw [bind_ap] at h
  cases e : seqD d μ with
  | ok ds m =>
    rw [e] at h
    simp at h
    exact ⟨ds, by rw [h.2], h.1.symm⟩
  | exn c fs m => rw [e] at h; cases h
  | bad => rw [e] at h; cases h
theorem j_sortL {a : Expr} {ma : DEnv → M D} {x : Str} {params : Arguments} {scope : Scope} {lpos p p1 p2 p3 p4 p5 kpos pos : Pos} {cx : Nat} {c P : Addr} (TB : LamX.TabB X.base X.mg c P) (hcode : X.env.code = .ref c) (hmT : (P, X.env.qual ++ "<lambda>") ∈ k.tb) (hu : ∀ p ∈ k.tb, p.1 = P → p.2 = X.env.qual ++ "<lambda>")
    (hr : Room 4 X.A) (S : FnScope [x] [x] scope) (hcl : cloFrom X.env.cells scope.names [] = []) (hdef : defaultsOf params X.env = ([], []))
    (hbind : ∀ (q : Str) (pm cv ctv u : Value) (body : Expr), bindArgs (PySem.W.kla_fn "<lambda>" q params body scope [] pm cv ctv) ⟨[u], []⟩ = pure [(x, u)])
    (hg : Gl X "sorted") (hm : X.mg "sorted" = none) (hml : X.mg "len" = none) (hgl : scope.names.lookup ("len" : Str) = some .globalImplicit) (hxl : scope.names.lookup x = some .local) (hfree : ∀ y ∈ scope.names, y.2 ≠ .free) (ha : JE k X E a ma)
    (hxd : (x == ("__debug__" : Str)) = false := by decide) (hxc : (x == ("__classdict__" : Str)) = false := by decide) (h1 : starEach [a] X.env = [(false, eval a X.env)] := by rfl)
    (he : backTo pos (starEach [a] X.env) = (false, eval a X.env) :: backTo pos (starEach [] X.env) := by rfl) (hpl : (backTo pos (starEach [a] X.env)).any (·.1) = false := by rfl)  :
    JE k X E (.Call (.Name "sorted" p) [a] [⟨some "key", .Lambda params (.Tuple [.Call (.Name "len" p1) [.Name x p2] [] p3, .Name x p4] cx p5) scope lpos, kpos⟩] pos) (eUn sortLD ma) := by
  refine ⟨fun pins s σ H Q I h => ?_⟩
  have hun : X.A.units + 60 < cLine := by have := hr.un; omega
  obtain ⟨e, G, L, μ, sg, w, gd⟩ := h
  refine wpAny_Call_Name_kw (ld_blt (u := .builtin "sorted") I hg hm (by decide +kernel) ?_ (by decide) (by decide))
  have ht : (tCons (dE k X.K E ma) tNil) σ H fun xs H1 => ∃ x, xs = [x] ∧ ∃ G1 L1 μ1 d1, Rp k X.K G1 L1 x d1 ∧ Wd k X.K G1 H1 L1 μ1 ∧ Good k X.K E G1 H1 L1 (sortLD d1 μ1) (QV k X.K Q) :=
    ⟨e, G, L, μ, sg, w, Good.mono (Good.bind gd) fun d1 m1 G1 H1 L1 st1 w1 q1 x r1 => ⟨x, rfl, G1, L1, m1, d1, r1, w1, q1⟩⟩
  refine PyProof.Rows.callWith_kw (thn ((pa_cons ha pa_nil h1).run pos pins s σ H _ I ht) fun us s1 hq => ?_) he hpl rfl rfl
  obtain ⟨vs, H1, I1, r1, x0, rfl, G1, L1, μ1, d1, rd, w1, g1⟩ := hq
  obtain ⟨u0, rfl, ru⟩ := r1.one
  show wpAny _ _ (evalAll ((do let v ← eval (.Lambda params _ scope lpos) X.env; standAt pos; pure v) :: [])) _ _ s1
  refine wpAny_evalAll_cons (wpAny_bind (LamX.lam_make2 (T := k.tb) I1 TB hcode hmT hu w1.tab hdef (fun y hy z => absurd z (hfree y hy)) fun f c' pm ctv H2 s2 I2 ex tb hf hfn hfs hc' => wpAny_bind (wpAny_standAt (wpAny_pure (wpAny_evalAll_nil ?_)))))
  rw [hcl] at hf
  have nl : f ≠ X.env.locals := fun z => by
    obtain ⟨m, ⟨o, es, ep, ho, r⟩, _⟩ := I2.loc
    rw [← z, hf] at ho
    cases ho
    obtain ⟨h1, h2⟩ := r
    cases h1
  have I3 : Inv X ((f, PySem.W.kla_obj "<lambda>" (X.env.qual ++ "<lambda>") params (.Tuple [.Call (.Name "len" p1) [.Name x p2] [] p3, .Name x p4] cx p5) scope [] pm c' ctv) :: pins) σ H2 s2 := I2.pins_of fun p hp => by
    rcases List.mem_cons.mp hp with rfl | hp
    · exact ⟨hf, hfn, nl, nofs_of I2 hfs, fun v z => by cases z⟩
    · exact I2.pin p (List.mem_append_right _ hp)
  have w2 : Wd k X.K G1 H2 L1 μ1 := lam_wd w1 ex tb
  have g2 : Good k X.K E G1 H2 L1 (sortLD d1 μ1) (QV k X.K Q) := Good.up g1 (lam_stp ex)
  have rs := sortK_good rd w2 g2
  show wpAny _ _ (call (.builtin "sorted") [u0] [(Str.ofString "key", .ref f)]) _ _ s2
  refine wpAny_mono (sortK_run (k := k) (kf := lenK) (fun Hx => Hx c' = some (LamX.CodeO c' (X.env.qual ++ "<lambda>"))) hc' hun (fun v d kd u G3 H3 L3 μ3 pins3 s3 Q3 hpn hj I4 rv rd3 w3 e3 q3 => ?_) I3 ru rs) (fun _ _ z => ep_pins z) fun _ _ z => z
  obtain ⟨ds, es, rfl⟩ := lenK_good e3
  have hf3 := (I4.pin _ (List.mem_append_right _ (hpn _ List.mem_cons_self))).1
  have gs : Good k X.K E G3 H3 L3 ((seqD d >>= isDs ds) μ3) (fun _ _ _ _ _ => True) := by
    rw [bind_ap, es, thn_ok]
    unfold isDs
    rw [if_pos rfl]
    exact fun _ _ _ _ _ => trivial
  obtain ⟨a3, vs3, ds3, rfl, ra3, hs3, g3⟩ := seq_of rd3 w3 gs
  unfold isDs at g3
  have ed : ds3 = ds := by
    by_cases z : ds3 = ds
    · exact z
    · rw [if_neg z] at g3
      exact False.elim g3
  subst ed
  refine lam1_run (lvl := 1) (x := x) S hf3 hj (hbind _ _ _ _ _ _) hr.in1.in1 I4.env0.in1.in1 I4 rv (pe_tup (pa_cons (pe_callB call_len_seq (show Gl _ _ from hgl) hml (by decide +kernel) (pa_cons (pe_var (i := 0) rfl (.inl hxl) hxd hxc) pa_nil)) (pa_cons (pe_var (i := 0) rfl (.inl hxl) hxd hxc) pa_nil))) ?_
  refine ⟨.ref a3, rfl, a3, vs3, rfl, ?_, .ref a3, rfl, (show 2 ≤ sizeLine by decide), fun p hp => ?_⟩
  · rcases hs3 with ⟨z, _⟩ | ⟨z, _⟩
    · exact .inl z
    · exact .inr z
  · refine q3 _ _ _ (w3.newS hp) (w3.new hp) ?_ (.ref p) (.tup (SqT.of upd_same) (.cons ?_ (.cons (Rp.mono (w3.newS hp).g (pre_refl L3) _ _ rd3) .nil)))
    · rw [upd_ne (ne_of_none hj hp)]
      exact hj
    · rw [ra3.len]
      exact .int _
end
end DL
namespace DL
open PySem L2 PyProof.Rows
/-- a def of the text with defaults: dvs, which stand for ds -/
structure FAD (k : Kx) (K : PySem.W.Frag) (x qual : Str) (st : Stmt) (ps : List Str) (ds : List D) (f : Addr) : Prop where
  ex : ∃ fd dvs, L2.FunD K x qual (defArgs st) (defBody st) (defScope st) dvs [] f fd ∧ dvs ≠ [] ∧ ∀ G L, RpA k K G L dvs ds
section
variable {k : Kx} {P : Program} {w : World} {K : PySem.W.Frag} {mg : Str → Option Value} {base : Heap}
theorem FAD.kp {x qual : Str} {st : Stmt} {ps : List Str} {ds : List D} {f : Addr} (F : FAD k K x qual st ps ds f) : PySem.W.keepIn K (.ref f) = true := let ⟨_, _, h, _⟩ := F.ex; h.kp
end
end DL
namespace DL
open PySem L2 PyProof.Rows
open AutoSeq1 (wpAny_loadPart')
end DL
namespace LA
/-- rows of n numbers below p -/
structure Vec (p : Int) (n : Nat) (r : List Int) : Prop where
  len : r.length = n
  inn : ∀ x ∈ r, 0 ≤ x ∧ x < p
def at_ (r : List Int) (i : Nat) : Int := r.getD i 0
def leadR (r : List Int) : Nat := r.findIdx fun a => a != 0
def Ap (r s : List Int) : Prop := at_ s (leadR r) = 0 ∧ at_ r (leadR s) = 0
theorem Ap.symm {r s : List Int} (h : Ap r s) : Ap s r := ⟨h.2, h.1⟩
structure Red (p : Int) (n : Nat) (R : List (List Int)) : Prop where
  vec : ∀ r ∈ R, Vec p n r
  ld : ∀ r ∈ R, leadR r < n ∧ at_ r (leadR r) = 1
  ap : R.Pairwise Ap
theorem Red.nil (p : Int) (n : Nat) : Red p n [] := ⟨fun r h => (by cases h), fun r h => (by cases h), .nil⟩
end LA
namespace DL
open PySem L2
end DL
namespace DL
open PySem L2 PyProof.Rows
def gSq (n : Nat) (g : List D → DEnv → M DEnv) : D → DEnv → M DEnv := fun d e => match d with
  | .tup ds => if ds.length = n then g ds e else M.bad
  | .lst ds => if ds.length = n then g ds e else M.bad
  | _ => M.bad
@[simp] theorem gSq_tup (e : DEnv) (m : Store) (n : Nat) (g : List D → DEnv → M DEnv) (ds : List D) (h : ds.length = n) : gSq n g (.tup ds) e m = g ds e m := by simp [gSq, h]
@[simp] theorem gSq_lst (e : DEnv) (m : Store) (n : Nat) (g : List D → DEnv → M DEnv) (ds : List D) (h : ds.length = n) : gSq n g (.lst ds) e m = g ds e m := by simp [gSq, h]
end DL
namespace DL
open PySem L2
end DL
namespace DL
open PySem L2 PyProof.Rows
end DL
namespace DL
open PySem L2
end DL
namespace DL
open PySem L2 PyProof.Rows
def obsE (as : List Addr) (ok : PySem.W.Frag → Bool) (fs : List Addr) (g : Addr → Option Obj) : Bool × List (Option Obj) := (ok (He.frG g as), fs.map fun a => (He.frG g as).lookup a)
structure OkE (ok : PySem.W.Frag → Bool) (fs : List Addr) (vs : List (Option Obj)) (K : PySem.W.Frag) : Prop where
  c : ok K = true
  l : fs.map (fun a => K.lookup a) = vs
def hookE (as : List Addr) (ok : PySem.W.Frag → Bool) (fs : List Addr) (vs : List (Option Obj)) : PySem.W.Hook where
  α := Bool × List (Option Obj)
  obs := fun s => obsE as ok fs s.heap.get?
  val := fun _ => (true, vs)
  says := fun _ h => ∃ K : PySem.W.Frag, K.In h ∧ OkE ok fs vs K
  of := fun _ s x => ⟨He.frG s.heap.get? as, He.frG_in, (Prod.mk.inj x).1, (Prod.mk.inj x).2⟩
  keeps := fun _ _ _ x k => let ⟨K, i, r⟩ := x; ⟨K, fun a o e => k a o (i a o e), r⟩
theorem obsE_eq (as : List Addr) (ok : PySem.W.Frag → Bool) (fs : List Addr) (vs : List (Option Obj)) (s : PySem.W.SharedT) : obsE as ok fs (HandSHeadRun.getT s) = (hookE as ok fs vs).obs s.abs := by
  have e : HandSHeadRun.getT s = s.abs.heap.get? := funext (HandSHeadRun.getT_eq s)
  rw [e]
  rfl
theorem OkE.at_ {ok : PySem.W.Frag → Bool} {fs : List Addr} {vs : List (Option Obj)} {K : PySem.W.Frag} (h : OkE ok fs vs K) (i : Nat) {a : Addr} {v : Option Obj} (ha : fs[i]? = some a) (hv : vs[i]? = some v) : K.lookup a = v := by
  have := congrArg (fun l => l[i]?) h.l
  simp only [List.getElem?_map, ha, hv, Option.map_some] at this
  exact Option.some.inj this
/-- the end: ms are the defs that make lambdas; K is what the head's look tells of -/
theorem law_walkE {l : PySem.W.OpenLaw} {q : Program} {loose : List Str} {XP : (Str → Option Value) → Heap → Prop} {YP : World → Heap → Prop} {d : DefRec} {OK : PySem.W.Frag → Prop} {lvl : Nat} (hn : l.most = some 63) (himp : importsNone q = true) (hdf : d.params.defaults = []) (hr : Room lvl callerA)
    (hY : ∀ (w : World) (h : Heap), YP w h → ∃ K : PySem.W.Frag, K.In h ∧ OK K) (ms : List Str) (hms : ms.all (fun x => (recsOf q).any fun r => r.name == x) = true) (hnt : ∀ K, OK K → K.all (fun p => !tab0 p.2) = true)
    (F : ∀ (w : World) (mg : Str → Option Value) (fa : Addr) (h : Heap) (K : PySem.W.Frag), OK K → K.In h → h.Ns mainGlobals mg → mg d.name = some (.ref fa) → ∀ cs : List (Addr × Addr × Addr), cs.length = ms.length → (∀ (i : Nat) (x : Str) (p : Addr × Addr × Addr), ms[i]? = some x → cs[i]? = some p → MkT mg h x p.1 p.2.1 p.2.2) →
      ∃ (tb : List (Addr × Str)), (∀ p ∈ tb, ∃ r ∈ cs, r.2.2 = p.1) ∧ ∀ base : Heap, K.In base → base.Ns mainGlobals mg → SysD base → (∀ r ∈ cs, LamX.TabB base mg r.2.1 r.2.2) → FnG l.prog w K mg base lvl fa (spLaw tb K)) :
    PySem.W.WalkO q loose XP YP l.row.toRowW d [] (fun f vs => PySem.call f vs) := by
  refine Att.attach_callB hn hdf fun w s0 s1 mg mb fa o pm cd doc a vs ns G Y _ _ _ hmg hobj hints hlen _ hgen => ?_
  obtain ⟨K, inK, okK⟩ := hY w _ Y
  have pick : ∀ l : List Str, l.all (fun x => (recsOf q).any fun r => r.name == x) = true → ∃ cs : List (Addr × Addr × Addr), cs.length = l.length ∧ ∀ (i : Nat) (x : Str) (p : Addr × Addr × Addr), l[i]? = some x → cs[i]? = some p → MkT mg s1.heap x p.1 p.2.1 p.2.2 := by
    intro l
    induction l with
    | nil => exact fun _ => ⟨[], rfl, fun i x p e => by simp at e⟩
    | cons y l ih =>
      intro hl
      simp only [List.all_cons, Bool.and_eq_true] at hl
      obtain ⟨cs, h1, h2⟩ := ih hl.2
      obtain ⟨f, c, T, m⟩ := mkT_of G.T hl.1
      refine ⟨(f, c, T) :: cs, by simp [h1], fun i x p e1 e2 => ?_⟩
      cases i with
      | zero =>
        simp at e1 e2
        subst e1 e2
        exact m
      | succ i => exact h2 i x p (by simpa using e1) (by simpa using e2)
  obtain ⟨cs, hcl, hcs⟩ := pick ms hms
  obtain ⟨tb, htb, hF⟩ := F w mg fa _ K okK inK G.T.g hmg cs hcl hcs
  have each : ∀ r ∈ cs, ∃ x, MkT mg s1.heap x r.1 r.2.1 r.2.2 := fun r hr => by
    obtain ⟨i, hi⟩ := List.mem_iff_getElem?.mp hr
    have hlt := (List.getElem?_eq_some_iff.mp hi).1
    exact ⟨_, hcs i _ r (List.getElem?_eq_getElem (by omega)) hi⟩
  have noK : ∀ T : Addr, s1.heap.get? T = some tabO → K.lookup T = none := fun T e => by
    cases hk : K.lookup T with
    | none => rfl
    | some o =>
      have e2 := inK T o hk
      rw [e] at e2
      cases e2
      have hm := List.all_eq_true.mp (hnt K okK) (T, _) (frag_mem hk)
      exact absurd (show (!tab0 tabO) = true from hm) (by decide)
  refine law_callG (cs := cs.map fun r => (r.2.1, r.2.2)) inK G.T.g G.T.b G.T.builtins G.T.nolimit (sysD_of (G.T.seer himp)) hgen (fun p hp => ?_) (fun p hp => ?_) (fun p hp => ?_) G.T.bmain hobj hints (Nat.le_trans hlen (by decide)) hr (fun base k1 k2 kS k3 => hF base k1 k2 kS fun r hr => k3 _ (List.mem_map.mpr ⟨r, hr, rfl⟩)) (fun H hH hS => ?_)
  · obtain ⟨r, hr, rfl⟩ := List.mem_map.mp hp
    exact (each r hr).elim fun _ m => m.tb
  · obtain ⟨r, hr, rfl⟩ := List.mem_map.mp hp
    exact (each r hr).elim fun _ m => noK _ m.tb
  · obtain ⟨r, hr, rfl⟩ := List.mem_map.mp hp
    exact (each r hr).elim fun _ m => m.hd
  · refine ⟨a, ns, rfl, hS, hlen, fun p hp => ?_, fun _ => rfl⟩
    obtain ⟨r, hr, e⟩ := htb p hp
    exact LamX.TabS.nil (by rw [← e]; exact hH _ (List.mem_map.mpr ⟨r, hr, rfl⟩))
end DL
namespace LW
open PySem L2 DL
def b_source : DEnv → M Out := (sSeq (sSet 2 (eC (.int 0))) (sSeq (sIf (tB' (eOp ltD (eVar 1) (eCallB lenD (aCons (eVar 0) aNil)))) (sSet 2 (eOp ixD (eVar 0) (eVar 1))) sNil) (sSeq (sSet 3 (eCallB maxD (aCons (eVar 2) (aCons (eOp subD (eUn negD (eC (.int 1))) (eVar 2)) aNil)))) (sSeq (sSet 4 (eOp modD (eCallB intD (aCons (eOp addD (eOp addD (eOp mulD (eOp modD (eCallB intD (aCons (eVar 3) aNil)) (eC (.int 2147483629))) (eC (.int 16807))) (eOp mulD (eC (.int 104729)) (eVar 1))) (eC (.int 11))) aNil)) (eC (.int 2147483647)))) (sSeq (sIf (tB' (eOp ltD (eVar 3) (eOp powD (eC (.int 10)) (eC (.int 18))))) (sSet 3 (eC (.int 0))) sNil) (sRet (eLstM (aCons (eVar 3) (aCons (eVar 4) aNil)))))))))
def d_source : List D → M D := fnD 5 b_source
def b_draw : DEnv → M Out := (sSeq (sIf (tB' (eOp gtD (eOp ixD (eVar 0) (eC (.int 0))) (eC (.int 0)))) (sSeq (sSet 2 (eOp modD (eCallB intD (aCons (eOp ixD (eVar 0) (eC (.int 0))) aNil)) (eVar 1))) (sSeq (sSetIx (eVar 0) (eC (.int 0)) (eOp fdvD (eOp ixD (eVar 0) (eC (.int 0))) (eVar 1))) (sRet (eVar 2)))) sNil) (sSeq (sSetIx (eVar 0) (eC (.int 1)) (eOp modD (eCallB intD (aCons (eOp addD (eOp mulD (eOp ixD (eVar 0) (eC (.int 1))) (eC (.int 48271))) (eC (.int 11))) aNil)) (eC (.int 2147483647)))) (sRet (eOp modD (eCallB intD (aCons (eOp fdvD (eOp modD (eCallB intD (aCons (eOp mulD (eOp ixD (eVar 0) (eC (.int 1))) (eOp ixD (eVar 0) (eC (.int 1)))) aNil)) (eC (.int 2147483629))) (eC (.int 64))) aNil)) (eVar 1)))))
def d_draw : List D → M D := fnD 3 b_draw
def b_pick : DEnv → M Out := (sRet (eOp ixD (eVar 1) (eCallB (callN 2 d_draw) (aCons (eVar 0) (aCons (eCallB lenD (aCons (eVar 1) aNil)) aNil)))))
def d_pick : List D → M D := fnD 2 b_pick
def b_form : DEnv → M Out := (sRet (eCallB (callN 2 d_pick) (aCons (eVar 0) (aCons (eLst (aCons (eTup (aCons (eC (.int 2)) (aCons (eC (.int 1)) aNil))) (aCons (eTup (aCons (eC (.int 2)) (aCons (eC (.int 2)) aNil))) (aCons (eTup (aCons (eC (.int 2)) (aCons (eC (.int 3)) aNil))) (aCons (eTup (aCons (eC (.int 2)) (aCons (eC (.int 4)) aNil))) (aCons (eTup (aCons (eC (.int 3)) (aCons (eC (.int 1)) aNil))) (aCons (eTup (aCons (eC (.int 3)) (aCons (eC (.int 2)) aNil))) (aCons (eTup (aCons (eC (.int 3)) (aCons (eC (.int 3)) aNil))) (aCons (eTup (aCons (eC (.int 5)) (aCons (eC (.int 2)) aNil))) (aCons (eTup (aCons (eC (.int 7)) (aCons (eC (.int 2)) aNil))) aNil)))))))))) aNil))))
def d_form : List D → M D := fnD 1 b_form
def c_factors_1 : DEnv → M D := (eComp (iRg1 (aCons (eVar 2) aNil)) (gNm 3) tYesD (eCallB (callN 2 d_draw) (aCons (eVar 0) (aCons (eVar 1) aNil))) [3])
def b_factors : DEnv → M Out := (sRet (eCallB tupleD (aCons c_factors_1 aNil)))
def d_factors : List D → M D := fnD 4 b_factors
def c_pieces_1 : DEnv → M D := (eComp (iRg1 (aCons (eVar 6) aNil)) (gNm 7) tYesD (eCallB (callN 3 d_factors) (aCons (eVar 0) (aCons (eVar 1) (aCons (eVar 2) aNil)))) [7])
def lb_pieces_1 : DEnv → M Out := (sSeq (sSet 6 (eOp addD (eC (.int 1)) (eCallB intD (aCons (eOp eqD (eCallB (callN 2 d_draw) (aCons (eVar 0) (aCons (eC (.int 3)) aNil))) (eC (.int 0))) aNil)))) (sExpr (eApp (eVar 4) (eCallB tupleD (aCons c_pieces_1 aNil)))))
def l_pieces_1 : DEnv → M Out := (sFor (iRg1 (aCons (eOp addD (eC (.int 2)) (eCallB (callN 2 d_draw) (aCons (eVar 0) (aCons (eOp subD (eVar 3) (eC (.int 1))) aNil)))) aNil)) (gNm 5) lb_pieces_1)
def b_pieces : DEnv → M Out := (sSeq (sSet 4 (eLstM aNil)) (sSeq l_pieces_1 (sRet (eCallB tupleD (aCons (eVar 4) aNil)))))
def d_pieces : List D → M D := fnD 8 b_pieces
def c_prices_1 : DEnv → M D := (eComp (iSeqD (eVar 5)) (gNm 6) tYesD (eCallB (callN 2 d_draw) (aCons (eVar 0) (aCons (eVar 2) aNil))) [6])
def c_prices_2 : DEnv → M D := (eComp (iSeqD (eVar 1)) (gNm 5) tYesD (eCallB tupleD (aCons c_prices_1 aNil)) [5])
def c_prices_3 : DEnv → M D := (eComp (iSeqD (eVar 1)) (gNm 5) tYesD (eCallB (callN 2 d_draw) (aCons (eVar 0) (aCons (eOp addD (eVar 2) (eC (.int 2))) aNil))) [5])
def c_prices_4 : DEnv → M D := (eComp (iSeqD (eVar 1)) (gNm 5) tYesD (eOp mulD (eCallB (callN 2 d_draw) (aCons (eVar 0) (aCons (eC (.int 4)) aNil))) (eCallB (callN 2 d_draw) (aCons (eVar 0) (aCons (eC (.int 2)) aNil)))) [5])
def b_prices : DEnv → M Out := (sSeq (sSet 2 (eCallB (callN 2 d_pick) (aCons (eVar 0) (aCons (eLst (aCons (eC (.int 2)) (aCons (eC (.int 4)) (aCons (eC (.int 9)) (aCons (eC (.int 20)) aNil))))) aNil)))) (sSeq (sSet 3 c_prices_2) (sSeq (sSet 4 c_prices_3) (sRet (eTup (aCons (eCallB tupleD (aCons (eVar 3) aNil)) (aCons (eCallB tupleD (aCons (eVar 4) aNil)) (aCons (eCallB tupleD (aCons c_prices_4 aNil)) aNil))))))))
def d_prices : List D → M D := fnD 7 b_prices
def b_is_row : DEnv → M Out := (sRet (eIsi [0, 1, 2, 3, 4] .seq (eVar 0)))
def d_is_row : List D → M D := fnD 1 b_is_row
def b_is_between : DEnv → M Out := (sRet (eAnd (eIsi [0, 1, 2, 3, 4] .int (eVar 0)) (eAnd (eNot (eIsi [0, 1, 2, 3, 4] .bool (eVar 0))) (eChain leD leD (eVar 1) (eVar 0) (eVar 2)))))
def d_is_between : List D → M D := fnD 3 b_is_between
def b_is_price : DEnv → M Out := (sRet (eCallB (callN 3 d_is_between) (aCons (eVar 0) (aCons (eC (.int 0)) (aCons (eC (.int 1000)) aNil)))))
def d_is_price : List D → M D := fnD 1 b_is_price
def c_is_prices_1 : DEnv → M D := (eComp (iSeqD (eVar 0)) (gNm 3) tYesD (eCallB (callN 1 d_is_price) (aCons (eVar 3) aNil)) [3])
def b_is_prices : DEnv → M Out := (sRet (eAnd (eCallB (callN 1 d_is_row) (aCons (eVar 0) aNil)) (eAnd (eChain leD leD (eVar 1) (eCallB lenD (aCons (eVar 0) aNil)) (eVar 2)) (eCallB allD (aCons c_is_prices_1 aNil)))))
def d_is_prices : List D → M D := fnD 4 b_is_prices
def c_Prices_init_1 : DEnv → M D := (eComp (iSeqD (eVar 1)) (gNm 5) tYesD (eCallB (callN 3 d_is_prices) (aCons (eVar 5) (aCons (eC (.int 1)) (aCons (eC (.int 3)) aNil)))) [5])
def lb_Prices_init_1 : DEnv → M Out := (sIf (tNotD (tB' (eCallB (callN 3 d_is_prices) (aCons (eVar 4) (aCons (eCallB lenD (aCons (eVar 1) aNil)) (aCons (eCallB lenD (aCons (eVar 1) aNil)) aNil)))))) (sRaise 9 (eVar 4)) sNil)
def l_Prices_init_1 : DEnv → M Out := (sFor (iSeqD (eTup (aCons (eVar 2) (aCons (eVar 3) aNil)))) (gNm 4) lb_Prices_init_1)
def c_Prices_init_2 : DEnv → M D := (eComp (iSeqD (eVar 1)) (gNm 5) tYesD (eCallB tupleD (aCons (eVar 5) aNil)) [5])
def b_Prices_init : DEnv → M Out := (sSeq (sIf (tOrD (tNotD (tB' (eCallB (callN 1 d_is_row) (aCons (eVar 1) aNil)))) (tNotD (tB' (eChain leD leD (eC (.int 1)) (eCallB lenD (aCons (eVar 1) aNil)) (eC (.int 6)))))) (sRaise 9 (eVar 1)) sNil) (sSeq (sIf (tNotD (tB' (eCallB allD (aCons c_Prices_init_1 aNil)))) (sRaise 9 (eVar 1)) sNil) (sSeq l_Prices_init_1 (sSeq (sAttr [(4, 1)] (eVar 0) (eCallB tupleD (aCons c_Prices_init_2 aNil))) (sAsg (eTup (aCons (eCallB tupleD (aCons (eVar 2) aNil)) (aCons (eCallB tupleD (aCons (eVar 3) aNil)) aNil))) (gTp 2 (gsCons (gAt [(4, 2)] (eVar 0)) (gsCons (gAt [(4, 0)] (eVar 0)) gsNil))))))))
def d_Prices_init : List D → M D := fnD 6 b_Prices_init
def b_Prices_parts : DEnv → M Out := (sRet (eUn (attrD [(4, .slot 1)]) (eVar 0)))
def d_Prices_parts : List D → M D := fnD 1 b_Prices_parts
def b_Prices_wholes : DEnv → M Out := (sRet (eUn (attrD [(4, .slot 2)]) (eVar 0)))
def d_Prices_wholes : List D → M D := fnD 1 b_Prices_wholes
def b_Prices_opens : DEnv → M Out := (sRet (eUn (attrD [(4, .slot 0)]) (eVar 0)))
def d_Prices_opens : List D → M D := fnD 1 b_Prices_opens
def b_Prices_eq : DEnv → M Out := (sRet (eAnd (eIsi [0, 1, 2, 3, 4] (.cls 4) (eVar 1)) (eAnd (eOp eqD (eUn (attrD [(4, .slot 1)]) (eVar 0)) (eUn (attrD [(4, .slot 1)]) (eVar 1))) (eAnd (eOp eqD (eUn (attrD [(4, .slot 2)]) (eVar 0)) (eUn (attrD [(4, .slot 2)]) (eVar 1))) (eOp eqD (eUn (attrD [(4, .slot 0)]) (eVar 0)) (eUn (attrD [(4, .slot 0)]) (eVar 1)))))))
def d_Prices_eq : List D → M D := fnD 2 b_Prices_eq
def b_Table_eq : DEnv → M Out := (sRet (eAnd (eIsi [0, 1, 2, 3, 4] (.cls 3) (eVar 1)) (eAnd (eOp eqD (eUn (attrD [(3, .slot 1)]) (eVar 0)) (eUn (attrD [(0, .slot 0), (1, .slot 1), (3, .slot 1)]) (eVar 1))) (eOp eqD (eUn (attrD [(3, .slot 0)]) (eVar 0)) (eUn (attrD [(2, .slot 0), (3, .slot 0)]) (eVar 1))))))
def d_Table_eq : List D → M D := fnD 2 b_Table_eq
def b_Stored_eq : DEnv → M Out := (sRet (eAnd (eIsi [0, 1, 2, 3, 4] (.cls 2) (eVar 1)) (eOp eqD (eUn (attrD [(2, .slot 0)]) (eVar 0)) (eUn (attrD [(2, .slot 0), (3, .slot 0)]) (eVar 1)))))
def d_Stored_eq : List D → M D := fnD 2 b_Stored_eq
def b_Space_eq : DEnv → M Out := (sRet (eAnd (eIsi [0, 1, 2, 3, 4] (.cls 1) (eVar 1)) (eAnd (eOp eqD (eUn (attrD [(1, .slot 1)]) (eVar 0)) (eUn (attrD [(0, .slot 0), (1, .slot 1), (3, .slot 1)]) (eVar 1))) (eAnd (eOp eqD (eUn (attrD [(1, .slot 2)]) (eVar 0)) (eUn (attrD [(1, .slot 2), (3, .slot 2)]) (eVar 1))) (eOp eqD (eUn (attrD [(1, .slot 3)]) (eVar 0)) (eUn (attrD [(1, .slot 3)]) (eVar 1)))))))
def d_Space_eq : List D → M D := fnD 2 b_Space_eq
def b_Sum_eq : DEnv → M Out := (sRet (eAnd (eIsi [0, 1, 2, 3, 4] (.cls 0) (eVar 1)) (eAnd (eOp eqD (eUn (attrD [(0, .slot 0)]) (eVar 0)) (eUn (attrD [(0, .slot 0), (1, .slot 1), (3, .slot 1)]) (eVar 1))) (eOp eqD (eUn (attrD [(0, .slot 1)]) (eVar 0)) (eUn (attrD [(0, .slot 1)]) (eVar 1))))))
def d_Sum_eq : List D → M D := fnD 2 b_Sum_eq
def c_spots_1 : DEnv → M D := (eComp (iRg1 (aCons (eCallB lenD (aCons (eOp ixD (eVar 0) (eVar 2)) aNil)) aNil)) (gNm 3) tYesD (eTup (aCons (eVar 2) (aCons (eVar 3) aNil))) [3])
def lb_spots_1 : DEnv → M Out := (sSet 1 (eOp addD (eVar 1) c_spots_1))
def l_spots_1 : DEnv → M Out := (sFor (iRg1 (aCons (eCallB lenD (aCons (eVar 0) aNil)) aNil)) (gNm 2) lb_spots_1)
def b_spots : DEnv → M Out := (sSeq (sSet 1 (eLst aNil)) (sSeq l_spots_1 (sRet (eVar 1))))
def d_spots : List D → M D := fnD 4 b_spots
def c_sets_1 : DEnv → M D := (eComp (iSeqD (eVar 1)) (gNm 3) tYesD (eOp addD (eVar 3) (eTup (aCons (eVar 2) aNil))) [3])
def lb_sets_1 : DEnv → M Out := (sSet 1 (eOp addD (eVar 1) c_sets_1))
def l_sets_1 : DEnv → M Out := (sFor (iSeqD (eVar 0)) (gNm 2) lb_sets_1)
def b_sets : DEnv → M Out := (sSeq (sSet 1 (eLst (aCons (eTup aNil) aNil))) (sSeq l_sets_1 (sRet (eUn sortLD (eVar 1)))))
def d_sets : List D → M D := fnD 4 b_sets
def b_Prices_has_price : DEnv → M Out := (sSeq (sIf (tOrD (tNotD (tB' (eIsi [0, 1, 2, 3, 4] .tup (eVar 1)))) (tOrD (tB' (eOp neD (eCallB lenD (aCons (eVar 1) aNil)) (eC (.int 2)))) (tNotD (tB' (eCallB (callN 3 d_is_between) (aCons (eOp ixD (eVar 1) (eC (.int 0))) (aCons (eC (.int 0)) (aCons (eOp subD (eCallB lenD (aCons (eUn (attrD [(4, .slot 1)]) (eVar 0)) aNil)) (eC (.int 1))) aNil)))))))) (sRet (eC (.bl false))) sNil) (sRet (eCallB (callN 3 d_is_between) (aCons (eOp ixD (eVar 1) (eC (.int 1))) (aCons (eC (.int 0)) (aCons (eOp subD (eCallB lenD (aCons (eOp ixD (eUn (attrD [(4, .slot 1)]) (eVar 0)) (eOp ixD (eVar 1) (eC (.int 0)))) aNil)) (eC (.int 1))) aNil))))))
def d_Prices_has_price : List D → M D := fnD 2 b_Prices_has_price
def c_Prices_require_1 : DEnv → M D := (eComp (iSeqD (eVar 1)) (gNm 2) tYesD (eMeth [(4, 2, d_Prices_has_price)] (eVar 0) (aCons (eVar 2) aNil)) [2])
def c_Prices_require_2 : DEnv → M D := (eComp (iZip (aCons (eVar 1) (aCons (eSlice (eVar 1) (pSome (eC (.int 1))) pNone) aNil))) (gTp 2 (gsCons (gNm 3) (gsCons (gNm 4) gsNil))) tYesD (eOp ltD (eVar 3) (eVar 4)) [3, 4])
def b_Prices_require : DEnv → M Out := (sSeq (sIf (tOrD (tNotD (tB' (eCallB (callN 1 d_is_row) (aCons (eVar 1) aNil)))) (tNotD (tB' (eCallB allD (aCons c_Prices_require_1 aNil))))) (sRaise 8 (eVar 1)) sNil) (sIf (tNotD (tB' (eCallB allD (aCons c_Prices_require_2 aNil)))) (sRaise 8 (eVar 1)) sNil))
def d_Prices_require : List D → M D := fnD 5 b_Prices_require
def lb_Prices_bill_1 : DEnv → M Out := (sSetK (eVar 2) (eVar 3) (eOp addD (eGet2 (eVar 2) (eVar 3) (eC (.int 0))) (eOp ixD (eOp ixD (eUn (attrD [(4, .slot 1)]) (eVar 0)) (eVar 3)) (eVar 4))))
def l_Prices_bill_1 : DEnv → M Out := (sFor (iSeqD (eVar 1)) (gTp 2 (gsCons (gNm 3) (gsCons (gNm 4) gsNil))) lb_Prices_bill_1)
def b_Prices_bill : DEnv → M Out := (sSeq (sSet 2 eDNew) (sSeq l_Prices_bill_1 (sRet (eUn frzK (eVar 2)))))
def d_Prices_bill : List D → M D := fnD 5 b_Prices_bill
def c_Prices_call_1 : DEnv → M D := (eComp (iKeyD (eVar 2)) (gNm 3) tYesD (eOp addD (eOp ixD (eUn (attrD [(4, .slot 0)]) (eVar 0)) (eVar 3)) (eCallB minD (aCons (eOp ixK (eVar 2) (eVar 3)) (aCons (eOp ixD (eUn (attrD [(4, .slot 2)]) (eVar 0)) (eVar 3)) aNil)))) [3])
def b_Prices_call : DEnv → M Out := (sSeq (sExpr (eMeth [(4, 2, d_Prices_require)] (eVar 0) (aCons (eVar 1) aNil))) (sSeq (sSet 2 (eMeth [(4, 2, d_Prices_bill)] (eVar 0) (aCons (eVar 1) aNil))) (sRet (eCallB sumD (aCons c_Prices_call_1 aNil)))))
def d_Prices_call : List D → M D := fnD 4 b_Prices_call
def c_cost_1 : DEnv → M D := (eComp (iSeqD (eVar 1)) (gNm 5) (tB' (eOp eqD (eOp ixD (eVar 5) (eC (.int 0))) (eVar 3))) (eOp ixD (eOp ixD (eOp ixD (eVar 0) (eC (.int 0))) (eVar 3)) (eOp ixD (eVar 5) (eC (.int 1)))) [5])
def lb_cost_1 : DEnv → M Out := (sSeq (sSet 4 c_cost_1) (sIf (tB' (eOp neD (eVar 4) (eLst aNil))) (sSet 2 (eOp addD (eOp addD (eVar 2) (eOp ixD (eOp ixD (eVar 0) (eC (.int 2))) (eVar 3))) (eCallB minD (aCons (eCallB sumD (aCons (eVar 4) aNil)) (aCons (eOp ixD (eOp ixD (eVar 0) (eC (.int 1))) (eVar 3)) aNil))))) sNil))
def l_cost_1 : DEnv → M Out := (sFor (iRg1 (aCons (eCallB lenD (aCons (eOp ixD (eVar 0) (eC (.int 0))) aNil)) aNil)) (gNm 3) lb_cost_1)
def b_cost : DEnv → M Out := (sSeq (sSet 2 (eC (.int 0))) (sSeq l_cost_1 (sRet (eVar 2))))
def d_cost : List D → M D := fnD 6 b_cost
def lb_Prices_paid_1 : DEnv → M Out := (sSeq (sSet 7 (eAnd (eOp inK (eVar 4) (eVar 2)) (eOp leD (eOp ixD (eUn (attrD [(4, .slot 2)]) (eVar 0)) (eVar 4)) (eOp ixK (eVar 2) (eVar 4))))) (sIf (tOrD (tB' (eVar 7)) (tB' (eOp (inD false) (eTup (aCons (eVar 4) (aCons (eVar 6) aNil))) (eVar 1)))) (sExpr (eApp (eVar 3) (eTup (aCons (eVar 4) (aCons (eVar 6) aNil))))) sNil))
def l_Prices_paid_1 : DEnv → M Out := (sFor (iRg1 (aCons (eCallB lenD (aCons (eVar 5) aNil)) aNil)) (gNm 6) lb_Prices_paid_1)
def lb_Prices_paid_2 : DEnv → M Out := l_Prices_paid_1
def l_Prices_paid_2 : DEnv → M Out := (sFor (iEnum (aCons (eUn (attrD [(4, .slot 1)]) (eVar 0)) aNil)) (gTp 2 (gsCons (gNm 4) (gsCons (gNm 5) gsNil))) lb_Prices_paid_2)
def b_Prices_paid : DEnv → M Out := (sSeq (sExpr (eMeth [(4, 2, d_Prices_require)] (eVar 0) (aCons (eVar 1) aNil))) (sSeq (sParA 2 3 (aCons (eMeth [(4, 2, d_Prices_bill)] (eVar 0) (aCons (eVar 1) aNil)) (aCons (eLstM aNil) aNil))) (sSeq l_Prices_paid_2 (sRet (eCallB tupleD (aCons (eVar 3) aNil))))))
def d_Prices_paid : List D → M D := fnD 8 b_Prices_paid
def c_paid_1 : DEnv → M D := (eComp (iSeqD (eVar 1)) (gNm 7) (tB' (eOp eqD (eOp ixD (eVar 7) (eC (.int 0))) (eVar 3))) (eOp ixD (eOp ixD (eOp ixD (eVar 0) (eC (.int 0))) (eVar 3)) (eOp ixD (eVar 7) (eC (.int 1)))) [7])
def lb_paid_1 : DEnv → M Out := (sIf (tOrD (tB' (eVar 5)) (tB' (eOp (inD false) (eTup (aCons (eVar 3) (aCons (eVar 6) aNil))) (eVar 1)))) (sExpr (eApp (eVar 2) (eTup (aCons (eVar 3) (aCons (eVar 6) aNil))))) sNil)
def l_paid_1 : DEnv → M Out := (sFor (iRg1 (aCons (eCallB lenD (aCons (eOp ixD (eOp ixD (eVar 0) (eC (.int 0))) (eVar 3)) aNil)) aNil)) (gNm 6) lb_paid_1)
def lb_paid_2 : DEnv → M Out := (sSeq (sSet 4 c_paid_1) (sSeq (sSet 5 (eAnd (eOp neD (eVar 4) (eLst aNil)) (eOp leD (eOp ixD (eOp ixD (eVar 0) (eC (.int 1))) (eVar 3)) (eCallB sumD (aCons (eVar 4) aNil))))) l_paid_1))
def l_paid_2 : DEnv → M Out := (sFor (iRg1 (aCons (eCallB lenD (aCons (eOp ixD (eVar 0) (eC (.int 0))) aNil)) aNil)) (gNm 3) lb_paid_2)
def b_paid : DEnv → M Out := (sSeq (sSet 2 (eLstM aNil)) (sSeq l_paid_2 (sRet (eCallB tupleD (aCons (eVar 2) aNil)))))
def d_paid : List D → M D := fnD 8 b_paid
def b_is_integer : DEnv → M Out := (sRet (eAnd (eIsi [0, 1, 2, 3, 4] .int (eVar 0)) (eNot (eIsi [0, 1, 2, 3, 4] .bool (eVar 0)))))
def d_is_integer : List D → M D := fnD 1 b_is_integer
def b_is_prime : DEnv → M Out := (sRet (eAnd (eCallB (callN 1 d_is_integer) (aCons (eVar 0) aNil)) (eOp (inD false) (eVar 0) (eC (.tup (([2, 3, 5, 7] : List Int).map .int))))))
def d_is_prime : List D → M D := fnD 1 b_is_prime
def lb_power_1 : DEnv → M Out := (sSet 2 (eOp mulD (eVar 2) (eVar 0)))
def l_power_1 : DEnv → M Out := (sFor (iRg1 (aCons (eVar 1) aNil)) (gNm 3) lb_power_1)
def b_power : DEnv → M Out := (sSeq (sSet 2 (eC (.int 1))) (sSeq l_power_1 (sRet (eVar 2))))
def d_power : List D → M D := fnD 4 b_power
def b_is_size : DEnv → M Out := (sRet (eAnd (eCallB (callN 1 d_is_prime) (aCons (eVar 0) aNil)) (eAnd (eCallB (callN 3 d_is_between) (aCons (eVar 1) (aCons (eC (.int 1)) (aCons (eC (.int 6)) aNil)))) (eOp leD (eCallB (callN 2 d_power) (aCons (eVar 0) (aCons (eVar 1) aNil))) (eC (.int 4096))))))
def d_is_size : List D → M D := fnD 2 b_is_size
def c_is_data_1 : DEnv → M D := (eComp (iSeqD (eVar 2)) (gNm 3) tYesD (eCallB (callN 3 d_is_between) (aCons (eVar 3) (aCons (eC (.int 0)) (aCons (eOp subD (eVar 0) (eC (.int 1))) aNil)))) [3])
def b_is_data : DEnv → M Out := (sSeq (sIf (tOrD (tNotD (tB' (eCallB (callN 2 d_is_size) (aCons (eVar 0) (aCons (eVar 1) aNil))))) (tOrD (tNotD (tB' (eIsi [0, 1, 2, 3, 4] .seq (eVar 2)))) (tB' (eOp neD (eCallB lenD (aCons (eVar 2) aNil)) (eVar 1))))) (sRet (eC (.bl false))) sNil) (sRet (eCallB allD (aCons c_is_data_1 aNil))))
def d_is_data : List D → M D := fnD 4 b_is_data
def c_require_pieces_1 : DEnv → M D := (eComp (iSeqD (eVar 2)) (gNm 4) (tB' (eCallB (callN 1 d_is_row) (aCons (eVar 4) aNil))) (eCallB lenD (aCons (eVar 4) aNil)) [4])
def lb_require_pieces_1 : DEnv → M Out := (sIf (tNotD (tB' (eCallB (callN 3 d_is_data) (aCons (eVar 0) (aCons (eVar 1) (aCons (eVar 6) aNil)))))) (sRaise 12 (eTup (aCons (eVar 3) (aCons (eVar 5) aNil)))) sNil)
def l_require_pieces_1 : DEnv → M Out := (sFor (iEnum (aCons (eVar 4) aNil)) (gTp 2 (gsCons (gNm 5) (gsCons (gNm 6) gsNil))) lb_require_pieces_1)
def lb_require_pieces_2 : DEnv → M Out := (sSeq (sIf (tOrD (tNotD (tB' (eCallB (callN 1 d_is_row) (aCons (eVar 4) aNil)))) (tNotD (tB' (eChain leD leD (eC (.int 1)) (eCallB lenD (aCons (eVar 4) aNil)) (eC (.int 3)))))) (sRaise 12 (eTup (aCons (eVar 3) aNil))) sNil) l_require_pieces_1)
def l_require_pieces_2 : DEnv → M Out := (sFor (iEnum (aCons (eVar 2) aNil)) (gTp 2 (gsCons (gNm 3) (gsCons (gNm 4) gsNil))) lb_require_pieces_2)
def b_require_pieces : DEnv → M Out := (sSeq (sIf (tOrD (tNotD (tB' (eCallB (callN 1 d_is_row) (aCons (eVar 2) aNil)))) (tNotD (tB' (eChain leD leD (eC (.int 1)) (eCallB lenD (aCons (eVar 2) aNil)) (eC (.int 6)))))) (sRaise 12 (eC .non)) sNil) (sSeq (sIf (tB' (eOp gtD (eCallB sumD (aCons c_require_pieces_1 aNil)) (eC (.int 10)))) (sRaise 12 (eC .non)) sNil) l_require_pieces_2))
def d_require_pieces : List D → M D := fnD 7 b_require_pieces
def c_Table_init_1 : DEnv → M D := (eComp (iSeqD (eVar 6)) (gNm 8) tYesD (eCallB tupleD (aCons (eVar 8) aNil)) [8])
def c_Table_init_2 : DEnv → M D := (eComp (iSeqD (eVar 3)) (gNm 6) tYesD (eCallB tupleD (aCons c_Table_init_1 aNil)) [6])
def c_Table_init_3 : DEnv → M (List D) := (compM (iRg1 (aCons (eCallB lenD (aCons (eVar 6) aNil)) aNil)) (gNm 7) tYesD (eTup (aCons (eVar 5) (aCons (eVar 7) aNil))) [7])
def lb_Table_init_1 : DEnv → M Out := (sExpr (eExt (eVar 4) c_Table_init_3))
def l_Table_init_1 : DEnv → M Out := (sFor (iEnum (aCons (eUn (attrD [(3, .slot 0)]) (eVar 0)) aNil)) (gTp 2 (gsCons (gNm 5) (gsCons (gNm 6) gsNil))) lb_Table_init_1)
def b_Table_init : DEnv → M Out := (sSeq (sIf (tNotD (tB' (eCallB (callN 1 d_is_prime) (aCons (eVar 1) aNil)))) (sRaise 11 (eVar 1)) sNil) (sSeq (sIf (tNotD (tB' (eCallB (callN 2 d_is_size) (aCons (eVar 1) (aCons (eVar 2) aNil))))) (sRaise 11 (eVar 2)) sNil) (sSeq (sExpr (eCallB (callN 3 d_require_pieces) (aCons (eVar 1) (aCons (eVar 2) (aCons (eVar 3) aNil))))) (sSeq (sAsg (eTup (aCons (eVar 1) (aCons (eVar 2) aNil))) (gTp 2 (gsCons (gAt [(3, 1)] (eVar 0)) (gsCons (gAt [(3, 2)] (eVar 0)) gsNil)))) (sSeq (sAttr [(3, 0)] (eVar 0) (eCallB tupleD (aCons c_Table_init_2 aNil))) (sSeq (sSet 4 (eLstM aNil)) (sSeq (sFz 4 l_Table_init_1) (sAttr [(3, 3)] (eVar 0) (eVar 4)))))))))
def d_Table_init : List D → M D := fnD 9 b_Table_init
def b_Table_pieces : DEnv → M Out := (sRet (eUn (attrD [(3, .slot 0)]) (eVar 0)))
def d_Table_pieces : List D → M D := fnD 1 b_Table_pieces
def b_Stored_pieces : DEnv → M Out := (sRet (eUn (attrD [(2, .slot 0)]) (eVar 0)))
def d_Stored_pieces : List D → M D := fnD 1 b_Stored_pieces
def c_Prices_fits_1 : DEnv → M D := (eComp (iSeqD (eUn (attrD [(2, .prop d_Stored_pieces), (3, .prop d_Table_pieces)]) (eVar 1))) (gNm 2) tYesD (eCallB lenD (aCons (eVar 2) aNil)) [2])
def c_Prices_fits_2 : DEnv → M D := (eComp (iSeqD (eUn (attrD [(4, .slot 1)]) (eVar 0))) (gNm 2) tYesD (eCallB lenD (aCons (eVar 2) aNil)) [2])
def b_Prices_fits : DEnv → M Out := (sSeq (sIf (tNotD (tB' (eIsi [0, 1, 2, 3, 4] (.cls 3) (eVar 1)))) (sRet (eC (.bl false))) sNil) (sRet (eOp eqD c_Prices_fits_1 c_Prices_fits_2)))
def d_Prices_fits : List D → M D := fnD 3 b_Prices_fits
def b_Table_prime : DEnv → M Out := (sRet (eUn (attrD [(3, .slot 1)]) (eVar 0)))
def d_Table_prime : List D → M D := fnD 1 b_Table_prime
def b_Space_prime : DEnv → M Out := (sRet (eUn (attrD [(1, .slot 1)]) (eVar 0)))
def d_Space_prime : List D → M D := fnD 1 b_Space_prime
def b_Sum_prime : DEnv → M Out := (sRet (eUn (attrD [(0, .slot 0)]) (eVar 0)))
def d_Sum_prime : List D → M D := fnD 1 b_Sum_prime
def lb_Stored_fits_1 : DEnv → M Out := (sIf (tAndD (tB' (eOp (isD true) (eVar 2) (eC .non))) (tOrD (tB' (eOp neD (eCallB lenD (aCons (eVar 2) aNil)) (eCallB lenD (aCons (eVar 3) aNil)))) (tB' (eOp geD (eCallB mxD (aCons (eVar 2) aNil)) (eUn (attrD [(0, .prop d_Sum_prime), (1, .prop d_Space_prime), (3, .prop d_Table_prime)]) (eVar 1)))))) (sRet (eC (.bl false))) sNil)
def l_Stored_fits_1 : DEnv → M Out := (sFor (iZip (aCons (eUn (attrD [(2, .slot 0)]) (eVar 0)) (aCons (eUn (attrD [(2, .prop d_Stored_pieces), (3, .prop d_Table_pieces)]) (eVar 1)) aNil))) (gTp 2 (gsCons (gNm 2) (gsCons (gNm 3) gsNil))) lb_Stored_fits_1)
def b_Stored_fits : DEnv → M Out := (sSeq (sIf (tB' (eOp neD (eCallB lenD (aCons (eVar 1) aNil)) (eCallB lenD (aCons (eUn (attrD [(2, .slot 0)]) (eVar 0)) aNil)))) (sRet (eC (.bl false))) sNil) (sSeq l_Stored_fits_1 (sRet (eC (.bl true)))))
def d_Stored_fits : List D → M D := fnD 4 b_Stored_fits
def c_fits_right_1 : DEnv → M D := (eComp (iSeqD (eVar 5)) (gNm 6) tYesD (eMeth [(2, 2, d_Stored_fits), (4, 2, d_Prices_fits)] (eVar 3) (aCons (eVar 6) aNil)) [6])
def c_fits_right_2 : DEnv → M D := (eComp (iSeqD (eLst (aCons (eC .non) (aCons (eC (.int 5)) (aCons (eVar 2) (aCons (eVar 3) (aCons (eLst (aCons (eVar 4) aNil)) aNil))))))) (gNm 7) tYesD (eMeth [(2, 2, d_Stored_fits), (4, 2, d_Prices_fits)] (eVar 3) (aCons (eVar 7) aNil)) [7])
def b_fits_right : DEnv → M Out := (sSeq (sSet 4 (eCallB (makeD 3 4 d_Table_init) (aCons (eVar 0) (aCons (eVar 1) (aCons (eVar 2) aNil))))) (sSeq (sSet 5 (eLstM (aCons (eCallB (makeD 3 4 d_Table_init) (aCons (eVar 0) (aCons (eVar 1) (aCons (eOp addD (eVar 2) (eSlice (eVar 2) pNone (pSome (eC (.int 1))))) aNil)))) aNil))) (sSeq (sFz 5 (sExpr (eApp (eVar 5) (eCallB (makeD 3 4 d_Table_init) (aCons (eVar 0) (aCons (eVar 1) (aCons (eOp addD (eLst (aCons (eOp addD (eOp ixD (eVar 2) (eC (.int 0))) (eSlice (eOp ixD (eVar 2) (eC (.int 0))) pNone (pSome (eC (.int 1))))) aNil)) (eCallB listD (aCons (eSlice (eVar 2) (pSome (eC (.int 1))) pNone) aNil))) aNil))))))) (sSeq (sIf (tOrD (tNotD (tB' (eMeth [(2, 2, d_Stored_fits), (4, 2, d_Prices_fits)] (eVar 3) (aCons (eVar 4) aNil)))) (tB' (eCallB anyD (aCons c_fits_right_1 aNil)))) (sRet (eC (.bl false))) sNil) (sRet (eNot (eCallB anyD (aCons c_fits_right_2 aNil))))))))
def d_fits_right : List D → M D := fnD 8 b_fits_right
def c_law_1 : DEnv → M D := (eComp (iSeqD (eOp ixD (eVar 8) (eC (.int 0)))) (gNm 10) tYesD (eCallB listD (aCons (eVar 10) aNil)) [10])
def lb_law_1 : DEnv → M Out := (sSeq (sIf (tOrD (tB' (eOp (ownE [0, 1, 2, 3, 4] [(0, 2, d_Sum_eq), (1, 2, d_Space_eq), (2, 2, d_Stored_eq), (3, 2, d_Table_eq), (4, 2, d_Prices_eq)] true neD) (eCallO 4 2 d_Prices_call (eVar 4) (aCons (eVar 5) aNil)) (eCallB (callN 2 d_cost) (aCons (eVar 8) (aCons (eVar 5) aNil))))) (tB' (eOp (ownE [0, 1, 2, 3, 4] [(0, 2, d_Sum_eq), (1, 2, d_Space_eq), (2, 2, d_Stored_eq), (3, 2, d_Table_eq), (4, 2, d_Prices_eq)] true neD) (eCallO 4 2 d_Prices_call (eVar 4) (aCons (eCallB listD (aCons (eVar 5) aNil)) aNil)) (eCallO 4 2 d_Prices_call (eVar 4) (aCons (eVar 5) aNil))))) (sRet (eC (.bl false))) sNil) (sIf (tOrD (tB' (eOp (ownE [0, 1, 2, 3, 4] [(0, 2, d_Sum_eq), (1, 2, d_Space_eq), (2, 2, d_Stored_eq), (3, 2, d_Table_eq), (4, 2, d_Prices_eq)] true neD) (eMeth [(4, 2, d_Prices_paid)] (eVar 4) (aCons (eVar 5) aNil)) (eCallB (callN 2 d_paid) (aCons (eVar 8) (aCons (eVar 5) aNil))))) (tB' (eOp gtD (eCallO 4 2 d_Prices_call (eVar 4) (aCons (eVar 5) aNil)) (eCallO 4 2 d_Prices_call (eVar 4) (aCons (eMeth [(4, 2, d_Prices_paid)] (eVar 4) (aCons (eVar 5) aNil)) aNil))))) (sRet (eC (.bl false))) sNil))
def l_law_1 : DEnv → M Out := (sFor (iSeqD (eCallB (callN 1 d_sets) (aCons (eCallB (callN 1 d_spots) (aCons (eVar 3) aNil)) aNil))) (gNm 5) lb_law_1)
def lb_law_2 : DEnv → M Out := (sSeq (sSet 2 (eCallB (callN 2 d_source) (aCons (eVar 0) (aCons (eVar 1) aNil)))) (sSeq (sAsg (eCallB (callN 1 d_form) (aCons (eVar 2) aNil)) (gTp 2 (gsCons (gNm 6) (gsCons (gNm 7) gsNil)))) (sSeq (sSet 3 (eCallB (callN 4 d_pieces) (aCons (eVar 2) (aCons (eVar 6) (aCons (eVar 7) (aCons (eC (.int 4)) aNil)))))) (sSeq (sParA 8 9 (aCons (eCallB (callN 2 d_prices) (aCons (eVar 2) (aCons (eVar 3) aNil))) (aCons (eCallB (callN 2 d_prices) (aCons (eVar 2) (aCons (eVar 3) aNil))) aNil))) (sSeq (sSet 4 (eCallB (makeD 4 4 d_Prices_init) (aCons c_law_1 (aCons (eCallB listD (aCons (eOp ixD (eVar 8) (eC (.int 1))) aNil)) (aCons (eOp ixD (eVar 8) (eC (.int 2))) aNil))))) (sSeq (sIf (tB' (eOp (ownE [0, 1, 2, 3, 4] [(0, 2, d_Sum_eq), (1, 2, d_Space_eq), (2, 2, d_Stored_eq), (3, 2, d_Table_eq), (4, 2, d_Prices_eq)] true neD) (eLst (aCons (eUn (attrD [(4, .prop d_Prices_parts)]) (eVar 4)) (aCons (eUn (attrD [(4, .prop d_Prices_wholes)]) (eVar 4)) (aCons (eUn (attrD [(4, .prop d_Prices_opens)]) (eVar 4)) aNil)))) (eCallB listD (aCons (eVar 8) aNil)))) (sRet (eC (.bl false))) sNil) (sSeq l_law_1 (sSeq (sIf (tOrD (tB' (eOp (ownE [0, 1, 2, 3, 4] [(0, 2, d_Sum_eq), (1, 2, d_Space_eq), (2, 2, d_Stored_eq), (3, 2, d_Table_eq), (4, 2, d_Prices_eq)] true neD) (eVar 4) (eCallB (makeD 4 4 d_Prices_init) (aCons (eOp ixD (eVar 8) (eC (.int 0))) (aCons (eOp ixD (eVar 8) (eC (.int 1))) (aCons (eOp ixD (eVar 8) (eC (.int 2))) aNil)))))) (tB' (eOp (ownE [0, 1, 2, 3, 4] [(0, 2, d_Sum_eq), (1, 2, d_Space_eq), (2, 2, d_Stored_eq), (3, 2, d_Table_eq), (4, 2, d_Prices_eq)] false eqD) (eVar 4) (eVar 8)))) (sRet (eC (.bl false))) sNil) (sSeq (sIf (tB' (eOp (ownE [0, 1, 2, 3, 4] [(0, 2, d_Sum_eq), (1, 2, d_Space_eq), (2, 2, d_Stored_eq), (3, 2, d_Table_eq), (4, 2, d_Prices_eq)] true neD) (eOp (ownE [0, 1, 2, 3, 4] [(0, 2, d_Sum_eq), (1, 2, d_Space_eq), (2, 2, d_Stored_eq), (3, 2, d_Table_eq), (4, 2, d_Prices_eq)] false eqD) (eVar 4) (eCallB (makeD 4 4 d_Prices_init) (aCons (eOp ixD (eVar 9) (eC (.int 0))) (aCons (eOp ixD (eVar 9) (eC (.int 1))) (aCons (eOp ixD (eVar 9) (eC (.int 2))) aNil))))) (eOp (ownE [0, 1, 2, 3, 4] [(0, 2, d_Sum_eq), (1, 2, d_Space_eq), (2, 2, d_Stored_eq), (3, 2, d_Table_eq), (4, 2, d_Prices_eq)] false eqD) (eVar 8) (eVar 9)))) (sRet (eC (.bl false))) sNil) (sIf (tNotD (tB' (eCallB (callN 4 d_fits_right) (aCons (eVar 6) (aCons (eVar 7) (aCons (eVar 3) (aCons (eVar 4) aNil))))))) (sRet (eC (.bl false))) sNil))))))))))
def l_law_2 : DEnv → M Out := (sFor (iRg1 (aCons (eCallB maxD (aCons (eC (.int 1)) (aCons (eCallB minD (aCons (eCallB lenD (aCons (eVar 0) aNil)) (aCons (eC (.int 12)) aNil))) aNil))) aNil)) (gNm 1) lb_law_2)
def b_law : DEnv → M Out := (sSeq l_law_2 (sRet (eC (.bl true))))
def d_law : List D → M D := fnD 11 b_law
theorem draw_ok {m : Store} {n : Nat} {k : Int} (h : SrcAt m n) (hk : 0 < k) (hk2 : k < 2 ^ 100) :
    ∃ r m', d_draw [.loc n, .int k] m = .ok (.int r) m' ∧ Chg n m m' ∧ 0 ≤ r ∧ r < k := by
  obtain ⟨a, s, h⟩ := h
  have hl := (List.getElem?_eq_some_iff.mp h).1
  have sq : seqD (.loc n) m = .ok [.int a, .int s] m := seq_loc h
  have i0 : ixD (.loc n) (.int 0) m = .ok (.int a) m := ix_seq sq (by decide) rfl
  have i1 : ixD (.loc n) (.int 1) m = .ok (.int s) m := ix_seq sq (by decide) rfl
  by_cases ha : 0 < a
  · refine ⟨a % k, m.set n (some (.lst [.int (a / k), .int s])), fn_any ?_ (by simp), ⟨_, _, rfl⟩, Int.emod_nonneg _ (by omega), Int.emod_lt_of_pos _ hk⟩
    simp [b_draw, startD, i0, ha, mod_int m hk, fdv_int m hk hk2, sSetIx, setIx, h, ixN]
  · have hs : 0 ≤ (s * 48271 + 11) % 2147483647 ∧ (s * 48271 + 11) % 2147483647 < 2147483647 := ⟨Int.emod_nonneg _ (by decide), Int.emod_lt_of_pos _ (by decide)⟩
    generalize hs' : (s * 48271 + 11) % 2147483647 = s' at hs
    have h2 : (m.set n (some (.lst [.int a, .int s'])))[n]? = some (some (.lst [.int a, .int s'])) := by simp [hl]
    have j1 : ixD (.loc n) (.int 1) (m.set n (some (.lst [.int a, .int s']))) = .ok (.int s') (m.set n (some (.lst [.int a, .int s']))) := ix_seq (seq_loc h2) (by decide) rfl
    refine ⟨s' * s' % 2147483629 / 64 % k, m.set n (some (.lst [.int a, .int s'])), fn_any ?_ (by simp), ⟨_, _, rfl⟩, Int.emod_nonneg _ (by omega), Int.emod_lt_of_pos _ hk⟩
    have c1 : CM s 48271 := .inr ⟨by decide, by decide⟩
    have c2 : CM s' s' := .inl ⟨by omega, by omega⟩
    simp [b_draw, startD, i0, i1, ha, mod_int m (show (0 : Int) < 2147483647 by decide), sSetIx, setIx, h, ixN, mul_int _ c1, hs', j1, mul_int _ c2, mod_int _ (show (0 : Int) < 2147483629 by decide), fdv_int _ (show (0 : Int) < 64 by decide) (by decide), mod_int _ hk]
theorem source_ok {m : Store} {ns : List Int} {t : Nat} : ∃ a s : Int, d_source [.lst (ils ns), .int t] m = .ok (.loc m.length) (m ++ [some (.lst [.int a, .int s])]) := by
  have c1 : ∀ x, CM x 16807 := fun x => .inr ⟨by decide, by decide⟩
  have c2 : CM 104729 (t : Int) := .inl ⟨by decide, by decide⟩
  have c3 : CPw 10 18 := ⟨by decide, by decide, by decide⟩
  have p1 : (0 : Int) < 2147483629 := by decide
  have p2 : (0 : Int) < 2147483647 := by decide
  by_cases ht : t < ns.length
  · have e : ixD (.lst (ils ns)) (.int t) m = .ok (.int ns[t]) m := ix_seq rfl (by omega) (by simp [ils, ht])
    generalize hq : (if ns[t] < -1 - ns[t] then -1 - ns[t] else ns[t]) = q
    by_cases hc : q < 1000000000000000000
    · refine ⟨0, (q % 2147483629 * 16807 + 104729 * t + 11) % 2147483647, fn_new ?_ (by simp [D.und])⟩
      simp [b_source, startD, ht, e, hq, mod_int _ p1, mul_int _ (c1 _), mul_int _ c2, mod_int _ p2, pow_int _ c3, hc, newM]
    · refine ⟨q, (q % 2147483629 * 16807 + 104729 * t + 11) % 2147483647, fn_new ?_ (by simp [D.und])⟩
      simp [b_source, startD, ht, e, hq, mod_int _ p1, mul_int _ (c1 _), mul_int _ c2, mod_int _ p2, pow_int _ c3, hc, newM]
  · refine ⟨0, (0 % 2147483629 * 16807 + 104729 * t + 11) % 2147483647, fn_new ?_ (by simp [D.und])⟩
    simp [b_source, startD, ht, mod_int _ p1, mul_int _ (c1 _), mul_int _ c2, mod_int _ p2, pow_int _ c3, newM]
theorem src_new (m : Store) (a s : Int) : SrcAt (m ++ [some (.lst [.int a, .int s])]) m.length := ⟨a, s, by simp⟩
theorem pick_ok {m : Store} {n : Nat} {ds : List D} (h : SrcAt m n) (h0 : 0 < ds.length) (h1 : ds.length < 100000) :
    ∃ d m', d_pick [.loc n, .lst ds] m = .ok d m' ∧ Chg n m m' ∧ d ∈ ds := by
  obtain ⟨r, m', e, c, r0, r1⟩ := draw_ok (k := (ds.length : Int)) h (by omega) (by omega)
  have hr : r.toNat < ds.length := by omega
  refine ⟨ds[r.toNat], m', fn_any ?_ c.len, c, List.getElem_mem _⟩
  have e2 : ixD (.lst ds) (.int r) m' = .ok ds[r.toNat] m' := ix_seq rfl r0 (by simp [hr])
  simp [b_pick, startD, e, e2]
def rowsIn (p : Int) (ns : List Int) : Prop := ∀ x ∈ ns, 0 ≤ x ∧ x < p
theorem factors_ok {m : Store} {n : Nat} {p : Int} {k : Nat} (h : SrcAt m n) (hp : 0 < p) (hp2 : p < 2 ^ 100) (hk : k ≤ 1000) :
    ∃ ns m', d_factors [.loc n, .int p, .int k] m = .ok (.tup (ils ns)) m' ∧ Chg n m m' ∧ ns.length = k ∧ rowsIn p ns := by
  have hi : iRg1 (aCons (eVar 2) aNil) [some (.loc n), some (.int p), some (.int k), none] m = .ok ⟨rngI 0 k, []⟩ m := iRg1_nat (by omega) (by simp)
  obtain ⟨rs, m', hc, c, al⟩ := eComp_chg (vs := [3]) (g := gNm 3) (elt := eCallB (callN 2 d_draw) (aCons (eVar 0) (aCons (eVar 1) aNil))) (P := fun _ r => ∃ i, r = D.int i ∧ (0 ≤ i ∧ i < p)) hi (Chg.refl h) h (by simp; omega) (fun d hd m h => by
    obtain ⟨r, m1, e, c, r0, r1⟩ := draw_ok h hp hp2
    exact ⟨_, _, m1, rfl, by simp [wipeD, e], c, r, rfl, r0, r1⟩)
  obtain ⟨is, rfl, al2⟩ := al.ints
  have hl := al2.len
  simp only [rng_len] at hl
  refine ⟨is, m', fn_chg0 ?_ c, c, hl, fun x hx => ?_⟩
  · have hc' : c_factors_1 [some (.loc n), some (.int p), some (.int k), none] m = .ok (.lst (ils is)) m' := hc
    have : is.length ≤ 100000 := by omega
    simp [b_factors, startD, hc', this]
  · obtain ⟨_, _, q⟩ := al2.mem hx
    exact q
structure PcOk (p : Int) (k : Nat) (q : List (List Int)) : Prop where
  l1 : 1 ≤ q.length
  l2 : q.length ≤ 2
  row : ∀ r ∈ q, r.length = k ∧ rowsIn p r
theorem und_ils (n : Nat) : ∀ ns : List Int, D.undL n (ils ns) = true
  | [] => rfl
  | i :: r => by
    rw [ils_cons]
    simp [D.undL, D.und, und_ils n r]
theorem part_ok {m : Store} {n : Nat} {p : Int} {k a : Nat} {x5 : Option D} {w4 M : D} (h : SrcAt m n) (hp : 0 < p) (hp2 : p < 2 ^ 100) (hk : k ≤ 1000) (ha : a ≤ 2) :
    ∃ q m', c_pieces_1 [some (.loc n), some (.int p), some (.int k), some M, some w4, x5, some (.int a), none] m = .ok (.lst (tps q)) m' ∧ Chg n m m' ∧ q.length = a ∧ ∀ r ∈ q, r.length = k ∧ rowsIn p r := by
  have hi : iRg1 (aCons (eVar 6) aNil) [some (.loc n), some (.int p), some (.int k), some M, some w4, x5, some (.int a), none] m = .ok ⟨rngI 0 a, []⟩ m := iRg1_nat (by omega) (by simp)
  obtain ⟨rs, m', hc, c, al⟩ := eComp_chg (vs := [7]) (g := gNm 7) (elt := eCallB (callN 3 d_factors) (aCons (eVar 0) (aCons (eVar 1) (aCons (eVar 2) aNil)))) (P := fun _ r => ∃ ns, r = D.tup (ils ns) ∧ (ns.length = k ∧ rowsIn p ns)) hi (Chg.refl h) h (by simp; omega) (fun d hd m h => by
    obtain ⟨ns, m1, e, c, q⟩ := factors_ok h hp hp2 hk
    exact ⟨_, _, m1, rfl, by simp [wipeD, e], c, ns, rfl, q⟩)
  obtain ⟨is, rfl, al2⟩ := al.sk
  have hl := al2.len
  simp only [rng_len] at hl
  refine ⟨is, m', hc, c, hl, fun x hx => ?_⟩
  obtain ⟨_, _, q⟩ := al2.mem hx
  exact q
theorem tuple_loc {m : Store} {n : Nat} {ds : List D} (h : m[n]? = some (some (.lst ds))) (hl : ds.length ≤ 100000) : tupleD [.loc n] m = .ok (.tup ds) m := by
  show (do let ds ← seqD (.loc n); mkT ds : DL.M D) m = _
  rw [bind_ap, seq_loc h]
  simp [hl]
theorem app_loc {m : Store} {n : Nat} {ds : List D} {x : D} (h : m[n]? = some (some (.lst ds))) (hl : ds.length + 1 ≤ 100000) : growD (.loc n) [x] m = .ok .non (m.set n (some (.lst (ds ++ [x])))) := by
  unfold growD
  simp only [h, List.length_cons, List.length_nil]
  rw [if_pos (by omega)]
theorem isLoc_ok {m : Store} {n : Nat} {ds : List D} (h : m[n]? = some (some (.lst ds))) : isLocL (.loc n) m = .ok () m := by
  unfold isLocL
  simp only [h]
theorem pieces_in {m m1 : Store} {n : Nat} {p M : Int} {k : Nat} {l : List (List (List Int))} {x5 x6 : Option D} (h : SrcAt m n) (c : Chg n m m1) (hp : 0 < p) (hp2 : p < 2 ^ 100) (hk : k ≤ 1000) (hl : l.length ≤ 100) :
    ∃ q m2 y6, lb_pieces_1 [some (.loc n), some (.int p), some (.int k), some (.int M), some (.loc m.length), x5, x6, none] (m1 ++ [some (.lst (pcs l))]) =
      .ok (.nx [some (.loc n), some (.int p), some (.int k), some (.int M), some (.loc m.length), x5, y6, none]) (m2 ++ [some (.lst (pcs (l ++ [q])))]) ∧ Chg n m m2 ∧ PcOk p k q := by
  have h1 : SrcAt m1 n := c.src h
  obtain ⟨r, m3, e3, c3, r0, r1⟩ := draw_ok (k := 3) (src_app h1 [some (.lst (pcs l))]) (by decide) (by decide)
  obtain ⟨m4, rfl, c4⟩ := c3.split (src_lt h1)
  have h4 := c4.src h1
  have key : ∀ a : Nat, 1 ≤ a → a ≤ 2 → (if r = 0 then (1 : Int) else 0) + 1 = a → ∃ q m2, lb_pieces_1 [some (.loc n), some (.int p), some (.int k), some (.int M), some (.loc m.length), x5, x6, none] (m1 ++ [some (.lst (pcs l))]) =
      .ok (.nx [some (.loc n), some (.int p), some (.int k), some (.int M), some (.loc m.length), x5, some (.int a), none]) (m2 ++ [some (.lst (pcs (l ++ [q])))]) ∧ Chg n m m2 ∧ PcOk p k q := by
    intro a a1 a2 ea
    obtain ⟨q, m5, e5, c5, ql, qr⟩ := part_ok (M := .int M) (w4 := .loc m.length) (x5 := x5) (a := a) (src_app h4 [some (.lst (pcs l))]) hp hp2 hk a2
    obtain ⟨m6, rfl, c6⟩ := c5.split (src_lt h4)
    have hlen : m.length = m6.length := by rw [c6.len, c4.len, c.len]
    have hlen4 : m.length = m4.length := by rw [c4.len, c.len]
    have g4 : (m4 ++ [some (Cell.lst (pcs l))])[m.length]? = some (some (.lst (pcs l))) := by rw [hlen4]; simp
    have g6 : (m6 ++ [some (Cell.lst (pcs l))])[m.length]? = some (some (.lst (pcs l))) := by rw [hlen]; simp
    refine ⟨q, m6, ?_, (c.trans c4).trans c6, by omega, by omega, qr⟩
    have ea' : (1 : Int) + (if r = 0 then 1 else 0) = a := by omega
    have gr := app_loc (x := .tup (tps q)) g6 (by simp; omega)
    have es : (m6 ++ [some (Cell.lst (pcs l))]).set m.length (some (.lst (pcs l ++ [D.tup (tps q)]))) = m6 ++ [some (.lst (pcs (l ++ [q])))] := by
      rw [hlen]
      simp [pcs]
    rw [es] at gr
    have il := isLoc_ok g4
    have hq : q.length ≤ 100000 := by omega
    have s1 : sSet 6 (eOp addD (eC (.int 1)) (eCallB intD (aCons (eOp eqD (eCallB (callN 2 d_draw) (aCons (eVar 0) (aCons (eC (.int 3)) aNil))) (eC (.int 0))) aNil))) [some (.loc n), some (.int p), some (.int k), some (.int M), some (.loc m.length), x5, x6, none] (m1 ++ [some (.lst (pcs l))]) =
        .ok (.nx [some (.loc n), some (.int p), some (.int k), some (.int M), some (.loc m.length), x5, some (.int a), none]) (m4 ++ [some (.lst (pcs l))]) := by
      simp [e3, ea']
    have s2 : sExpr (eApp (eVar 4) (eCallB tupleD (aCons c_pieces_1 aNil))) [some (.loc n), some (.int p), some (.int k), some (.int M), some (.loc m.length), x5, some (.int a), none] (m4 ++ [some (.lst (pcs l))]) =
        .ok (.nx [some (.loc n), some (.int p), some (.int k), some (.int M), some (.loc m.length), x5, some (.int a), none]) (m6 ++ [some (.lst (pcs (l ++ [q])))]) := by
      have t : tupleD [.lst (tps q)] (m6 ++ [some (.lst (pcs l))]) = .ok (.tup (tps q)) (m6 ++ [some (.lst (pcs l))]) := by
        simp [hq]
      have z : eCallB tupleD (aCons c_pieces_1 aNil) [some (.loc n), some (.int p), some (.int k), some (.int M), some (.loc m.length), x5, some (.int a), none] (m4 ++ [some (.lst (pcs l))]) = .ok (.tup (tps q)) (m6 ++ [some (.lst (pcs l))]) := by
        rw [eCallB_ap, aCons_ap, e5]
        simp only [thn_ok, aNil_ap]
        exact t
      have y : eVar 4 [some (.loc n), some (.int p), some (.int k), some (.int M), some (.loc m.length), x5, some (.int a), none] (m4 ++ [some (.lst (pcs l))]) = .ok (.loc m.length) (m4 ++ [some (.lst (pcs l))]) := by simp
      have w : eApp (eVar 4) (eCallB tupleD (aCons c_pieces_1 aNil)) [some (.loc n), some (.int p), some (.int k), some (.int M), some (.loc m.length), x5, some (.int a), none] (m4 ++ [some (.lst (pcs l))]) = .ok .non (m6 ++ [some (.lst (pcs (l ++ [q])))]) := eApp_of y il z gr
      rw [sExpr_ap, w]
      simp only [thn_ok]
    unfold lb_pieces_1
    rw [sSeq_ap, s1]
    simp only [thn_ok, andThen_nx]
    rw [s2]
  by_cases hr : r = 0
  · obtain ⟨q, m2, e, c2, ok⟩ := key 2 (by decide) (by decide) (by simp [hr])
    exact ⟨q, m2, _, e, c2, ok⟩
  · obtain ⟨q, m2, e, c2, ok⟩ := key 1 (by decide) (by decide) (by simp [hr])
    exact ⟨q, m2, _, e, c2, ok⟩
theorem pieces_ok {m : Store} {n : Nat} {p M : Int} {k : Nat} (h : SrcAt m n) (hp : 0 < p) (hp2 : p < 2 ^ 100) (hk : k ≤ 1000) (hM : 2 ≤ M) (hM2 : M ≤ 50) :
    ∃ l m', d_pieces [.loc n, .int p, .int k, .int M] m = .ok (.tup (pcs l)) m' ∧ Chg n m m' ∧ 2 ≤ l.length ∧ (l.length : Int) ≤ M ∧ ∀ q ∈ l, PcOk p k q := by
  obtain ⟨r, m3, e3, c3, r0, r1⟩ := draw_ok (k := M - 1) (src_app h [some (.lst [])]) (by omega) (by omega)
  obtain ⟨m4, rfl, c4⟩ := c3.split (src_lt h)
  have hi : iRg1 (aCons (eOp addD (eC (.int 2)) (eCallB (callN 2 d_draw) (aCons (eVar 0) (aCons (eOp subD (eVar 3) (eC (.int 1))) aNil)))) aNil) [some (.loc n), some (.int p), some (.int k), some (.int M), some (.loc m.length), none, none, none] (m ++ [some (.lst [])]) = .ok ⟨rngI 0 (2 + r).toNat, []⟩ (m4 ++ [some (.lst [])]) := iRg1_ap _ _ _ (by simp [e3]) (by omega) (by omega)
  obtain ⟨e', m', hf, x5, x6, m6, l, rfl, rfl, c6, hl, ok⟩ := forL_chg (src := rngI 0 (2 + r).toNat) (g := gNm 5) (b := lb_pieces_1) (fun i e s => ∃ x5 x6 m6 l, e = [some (.loc n), some (.int p), some (.int k), some (.int M), some (.loc m.length), x5, x6, none] ∧ s = m6 ++ [some (.lst (pcs l))] ∧ Chg n m m6 ∧ l.length = i ∧ ∀ q ∈ l, PcOk p k q) (rngI 0 (2 + r).toNat)
    [some (.loc n), some (.int p), some (.int k), some (.int M), some (.loc m.length), none, none, none] (m4 ++ [some (.lst [])]) ⟨none, none, m4, [], rfl, rfl, c4, rfl, fun q hq => by cases hq⟩ (by
    rintro j d e s hj ⟨x5, x6, m6, l, rfl, rfl, c6, hl, ok⟩
    obtain ⟨hjl, rfl⟩ := rng_get hj
    obtain ⟨q, m2, y6, e2, c2, qo⟩ := pieces_in (p := p) (M := M) (k := k) (l := l) (x5 := some (.int j)) (x6 := x6) h c6 hp hp2 hk (by omega)
    refine ⟨_, _, _, _, rfl, .inl e2, some (.int j), y6, m2, l ++ [q], rfl, rfl, c2, by simp [hl], fun q' hq' => ?_⟩
    rcases List.mem_append.mp hq' with z | z
    · exact ok q' z
    · rw [List.mem_singleton.mp z]
      exact qo)
  rw [rng_len] at hl
  have hlen : m.length = m6.length := by rw [c6.len]
  have g6 : (m6 ++ [some (Cell.lst (pcs l))])[m.length]? = some (some (.lst (pcs l))) := by rw [hlen]; simp
  refine ⟨l, m6, fn_chg (junk := [some (.lst (pcs l))]) ?_ c6 (by simp [D.und, und_pcs]), c6, by omega, by omega, ok⟩
  have tp := tuple_loc g6 (by simp; omega)
  have q : l_pieces_1 [some (.loc n), some (.int p), some (.int k), some (.int M), some (.loc m.length), none, none, none] (m ++ [some (.lst [])]) = .ok (.nx [some (.loc n), some (.int p), some (.int k), some (.int M), some (.loc m.length), x5, x6, none]) (m6 ++ [some (.lst (pcs l))]) := by
    unfold l_pieces_1
    rw [sFor_ap, hi]
    exact hf
  simp [b_pieces, startD, newM, q, tp]
theorem tup_of_lst {m m1 : Store} {e : DEnv} {c : DEnv → M D} {ds : List D} (h : c e m = .ok (.lst ds) m1) (hl : ds.length ≤ 100000) : eCallB tupleD (aCons c aNil) e m = .ok (.tup ds) m1 := by
  rw [eCallB_ap, aCons_ap, h]
  simp [hl]
theorem price_row {m : Store} {n : Nat} {k : Int} {q : List (List Int)} {x1 x3 x4 : Option D} (h : SrcAt m n) (hk : 0 < k) (hk2 : k ≤ 20) (hq : q.length ≤ 100) :
    ∃ r m', eCallB tupleD (aCons c_prices_1 aNil) [some (.loc n), x1, some (.int k), x3, x4, some (.tup (tps q)), none] m = .ok (.tup (ils r)) m' ∧ Chg n m m' ∧ (r.length = q.length ∧ rowsIn 20 r) := by
  have hi : iSeqD (eVar 5) [some (.loc n), x1, some (.int k), x3, x4, some (.tup (tps q)), none] m = .ok ⟨tps q, []⟩ m := by simp
  obtain ⟨rs, m', hc, c, al⟩ := eComp_chg (vs := [6]) (g := gNm 6) (elt := eCallB (callN 2 d_draw) (aCons (eVar 0) (aCons (eVar 2) aNil))) (P := fun _ r => ∃ i, r = D.int i ∧ (0 ≤ i ∧ i < k)) hi (Chg.refl h) h (by simp; omega) (fun d hd m h => by
    obtain ⟨r, m1, e, c, r0, r1⟩ := draw_ok h hk (by omega)
    exact ⟨_, _, m1, rfl, by simp [wipeD, e], c, r, rfl, r0, r1⟩)
  obtain ⟨is, rfl, al2⟩ := al.ints
  have hl := al2.len
  simp only [tps_length] at hl
  refine ⟨is, m', tup_of_lst hc (by simp; omega), c, hl, fun x hx => ?_⟩
  obtain ⟨_, _, q0, q1⟩ := al2.mem hx
  exact ⟨q0, by omega⟩
theorem All2.pcs {R : List (List Int) → List Int → Prop} : ∀ {l : List (List (List Int))} {rs : List D}, All2 (fun d r => ∃ x, r = D.tup (ils x) ∧ ∀ q, d = D.tup (tps q) → R q x) (pcs l) rs → ∃ ps, rs = tps ps ∧ All2 R l ps
  | [], _, h => by cases h; exact ⟨[], rfl, .nil⟩
  | q :: l, _, h => by
    cases h with
    | cons p h =>
      obtain ⟨x, rfl, p⟩ := p
      obtain ⟨ps, rfl, a⟩ := All2.pcs h
      exact ⟨x :: ps, rfl, .cons (p q rfl) a⟩
theorem prices_parts {m : Store} {n : Nat} {k : Int} {l : List (List (List Int))} {x3 x4 : Option D} (h : SrcAt m n) (hk : 0 < k) (hk2 : k ≤ 20) (hl : l.length ≤ 100) (hq : ∀ q ∈ l, q.length ≤ 100) :
    ∃ ps m', c_prices_2 [some (.loc n), some (.tup (pcs l)), some (.int k), x3, x4, none, none] m = .ok (.lst (tps ps)) m' ∧ Chg n m m' ∧ All2 (fun q p => p.length = q.length ∧ rowsIn 20 p) l ps := by
  have hi : iSeqD (eVar 1) [some (.loc n), some (.tup (pcs l)), some (.int k), x3, x4, none, none] m = .ok ⟨pcs l, []⟩ m := by simp
  obtain ⟨rs, m', hc, c, al⟩ := eComp_chg (vs := [5]) (g := gNm 5) (elt := eCallB tupleD (aCons c_prices_1 aNil)) (P := fun d r => ∃ x, r = D.tup (ils x) ∧ ∀ q, d = D.tup (tps q) → x.length = q.length ∧ rowsIn 20 x) hi (Chg.refl h) h (by simp; omega) (fun d hd m h => by
    simp only [DL.pcs, List.mem_map] at hd
    obtain ⟨q, hq', rfl⟩ := hd
    obtain ⟨r, m1, e, c, p⟩ := price_row (k := k) (q := q) (x1 := some (.tup (pcs l))) (x3 := x3) (x4 := x4) h hk hk2 (hq q hq')
    refine ⟨_, _, m1, rfl, by simpa [wipeD] using e, c, r, rfl, fun q2 e2 => ?_⟩
    have e3 : tps q = tps q2 := by injection e2
    have e4 : q.length = q2.length := by rw [← tps_length q, e3, tps_length]
    rw [← e4]
    exact p)
  obtain ⟨ps, rfl, al2⟩ := All2.pcs al
  exact ⟨ps, m', hc, c, al2⟩
theorem prices_wholes {m : Store} {n : Nat} {k : Int} {l : List (List (List Int))} {x3 x4 : Option D} (h : SrcAt m n) (hk : 0 < k) (hk2 : k ≤ 20) (hl : l.length ≤ 100) :
    ∃ ws m', c_prices_3 [some (.loc n), some (.tup (pcs l)), some (.int k), x3, x4, none, none] m = .ok (.lst (ils ws)) m' ∧ Chg n m m' ∧ ws.length = l.length ∧ rowsIn 22 ws := by
  have hi : iSeqD (eVar 1) [some (.loc n), some (.tup (pcs l)), some (.int k), x3, x4, none, none] m = .ok ⟨pcs l, []⟩ m := by simp
  obtain ⟨rs, m', hc, c, al⟩ := eComp_chg (vs := [5]) (g := gNm 5) (elt := eCallB (callN 2 d_draw) (aCons (eVar 0) (aCons (eOp addD (eVar 2) (eC (.int 2))) aNil))) (P := fun _ r => ∃ i, r = D.int i ∧ (0 ≤ i ∧ i < 22)) hi (Chg.refl h) h (by simp; omega) (fun d hd m h => by
    obtain ⟨r, m1, e, c, r0, r1⟩ := draw_ok (k := k + 2) h (by omega) (by omega)
    exact ⟨_, _, m1, rfl, by simp [wipeD, e], c, r, rfl, r0, by omega⟩)
  obtain ⟨is, rfl, al2⟩ := al.ints
  have hl := al2.len
  simp only [pcs_length] at hl
  refine ⟨is, m', hc, c, hl, fun x hx => ?_⟩
  obtain ⟨_, _, q⟩ := al2.mem hx
  exact q
theorem prices_opens {m : Store} {n : Nat} {x2 : Option D} {l : List (List (List Int))} {x3 x4 : Option D} (h : SrcAt m n) (hl : l.length ≤ 100) :
    ∃ ws m', c_prices_4 [some (.loc n), some (.tup (pcs l)), x2, x3, x4, none, none] m = .ok (.lst (ils ws)) m' ∧ Chg n m m' ∧ ws.length = l.length ∧ rowsIn 4 ws := by
  have hi : iSeqD (eVar 1) [some (.loc n), some (.tup (pcs l)), x2, x3, x4, none, none] m = .ok ⟨pcs l, []⟩ m := by simp
  obtain ⟨rs, m', hc, c, al⟩ := eComp_chg (vs := [5]) (g := gNm 5) (elt := eOp mulD (eCallB (callN 2 d_draw) (aCons (eVar 0) (aCons (eC (.int 4)) aNil))) (eCallB (callN 2 d_draw) (aCons (eVar 0) (aCons (eC (.int 2)) aNil)))) (P := fun _ r => ∃ i, r = D.int i ∧ (0 ≤ i ∧ i < 4)) hi (Chg.refl h) h (by simp; omega) (fun d hd m h => by
    obtain ⟨r, m1, e, c, r0, r1⟩ := draw_ok (k := 4) h (by decide) (by decide)
    obtain ⟨r', m2, e', c', r0', r1'⟩ := draw_ok (k := 2) (c.src h) (by decide) (by decide)
    have hr : 0 ≤ r * r' ∧ r * r' < 4 := by
      have : r' = 0 ∨ r' = 1 := by omega
      rcases this with rfl | rfl
      · simp
      · simp; omega
    exact ⟨_, _, m2, rfl, by simp [wipeD, e, e', mul_int _ (cm_l (i := r) (j := r') (by omega) (by omega))], c.trans c', r * r', rfl, hr⟩)
  obtain ⟨is, rfl, al2⟩ := al.ints
  have hl := al2.len
  simp only [pcs_length] at hl
  refine ⟨is, m', hc, c, hl, fun x hx => ?_⟩
  obtain ⟨_, _, q⟩ := al2.mem hx
  exact q
/-- prices of pieces -/
structure PrOk (l : List (List (List Int))) (ps : List (List Int)) (ws os : List Int) : Prop where
  ps : All2 (fun q p => p.length = q.length ∧ rowsIn 20 p) l ps
  wl : ws.length = l.length
  wi : rowsIn 22 ws
  ol : os.length = l.length
  oi : rowsIn 4 os
def prD (ps : List (List Int)) (ws os : List Int) : D := .tup [.tup (tps ps), .tup (ils ws), .tup (ils os)]
theorem prices_ok {m : Store} {n : Nat} {l : List (List (List Int))} (h : SrcAt m n) (hl : l.length ≤ 100) (hq : ∀ q ∈ l, q.length ≤ 100) :
    ∃ ps ws os m', d_prices [.loc n, .tup (pcs l)] m = .ok (prD ps ws os) m' ∧ Chg n m m' ∧ PrOk l ps ws os := by
  obtain ⟨d, m1, e1, c1, hd⟩ := pick_ok (ds := [.int 2, .int 4, .int 9, .int 20]) h (by decide) (by decide)
  have : ∃ k : Int, d = .int k ∧ 0 < k ∧ k ≤ 20 := by
    simp only [List.mem_cons, List.not_mem_nil, or_false] at hd
    rcases hd with rfl | rfl | rfl | rfl
    · exact ⟨2, rfl, by decide, by decide⟩
    · exact ⟨4, rfl, by decide, by decide⟩
    · exact ⟨9, rfl, by decide, by decide⟩
    · exact ⟨20, rfl, by decide, by decide⟩
  obtain ⟨k, rfl, k0, k1⟩ := this
  have h1 := c1.src h
  obtain ⟨ps, m2, e2, c2, al⟩ := prices_parts (x3 := none) (x4 := none) h1 k0 k1 hl hq
  obtain ⟨ws, m3, e3, c3, wl, wi⟩ := prices_wholes (x3 := some (.lst (tps ps))) (x4 := none) (c2.src h1) k0 k1 hl
  obtain ⟨os, m4, e4, c4, ol, oi⟩ := prices_opens (x2 := some (.int k)) (x3 := some (.lst (tps ps))) (x4 := some (.lst (ils ws))) (c3.src (c2.src h1)) hl
  have c := ((c1.trans c2).trans c3).trans c4
  have pl := al.len
  refine ⟨ps, ws, os, m4, fn_chg0 ?_ c, c, al, wl, wi, ol, oi⟩
  have a1 : ps.length ≤ 100000 := by omega
  have a2 : ws.length ≤ 100000 := by omega
  have a3 : os.length ≤ 100000 := by omega
  have s1 : sSet 2 (eCallB (callN 2 d_pick) (aCons (eVar 0) (aCons (eLst (aCons (eC (.int 2)) (aCons (eC (.int 4)) (aCons (eC (.int 9)) (aCons (eC (.int 20)) aNil))))) aNil))) (startD 7 [.loc n, .tup (pcs l)]) m = .ok (.nx [some (.loc n), some (.tup (pcs l)), some (.int k), none, none, none, none]) m1 := by
    simp [startD, e1]
  refine sq_of s1 (sq_of (e1 := [some (.loc n), some (.tup (pcs l)), some (.int k), some (.lst (tps ps)), none, none, none]) (m1 := m2) (by simp [e2]) (sq_of (e1 := [some (.loc n), some (.tup (pcs l)), some (.int k), some (.lst (tps ps)), some (.lst (ils ws)), none, none]) (m1 := m3) (by simp [e3]) ?_))
  simp [e4, a1, a2, a3, prD]
theorem bet_int (v a b : Int) (m : Store) : d_is_between [.int v, .int a, .int b] m = .ok (.bl (decide (a ≤ v) && decide (v ≤ b))) m := by
  refine fn_pure ?_
  by_cases h : a ≤ v <;> simp [b_is_between, startD, isK, h]
theorem bet_non (a b : D) (m : Store) : d_is_between [.non, a, b] m = .ok (.bl false) m := fn_pure (by simp [b_is_between, startD, isK])
theorem bet_bl (v : Bool) (a b : D) (m : Store) : d_is_between [.bl v, a, b] m = .ok (.bl false) m := fn_pure (by simp [b_is_between, startD, isK])
theorem bet_str (v : Str) (a b : D) (m : Store) : d_is_between [.str v, a, b] m = .ok (.bl false) m := fn_pure (by simp [b_is_between, startD, isK])
theorem bet_tup (v : List D) (a b : D) (m : Store) : d_is_between [.tup v, a, b] m = .ok (.bl false) m := fn_pure (by simp [b_is_between, startD, isK])
theorem bet_lst (v : List D) (a b : D) (m : Store) : d_is_between [.lst v, a, b] m = .ok (.bl false) m := fn_pure (by simp [b_is_between, startD, isK])
/-- what is between -/
def btw (d : D) (a b : Int) : Bool := match d with
  | .int v => decide (a ≤ v) && decide (v ≤ b)
  | _ => false
/-- small data -/
def sml : D → Bool
  | .non => true
  | .bl _ => true
  | .int _ => true
  | .str _ => true
  | .tup _ => true
  | .lst _ => true
  | _ => false
theorem bet_ok {d : D} (h : sml d = true) (a b : Int) (m : Store) : d_is_between [d, .int a, .int b] m = .ok (.bl (btw d a b)) m := by
  cases d with
  | non => exact bet_non _ _ m
  | bl v => exact bet_bl v _ _ m
  | int v => exact bet_int v a b m
  | str v => exact bet_str v _ _ m
  | tup v => exact bet_tup v _ _ m
  | lst v => exact bet_lst v _ _ m
  | _ => cases h
theorem row_lst (v : List D) (m : Store) : d_is_row [.lst v] m = .ok (.bl true) m := fn_pure (by simp [b_is_row, startD, isK])
theorem row_tup (v : List D) (m : Store) : d_is_row [.tup v] m = .ok (.bl true) m := fn_pure (by simp [b_is_row, startD, isK])
theorem nrow_non (m : Store) : d_is_row [.non] m = .ok (.bl false) m := fn_pure (by simp [b_is_row, startD, isK])
theorem nrow_bl (b : Bool) (m : Store) : d_is_row [.bl b] m = .ok (.bl false) m := fn_pure (by simp [b_is_row, startD, isK])
theorem nrow_int (i : Int) (m : Store) : d_is_row [.int i] m = .ok (.bl false) m := fn_pure (by simp [b_is_row, startD, isK])
theorem nrow_str (i : Str) (m : Store) : d_is_row [.str i] m = .ok (.bl false) m := fn_pure (by simp [b_is_row, startD, isK])
theorem nrow_dct (ks : List Key) (ds : List D) (m : Store) : d_is_row [.dct ks ds] m = .ok (.bl false) m := fn_pure (by simp [b_is_row, startD, isK])
/-- a list or a tuple -/
def Sd (b : Bool) (ds : List D) : D := if b then .tup ds else .lst ds
@[simp] theorem src_Sd (b : Bool) (ds : List D) (m : Store) : srcD (Sd b ds) m = .ok ⟨ds, []⟩ m := by cases b <;> rfl
@[simp] theorem seq_Sd (b : Bool) (ds : List D) (m : Store) : seqD (Sd b ds) m = .ok ds m := by cases b <;> rfl
@[simp] theorem len_Sd (b : Bool) (ds : List D) (m : Store) : lenD [Sd b ds] m = .ok (.int ds.length) m := by cases b <;> simp [Sd]
theorem row_Sd (b : Bool) (v : List D) (m : Store) : d_is_row [Sd b v] m = .ok (.bl true) m := by cases b <;> simp [Sd, row_lst, row_tup]
theorem tuple_Sd (b : Bool) (ds : List D) (m : Store) (h : ds.length ≤ 100000) : tupleD [Sd b ds] m = .ok (.tup ds) m := by cases b <;> simp [Sd, h]
/-- arguments: rows of small data, or no rows -/
inductive Arg : D → Prop
  | row (b : Bool) {ds : List D} : ds.length ≤ 1000 → (∀ d ∈ ds, sml d = true) → Arg (Sd b ds)
  | non : Arg .non
  | bl (b : Bool) : Arg (.bl b)
  | int (i : Int) : Arg (.int i)
  | str (s : Str) : Arg (.str s)
  | dct (ks : List Key) (ds : List D) : Arg (.dct ks ds)
def prsOk (d : D) (lo hi : Int) : Bool := match d with
  | .lst ds => decide (lo ≤ ds.length) && (decide ((ds.length : Int) ≤ hi) && ds.all fun x => btw x 0 1000)
  | .tup ds => decide (lo ≤ ds.length) && (decide ((ds.length : Int) ≤ hi) && ds.all fun x => btw x 0 1000)
  | _ => false
theorem prs_Sd (b : Bool) (ds : List D) (lo hi : Int) : prsOk (Sd b ds) lo hi = (decide (lo ≤ ds.length) && (decide ((ds.length : Int) ≤ hi) && ds.all fun x => btw x 0 1000)) := by cases b <;> rfl
theorem price_ok {d : D} (h : sml d = true) (m : Store) : d_is_price [d] m = .ok (.bl (btw d 0 1000)) m := fn_pure (by simp [b_is_price, startD, bet_ok h])
theorem all_map {α : Type} (xs : List α) (f : α → Bool) (m : Store) : allD [.lst (xs.map fun d => .bl (f d))] m = .ok (.bl (xs.all f)) m := by
  have := all_bls (xs.map f) m
  simpa [Function.comp_def] using this
theorem prices_comp {b : Bool} {ds : List D} {x1 x2 : Option D} (hs : ∀ d ∈ ds, sml d = true) (hl : ds.length ≤ 1000) (m : Store) :
    c_is_prices_1 [some (Sd b ds), x1, x2, none] m = .ok (.lst (ds.map fun d => .bl (btw d 0 1000))) m := by
  have := eComp_on (it := iSeqD (eVar 0)) (g := gNm 3) (elt := eCallB (callN 1 d_is_price) (aCons (eVar 3) aNil)) (vs := [3]) (e := [some (Sd b ds), x1, x2, none]) (m := m) (xs := ds) (h := id) (f := fun d => .bl (btw d 0 1000)) (by simp) (by omega) fun d hd => ⟨_, rfl, by simp [wipeD, price_ok (hs d hd)]⟩
  exact this
theorem is_prices_ok {d : D} (h : Arg d) (lo hi : Int) (m : Store) : d_is_prices [d, .int lo, .int hi] m = .ok (.bl (prsOk d lo hi)) m := by
  refine fn_pure ?_
  cases h with
  | @row b ds hl hs =>
    have hc := prices_comp (b := b) (x1 := some (.int lo)) (x2 := some (.int hi)) hs hl m
    have ha := all_map ds (fun d => btw d 0 1000) m
    rw [prs_Sd]
    by_cases h1 : lo ≤ (ds.length : Int)
    · by_cases h2 : (ds.length : Int) ≤ hi
      · simp [b_is_prices, startD, row_Sd, h1, h2, hc, ha]
      · simp [b_is_prices, startD, row_Sd, h1, h2]
    · simp [b_is_prices, startD, row_Sd, h1]
  | non => simp [b_is_prices, startD, nrow_non, prsOk]
  | bl b => simp [b_is_prices, startD, nrow_bl, prsOk]
  | int i => simp [b_is_prices, startD, nrow_int, prsOk]
  | str s => simp [b_is_prices, startD, nrow_str, prsOk]
  | dct ks ds => simp [b_is_prices, startD, nrow_dct, prsOk]
theorem init_comp {b : Bool} {ds : List D} {x0 x2 x3 x4 : Option D} (hs : ∀ d ∈ ds, Arg d) (hl : ds.length ≤ 1000) (m : Store) :
    c_Prices_init_1 [x0, some (Sd b ds), x2, x3, x4, none] m = .ok (.lst (ds.map fun d => .bl (prsOk d 1 3))) m := by
  have := eComp_on (it := iSeqD (eVar 1)) (g := gNm 5) (elt := eCallB (callN 3 d_is_prices) (aCons (eVar 5) (aCons (eC (.int 1)) (aCons (eC (.int 3)) aNil)))) (vs := [5]) (e := [x0, some (Sd b ds), x2, x3, x4, none]) (m := m) (xs := ds) (h := id) (f := fun d => .bl (prsOk d 1 3)) (by simp) (by omega) fun d hd => ⟨_, rfl, by simp [wipeD, is_prices_ok (hs d hd)]⟩
  exact this
abbrev jk (m : Store) : Store := m ++ [some (.ins 4 [])]
/-- good parts, wholes -/
structure GdP (ps : List (List Int)) : Prop where
  l1 : 1 ≤ ps.length
  l6 : ps.length ≤ 6
  row : ∀ p ∈ ps, 1 ≤ p.length ∧ p.length ≤ 3 ∧ ∀ x ∈ p, 0 ≤ x ∧ x ≤ 1000
def gdW (k : Nat) (ws : List Int) : Prop := ws.length = k ∧ ∀ x ∈ ws, 0 ≤ x ∧ x ≤ 1000
theorem sml_ils {ns : List Int} : ∀ d ∈ ils ns, sml d = true := fun d hd => by
  simp only [ils, List.mem_map] at hd
  obtain ⟨x, _, rfl⟩ := hd
  rfl
theorem arg_ils (b : Bool) {ns : List Int} (h : ns.length ≤ 1000) : Arg (Sd b (ils ns)) := .row b (by simpa using h) sml_ils
theorem btw_ils {ns : List Int} (h : ∀ x ∈ ns, 0 ≤ x ∧ x ≤ 1000) : ((ils ns).all fun x => btw x 0 1000) = true := by
  simp only [ils, List.all_map, List.all_eq_true]
  intro x hx
  obtain ⟨h1, h2⟩ := h x hx
  simp [btw, h1, h2]
theorem prs_ils {b : Bool} {ns : List Int} {lo hi : Int} (h1 : lo ≤ ns.length) (h2 : (ns.length : Int) ≤ hi) (h : ∀ x ∈ ns, 0 ≤ x ∧ x ≤ 1000) : prsOk (Sd b (ils ns)) lo hi = true := by
  rw [prs_Sd, btw_ils h]
  simp [h1, h2]
section init
variable {ps : List (List Int)} {ws os : List Int}
def Pr (ps : List (List Int)) (ws os : List Int) : D := .obj 4 [.tup (ils os), .tup (tps ps), .tup (ils ws)]
theorem init_comp2 {b : Bool} {xs : List (List Int × Bool)} {x0 x2 x3 x4 : Option D} (h : GdP (xs.map (·.1))) (m : Store) :
    c_Prices_init_2 [x0, some (Sd b (xs.map rwD)), x2, x3, x4, none] m = .ok (.lst (tps (xs.map (·.1)))) m := by
  have l6 := h.l6
  simp only [List.length_map] at l6
  have e : tps (xs.map (·.1)) = xs.map fun x => D.tup (ils x.1) := by simp [tps]
  rw [e]
  refine eComp_on (h := rwD) (by simp) (by omega) fun x hx => ⟨_, rfl, ?_⟩
  have := (h.row x.1 (List.mem_map_of_mem hx)).2.1
  have tq := tuple_Sq x.2 x.1 m (by omega)
  simp [wipeD]
  exact tq
theorem arg_rw {xs : List (List Int × Bool)} (h : GdP (xs.map (·.1))) : ∀ d ∈ xs.map rwD, Arg d := fun d hd => by
  simp only [List.mem_map] at hd
  obtain ⟨x, hx, rfl⟩ := hd
  have := (h.row x.1 (List.mem_map_of_mem hx)).2.1
  have := arg_ils x.2 (ns := x.1) (by omega)
  exact this
theorem all_rw {xs : List (List Int × Bool)} (h : GdP (xs.map (·.1))) (m : Store) : allD [.lst ((xs.map rwD).map fun d => .bl (prsOk d 1 3))] m = .ok (.bl true) m := by
  have e := all_map (xs.map rwD) (fun d => prsOk d 1 3) m
  have e2 : ((xs.map rwD).all fun d => prsOk d 1 3) = true := by
    simp only [List.all_map, List.all_eq_true]
    intro x hx
    obtain ⟨h1, h2, h3⟩ := h.row x.1 (List.mem_map_of_mem hx)
    exact prs_ils (b := x.2) (by omega) (by omega) h3
  rw [e2] at e
  exact e
theorem init_ok {b b2 b3 : Bool} {xs : List (List Int × Bool)} (h : GdP (xs.map (·.1))) (hw : gdW xs.length ws) (ho : gdW xs.length os) (m : Store) : makeD 4 4 d_Prices_init [Sd b (xs.map rwD), Sd b2 (ils ws), Sd b3 (ils os)] m = .ok (Pr (xs.map (·.1)) ws os) m := by
  refine make_ok rfl ?_ (by simp [D.undL, D.und, und_ils, und_tps])
  refine fn_anyN (e := [some (.loc m.length), some (Sd b (xs.map rwD)), some (Sd b2 (ils ws)), some (Sd b3 (ils os)), some (Sd b3 (ils os)), none]) ?_ (by simp)
  have l1 := h.l1
  have l6 := h.l6
  simp only [List.length_map] at l1 l6
  have h1' : (1 : Int) ≤ xs.length := by omega
  have h2' : (xs.length : Int) ≤ 6 := by omega
  have hc := init_comp (b := b) (x0 := some (.loc m.length)) (x2 := some (Sd b2 (ils ws))) (x3 := some (Sd b3 (ils os))) (x4 := none) (arg_rw h) (by simp; omega) (jk m)
  have ha := all_rw h (jk m)
  have hp := is_prices_ok (arg_ils b3 (ns := os) (by have := ho.1; omega)) xs.length xs.length (jk m)
  rw [prs_ils (by have := ho.1; omega) (by have := ho.1; omega) ho.2] at hp
  have hq := is_prices_ok (arg_ils b2 (ns := ws) (by have := hw.1; omega)) xs.length xs.length (jk m)
  rw [prs_ils (by have := hw.1; omega) (by have := hw.1; omega) hw.2] at hq
  have c2 := init_comp2 (b := b) (x0 := some (.loc m.length)) (x2 := some (Sd b2 (ils ws))) (x3 := some (Sd b3 (ils os))) (x4 := some (Sd b3 (ils os))) h (jk m)
  have a1 : xs.length ≤ 100000 := by omega
  have a2 : ws.length ≤ 100000 := by have := hw.1; omega
  have a3 : os.length ≤ 100000 := by have := ho.1; omega
  simp only [List.map_map] at hc ha
  simp [b_Prices_init, startD, row_Sd, h1', h2', hc, ha, l_Prices_init_1, forL, lb_Prices_init_1, hp, hq, c2, a1, tuple_Sd _ _ _ (show (ils ws).length ≤ 100000 by simpa using a2), tuple_Sd _ _ _ (show (ils os).length ≤ 100000 by simpa using a3), sAttr, gAt, setAtT, clsD, setAt, putD]
end init
abbrev OkP (p : Int) : Prop := p = 2 ∨ p = 3 ∨ p = 5 ∨ p = 7
structure Fm (p : Int) (s : Nat) : Prop where
  okp : OkP p
  s1 : 1 ≤ s
  s6 : s ≤ 6
  pw : p ^ s ≤ 4096
theorem is_integer_ok (i : Int) (m : Store) : d_is_integer [.int i] m = .ok (.bl true) m := by
  refine fn_pure ?_
  simp [b_is_integer, startD, isK]
theorem is_prime_ok {p : Int} (h : OkP p) (m : Store) : d_is_prime [.int p] m = .ok (.bl true) m := by
  refine fn_pure ?_
  rcases h with rfl | rfl | rfl | rfl <;> simp [b_is_prime, startD, is_integer_ok, inD, flatD, eqFl]
theorem is_between_ok (v a b : Int) (m : Store) : d_is_between [.int v, .int a, .int b] m = .ok (.bl (decide (a ≤ v) && decide (v ≤ b))) m := by
  refine fn_pure ?_
  by_cases h : a ≤ v <;> simp [b_is_between, startD, isK, h]
theorem power_ok {p : Int} (h : OkP p) (s : Nat) (hs : s ≤ 6) (m : Store) : d_power [.int p, .int s] m = .ok (.int (p ^ s)) m := by
  refine fn_pure ?_
  have hr : iRg1 (aCons (eVar 1) aNil) [some (D.int p), some (D.int s), some (D.int 1), none] m = .ok ⟨rngI 0 s, []⟩ m := iRg1_nat (by omega) (by simp)
  obtain ⟨e', m', h1, x, rfl, rfl⟩ := forL_inv (src := rngI 0 s) (g := gNm 3) (b := lb_power_1) (fun i e m' => ∃ x, e = [some (D.int p), some (D.int s), some (D.int (p ^ i)), x] ∧ m' = m) (rngI 0 s) 0 [some (D.int p), some (D.int s), some (D.int 1), none] m ⟨none, by simp, rfl⟩ (by
    rintro j d e m' hj ⟨x, rfl, rfl⟩
    refine ⟨_, _, [some (D.int p), some (D.int s), some (D.int (p ^ (0 + j + 1))), some d], m', rfl, .inl ?_, some d, rfl, rfl⟩
    have c : CM (p ^ j) p := cm_r (by rcases h with h | h | h | h <;> omega) (by rcases h with h | h | h | h <;> omega)
    simp [lb_power_1, mul_int _ c, Int.pow_succ])
  have hlen : 0 + (rngI 0 s).length = s := by simp [rngI]
  rw [hlen] at h1
  have h2 : b_power (startD 4 [.int p, .int s]) m' = (forL ⟨rngI 0 s, []⟩ (gNm 3) lb_power_1 (rngI 0 s) [some (D.int p), some (D.int s), some (D.int 1), none] m').thn fun o m1 => andThen o (sRet (eVar 2)) m1 := by
    simp [b_power, l_power_1, startD, hr]
  rw [h2, h1]
  simp
theorem is_size_ok {p : Int} {s : Nat} (h : Fm p s) (m : Store) : d_is_size [.int p, .int s] m = .ok (.bl true) m := by
  refine fn_pure ?_
  have h1 : (1 : Int) ≤ s := by have := h.s1; omega
  have h2 : (s : Int) ≤ 6 := by have := h.s6; omega
  simp [b_is_size, startD, is_prime_ok h.okp, is_between_ok, h1, h2, power_ok h.okp s h.s6, h.pw]
theorem is_data_ok {p : Int} {ns : List Int} (h : Fm p ns.length) (hn : ∀ x ∈ ns, 0 ≤ x ∧ x < p) (b : Bool) (m : Store) : d_is_data [.int p, .int ns.length, Sq b ns] m = .ok (.bl true) m := by
  refine fn_pure ?_
  have hc : ∀ e, (e : DEnv) = startD 4 [.int p, .int ns.length, Sq b ns] → c_is_data_1 e m = .ok (.lst (ns.map fun _ => D.bl true)) m := by
    rintro e rfl
    refine eComp_on (h := D.int) (by simp [startD, ils]) (by have := h.s6; omega) fun x hx => ⟨_, rfl, ?_⟩
    obtain ⟨q1, q2⟩ := hn x hx
    have q3 : x ≤ p - 1 := by omega
    simp [startD, wipeD, is_between_ok, q1, q3]
  have hc := hc _ rfl
  have e2 : (ns.map fun _ => D.bl true) = (ns.map fun _ => true).map D.bl := by simp
  have hall := all_bls (ns.map fun _ => true) m
  rw [← e2] at hall
  simp only [startD] at hc
  simp at hc hall
  simp [b_is_data, startD, is_size_ok h, hc, hall]
section table
abbrev Xs := List (List (List Int × Bool) × Bool)
structure TO (p : Int) (s : Nat) (xs : Xs) : Prop where
  fm : Fm p s
  l1 : 1 ≤ xs.length
  l6 : xs.length ≤ 6
  pc : ∀ x ∈ xs, 1 ≤ x.1.length ∧ x.1.length ≤ 3 ∧ ∀ r ∈ x.1, r.1.length = s ∧ ∀ y ∈ r.1, 0 ≤ y ∧ y < p
  s10 : (xs.map fun x => x.1.length).sum ≤ 10
def Tb (p : Int) (s : Nat) (l : List (List (List Int))) : D := .obj 3 [.tup (pcs l), .int p, .int s, .lst ((spG 0 (l.map List.length)).map spT)]
variable {p : Int} {s : Nat} {xs : Xs} {d : Bool}
theorem is_row_ok (c : Bool) (ds : List D) (m : Store) : d_is_row [cD c ds] m = .ok (.bl true) m := fn_pure (by simp [b_is_row, startD])
theorem isum_nat : ∀ ks : List Nat, (ks.map fun k : Nat => (k : Int)).sum = (ks.sum : Nat)
  | [] => rfl
  | k :: r => by simp [isum_nat r]
theorem row_in (h : TO p s xs) {x : List (List Int × Bool) × Bool} (hx : x ∈ xs) {r : List Int × Bool} (hr : r ∈ x.1) {x2 x3 x4 x5 : Option D} (m : Store) :
    lb_require_pieces_1 [some (.int p), some (.int s), x2, x3, x4, x5, some (rwD r)] m = .ok (.nx [some (.int p), some (.int s), x2, x3, x4, x5, some (rwD r)]) m := by
  obtain ⟨_, _, q⟩ := h.pc x hx
  obtain ⟨e, b⟩ := q r hr
  have fm := h.fm
  subst e
  have dk := is_data_ok fm b r.2 m
  have dk' : d_is_data [.int p, .int r.1.length, rwD r] m = .ok (.bl true) m := dk
  simp [lb_require_pieces_1, dk']
theorem rows_loop (h : TO p s xs) {x : List (List Int × Bool) × Bool} (hx : x ∈ xs) {x2 x3 x5 x6 : Option D} (m : Store) : ∃ y5 y6, l_require_pieces_1 [some (.int p), some (.int s), x2, x3, some (pcD x), x5, x6] m = .ok (.nx [some (.int p), some (.int s), x2, x3, some (pcD x), y5, y6]) m := by
  have hi : iEnum (aCons (eVar 4) aNil) [some (.int p), some (.int s), x2, x3, some (pcD x), x5, x6] m = .ok ⟨enumT (x.1.map rwD), []⟩ m := iEnum_ap _ _ _ (x := pcD x) (by simp) (by simp [pcD])
  obtain ⟨e', m', hf, y5, y6, rfl, rfl⟩ := forL_chg (src := enumT (x.1.map rwD)) (g := gTp 2 (gsCons (gNm 5) (gsCons (gNm 6) gsNil))) (b := lb_require_pieces_1) (fun _ e t => ∃ y5 y6, e = [some (.int p), some (.int s), x2, x3, some (pcD x), y5, y6] ∧ t = m) (enumT (x.1.map rwD)) [some (.int p), some (.int s), x2, x3, some (pcD x), x5, x6] m ⟨x5, x6, rfl, rfl⟩ (by
    rintro j dd e t hj ⟨y5, y6, rfl, rfl⟩
    obtain ⟨y, hy, rfl⟩ := enumT_get hj
    rw [List.getElem?_map, Option.map_eq_some_iff] at hy
    obtain ⟨r, hr, rfl⟩ := hy
    exact ⟨_, _, _, _, by simp, .inl (row_in h hx (List.mem_of_getElem? hr) (x2 := x2) (x3 := x3) (x4 := some (pcD x)) (x5 := some (.int j)) t), _, _, rfl, rfl⟩)
  exact ⟨y5, y6, fr_of hi hf⟩
theorem piece_in (h : TO p s xs) {x : List (List Int × Bool) × Bool} (hx : x ∈ xs) {x2 x3 x5 x6 : Option D} (m : Store) : ∃ y5 y6, lb_require_pieces_2 [some (.int p), some (.int s), x2, x3, some (pcD x), x5, x6] m = .ok (.nx [some (.int p), some (.int s), x2, x3, some (pcD x), y5, y6]) m := by
  obtain ⟨a1, a3, _⟩ := h.pc x hx
  obtain ⟨y5, y6, lp⟩ := rows_loop h hx (x2 := x2) (x3 := x3) (x5 := x5) (x6 := x6) m
  have e1 : decide ((1 : Int) ≤ (x.1.length : Int)) = true := by simp; omega
  have e2 : decide ((x.1.length : Int) ≤ 3) = true := by simp; omega
  have rw' : d_is_row [pcD x] m = .ok (.bl true) m := is_row_ok x.2 (x.1.map rwD) m
  have ln : lenD [pcD x] m = .ok (.int (x.1.length : Int)) m := by simp [pcD]
  exact ⟨y5, y6, sq_of (e1 := [some (.int p), some (.int s), x2, x3, some (pcD x), x5, x6]) (m1 := m) (by simp [rw', ln, e1, e2]) lp⟩
theorem require_ok (h : TO p s xs) (m : Store) : d_require_pieces [.int p, .int s, cD d (xs.map pcD)] m = .ok .non m := by
  have l1 := h.l1
  have l6 := h.l6
  have st : startD 7 [.int p, .int s, cD d (xs.map pcD)] = [some (.int p), some (.int s), some (cD d (xs.map pcD)), none, none, none, none] := rfl
  have hi : iEnum (aCons (eVar 2) aNil) [some (.int p), some (.int s), some (cD d (xs.map pcD)), none, none, none, none] m = .ok ⟨enumT (xs.map pcD), []⟩ m := iEnum_ap _ _ _ (x := cD d (xs.map pcD)) (by simp) (by simp)
  obtain ⟨e', m', hf, y3, y4, y5, y6, rfl, rfl⟩ := forL_chg (src := enumT (xs.map pcD)) (g := gTp 2 (gsCons (gNm 3) (gsCons (gNm 4) gsNil))) (b := lb_require_pieces_2) (fun _ e t => ∃ y3 y4 y5 y6, e = [some (.int p), some (.int s), some (cD d (xs.map pcD)), y3, y4, y5, y6] ∧ t = m) (enumT (xs.map pcD)) [some (.int p), some (.int s), some (cD d (xs.map pcD)), none, none, none, none] m ⟨none, none, none, none, rfl, rfl⟩ (by
    rintro j dd e t hj ⟨y3, y4, y5, y6, rfl, rfl⟩
    obtain ⟨y, hy, rfl⟩ := enumT_get hj
    rw [List.getElem?_map, Option.map_eq_some_iff] at hy
    obtain ⟨x, hx, rfl⟩ := hy
    obtain ⟨z5, z6, b⟩ := piece_in h (List.mem_of_getElem? hx) (x2 := some (cD d (xs.map pcD))) (x3 := some (.int j)) (x5 := y5) (x6 := y6) t
    exact ⟨_, _, _, _, by simp, .inl b, _, _, _, _, rfl, rfl⟩)
  refine fn_pureN (e := [some (.int p), some (.int s), some (cD d (xs.map pcD)), y3, y4, y5, y6]) ?_
  rw [st]
  have e1 : decide ((1 : Int) ≤ (xs.length : Int)) = true := by simp; omega
  have e2 : decide ((xs.length : Int) ≤ 6) = true := by simp; omega
  have rw' := is_row_ok d (xs.map pcD) m'
  refine sq_of (e1 := [some (.int p), some (.int s), some (cD d (xs.map pcD)), none, none, none, none]) (m1 := m') (by simp [rw', e1, e2]) ?_
  have c1 : c_require_pieces_1 [some (.int p), some (.int s), some (cD d (xs.map pcD)), none, none, none, none] m' = .ok (.lst (ils (xs.map fun x => (x.1.length : Int)))) m' := by
    have := eComp_flt (it := iSeqD (eVar 2)) (g := gNm 4) (t := tB' (eCallB (callN 1 d_is_row) (aCons (eVar 4) aNil))) (elt := eCallB lenD (aCons (eVar 4) aNil)) (vs := [4]) (e := [some (.int p), some (.int s), some (cD d (xs.map pcD)), none, none, none, none]) (m := m') (xs := xs) (h := pcD) (f := fun x => D.int (x.1.length : Int)) (p := fun _ => true) (by simp) (by omega) (fun x hx => by
      have rw' : d_is_row [pcD x] m' = .ok (.bl true) m' := is_row_ok x.2 (x.1.map rwD) m'
      have ln : lenD [pcD x] m' = .ok (.int (x.1.length : Int)) m' := by simp [pcD]
      exact ⟨_, rfl, by simp [wipeD, rw'], fun _ => by simp [wipeD, ln]⟩)
    rw [show c_require_pieces_1 = _ from rfl]
    refine this.trans ?_
    rw [List.filter_eq_self.mpr fun _ _ => rfl]
    simp [ils, Function.comp_def]
  have sm := sum_ints (xs.map fun x => (x.1.length : Int)) m'
  have s10 : (xs.map fun x => (x.1.length : Int)).sum ≤ 10 := by
    have e : (xs.map fun x => (x.1.length : Int)) = (xs.map fun x => x.1.length).map fun k : Nat => (k : Int) := by simp [Function.comp_def]
    rw [e, isum_nat]
    have := h.s10
    omega
  have gt : decide ((10 : Int) < (xs.map fun x => (x.1.length : Int)).sum) = false := by simp; omega
  refine sq_of (e1 := [some (.int p), some (.int s), some (cD d (xs.map pcD)), none, none, none, none]) (m1 := m') (by
    rw [sIf_ap, tB_ap, eOp_ap, eCallB_ap, aCons_ap, c1]
    simp only [thn_ok, aNil_ap, sm, eC_ap, gt_int, gt, asB_bl]
    rfl) ?_
  exact fr_of hi hf
theorem tbL_ok {e : DEnv} {j : Nat} {r : List (List Int)} (h6 : e[6]? = some (some (.tup (tps r)))) (h5 : e[5]? = some (some (.int j))) (hl : e.length = 9) (hr : r.length ≤ 3) (m : Store) :
    c_Table_init_3 e m = .ok (((List.range r.length).map fun i => (j, i)).map spT) m := by
  have hi : iRg1 (aCons (eCallB lenD (aCons (eVar 6) aNil)) aNil) e m = .ok ⟨rngI 0 r.length, []⟩ m := iRg1_nat (by omega) (by simp [h6])
  rw [rngI_eq] at hi
  rw [List.map_map]
  refine compM_on (h := fun i : Nat => D.int i) (f := spT ∘ fun i => (j, i)) hi (by simp; omega) fun i hi => ⟨_, rfl, ?_⟩
  have g5 : ((wipeD e [7]).set 7 (some (.int (i : Int))))[5]? = some (some (.int (j : Int))) := by simp [wipeD, h5]
  have g7 : ((wipeD e [7]).set 7 (some (.int (i : Int))))[7]? = some (some (.int (i : Int))) := by simp [wipeD, hl]
  simp [g5, g7, spT]
theorem tb_grow {m : Store} {vs : List (Option D)} {k j : Nat} {l : List (Nat × Nat)} (hk : k ≤ 3) (hl : l.length ≤ 100) :
    growD (.loc (m.length + 1)) (((List.range k).map fun i => (j, i)).map spT) (m ++ [some (.ins 3 vs), some (.lst (l.map spT))]) = .ok .non (m ++ [some (.ins 3 vs), some (.lst ((l ++ (List.range k).map fun i => (j, i)).map spT))]) := by
  have g : (m ++ [some (Cell.ins 3 vs), some (.lst (l.map spT))])[m.length + 1]? = some (some (.lst (l.map spT))) := by simp
  have hz : (l.map spT).length + (((List.range k).map fun i => (j, i)).map spT).length ≤ 100000 := by
    simp only [List.length_map, List.length_range]
    omega
  unfold growD
  simp only [g]
  rw [if_pos hz, ← List.map_append]
  simp
theorem tb_in {m : Store} {e : DEnv} {vs : List (Option D)} {r : List (List Int)} {j : Nat} {l : List (Nat × Nat)} (h4 : e[4]? = some (some (.loc (m.length + 1)))) (h6 : e[6]? = some (some (.tup (tps r)))) (h5 : e[5]? = some (some (.int j))) (he : e.length = 9) (hr : r.length ≤ 3) (hl : l.length ≤ 100) :
    lb_Table_init_1 e (m ++ [some (.ins 3 vs), some (.lst (l.map spT))]) = .ok (.nx e) (m ++ [some (.ins 3 vs), some (.lst ((l ++ (List.range r.length).map fun i => (j, i)).map spT))]) := by
  have g : (m ++ [some (Cell.ins 3 vs), some (.lst (l.map spT))])[m.length + 1]? = some (some (.lst (l.map spT))) := by simp
  have cc := tbL_ok (e := e) (j := j) (r := r) h6 h5 he hr (m ++ [some (.ins 3 vs), some (.lst (l.map spT))])
  have gr := tb_grow (m := m) (vs := vs) (k := r.length) (j := j) (l := l) hr hl
  have il := isLocOk g
  have v4 : eVar 4 e (m ++ [some (.ins 3 vs), some (.lst (l.map spT))]) = .ok (.loc (m.length + 1)) (m ++ [some (.ins 3 vs), some (.lst (l.map spT))]) := by simp [h4]
  generalize m ++ [some (.ins 3 vs), some (.lst (l.map spT))] = M at cc gr il v4 ⊢
  unfold lb_Table_init_1 eExt
  rw [sExpr_ap]
  simp only [bind_ap, v4, thn_ok, il, cc, gr]
theorem tb_loop {m : Store} {x1 x2 x3 : Option D} {l : List (List (List Int))} {a b : Option D} (hl : l.length ≤ 6) (hr : ∀ r ∈ l, r.length ≤ 3) : ∃ y5 y6, l_Table_init_1 [some (.loc m.length), x1, x2, x3, some (.loc (m.length + 1)), none, none, none, none] (m ++ [some (.ins 3 [some (.tup (pcs l)), a, b]), some (.lst [])]) =
    .ok (.nx [some (.loc m.length), x1, x2, x3, some (.loc (m.length + 1)), y5, y6, none, none]) (m ++ [some (.ins 3 [some (.tup (pcs l)), a, b]), some (.lst ((spG 0 (l.map List.length)).map spT))]) := by
  have at0' : attrD [(3, .slot 0)] (.loc m.length) (m ++ [some (.ins 3 [some (.tup (pcs l)), a, b]), some (.lst [])]) = .ok (.tup (pcs l)) (m ++ [some (.ins 3 [some (.tup (pcs l)), a, b]), some (.lst [])]) := by
    unfold attrD clsD slotD
    simp
  have hi : iEnum (aCons (eUn (attrD [(3, .slot 0)]) (eVar 0)) aNil) [some (.loc m.length), x1, x2, x3, some (.loc (m.length + 1)), none, none, none, none] (m ++ [some (.ins 3 [some (.tup (pcs l)), a, b]), some (.lst [])]) = .ok ⟨enumT (pcs l), []⟩ (m ++ [some (.ins 3 [some (.tup (pcs l)), a, b]), some (.lst [])]) := iEnum_ap _ _ _ (x := .tup (pcs l)) (by simp [at0']) rfl
  have hlen : (enumT (pcs l)).length = l.length := by rw [enumT_len]; simp
  obtain ⟨e', m', hf, y5, y6, rfl, rfl⟩ := forL_chg (src := enumT (pcs l)) (g := gTp 2 (gsCons (gNm 5) (gsCons (gNm 6) gsNil))) (b := lb_Table_init_1)
    (fun j e t => ∃ y5 y6, e = [some (.loc m.length), x1, x2, x3, some (.loc (m.length + 1)), y5, y6, none, none] ∧ t = m ++ [some (.ins 3 [some (.tup (pcs l)), a, b]), some (.lst ((spG 0 ((l.map List.length).take j)).map spT))]) (enumT (pcs l)) [some (.loc m.length), x1, x2, x3, some (.loc (m.length + 1)), none, none, none, none] (m ++ [some (.ins 3 [some (.tup (pcs l)), a, b]), some (.lst [])]) ⟨none, none, rfl, by simp [spG]⟩ (by
    rintro j dd e t hj ⟨y5, y6, rfl, rfl⟩
    obtain ⟨y, hy, rfl⟩ := enumT_get hj
    rw [pcs_get, Option.map_eq_some_iff] at hy
    obtain ⟨r, hr', rfl⟩ := hy
    have r3 := hr r (List.mem_of_getElem? hr')
    have hz : (spG 0 ((l.map List.length).take j)).length ≤ 100 := by
      rw [spG_len]
      have : ∀ ks : List Nat, (∀ k ∈ ks, k ≤ 3) → ks.sum ≤ 3 * ks.length := by
        intro ks
        induction ks with
        | nil => intro _; simp
        | cons k ks ih =>
          intro hk
          have h1 := hk k (by simp)
          have h2 := ih fun q hq => hk q (by simp [hq])
          simp only [List.sum_cons, List.length_cons]
          omega
      have q := this ((l.map List.length).take j) (fun k hk => by
        have hk' := List.mem_of_mem_take hk
        rw [List.mem_map] at hk'
        obtain ⟨r', hr', rfl⟩ := hk'
        exact hr r' hr')
      simp only [List.length_take, List.length_map] at q
      omega
    have b' := tb_in (m := m) (e := [some (.loc m.length), x1, x2, x3, some (.loc (m.length + 1)), some (.int j), some (.tup (tps r)), none, none]) (vs := [some (.tup (pcs l)), a, b]) (r := r) (j := j) rfl rfl rfl rfl r3 hz
    have es := spG_succ (ks := l.map List.length) (j := j) (k := r.length) (by simp [hr'])
    refine ⟨_, _, _, _, by simp, .inl b', _, _, rfl, ?_⟩
    rw [es])
  refine ⟨y5, y6, ?_⟩
  rw [hlen, List.take_of_length_le (by simp)] at hf
  exact fr_of hi hf
theorem table_ok (h : TO p s xs) (m : Store) : makeD 3 4 d_Table_init [.int p, .int s, cD d (xs.map pcD)] m = .ok (Tb p s (xs.map rwsOf)) m := by
  have l1 := h.l1
  have l6 := h.l6
  have hu : D.undL m.length [.tup (pcs (xs.map rwsOf)), .int p, .int s, .lst ((spG 0 ((xs.map rwsOf).map List.length)).map spT)] = true := by
    simp [D.undL, D.und, und_pcs, undL_spT]
  refine make_ok rfl ?_ hu
  obtain ⟨y5, y6, lp⟩ := tb_loop (m := m) (x1 := some (.int p)) (x2 := some (.int s)) (x3 := some (cD d (xs.map pcD))) (l := xs.map rwsOf) (a := some (.int p)) (b := some (.int s)) (by simp; omega) (fun r hr => by
    rw [List.mem_map] at hr
    obtain ⟨x, hx, rfl⟩ := hr
    have := (h.pc x hx).2.1
    simp [rwsOf]
    omega)
  have lp2 := fz_of (i := 4) (n := m.length + 1) (ds := (spG 0 ((xs.map rwsOf).map List.length)).map spT) lp rfl (by simp)
  refine fn_trimN (m0 := m ++ [some (.ins 3 [some (.tup (pcs (xs.map rwsOf))), some (.int p), some (.int s), some (.lst ((spG 0 ((xs.map rwsOf).map List.length)).map spT))])]) (junk := [none]) (e := [some (.loc m.length), some (.int p), some (.int s), some (cD d (xs.map pcD)), some (.lst ((spG 0 ((xs.map rwsOf).map List.length)).map spT)), y5, y6, none, none]) ?_ (by simp) (trim_ins hu)
  have st : startD 9 [.loc m.length, .int p, .int s, cD d (xs.map pcD)] = [some (.loc m.length), some (.int p), some (.int s), some (cD d (xs.map pcD)), none, none, none, none, none] := rfl
  rw [st]
  have p1 := is_prime_ok h.fm.okp (m ++ [some (.ins 3 [])])
  have p2 := is_size_ok h.fm (m ++ [some (.ins 3 [])])
  have p3 := require_ok (d := d) h (m ++ [some (.ins 3 [])])
  refine sq_of (e1 := [some (.loc m.length), some (.int p), some (.int s), some (cD d (xs.map pcD)), none, none, none, none, none]) (m1 := m ++ [some (.ins 3 [])]) (by simp [p1]) ?_
  refine sq_of (e1 := [some (.loc m.length), some (.int p), some (.int s), some (cD d (xs.map pcD)), none, none, none, none, none]) (m1 := m ++ [some (.ins 3 [])]) (by simp [p2]) ?_
  refine sq_of (e1 := [some (.loc m.length), some (.int p), some (.int s), some (cD d (xs.map pcD)), none, none, none, none, none]) (m1 := m ++ [some (.ins 3 [])]) (by simp [p3]) ?_
  refine sq_of (e1 := [some (.loc m.length), some (.int p), some (.int s), some (cD d (xs.map pcD)), none, none, none, none, none]) (m1 := m ++ [some (.ins 3 [none, some (.int p), some (.int s)])]) (by
    simp [gAt, setAtT, setAt, clsD, putD]) ?_
  have c2 : c_Table_init_2 [some (.loc m.length), some (.int p), some (.int s), some (cD d (xs.map pcD)), none, none, none, none, none] (m ++ [some (.ins 3 [none, some (.int p), some (.int s)])]) = .ok (.lst (pcs (xs.map rwsOf))) (m ++ [some (.ins 3 [none, some (.int p), some (.int s)])]) := by
    have e : pcs (xs.map rwsOf) = xs.map fun x => D.tup (tps (rwsOf x)) := by simp [pcs]
    rw [e]
    refine eComp_on (h := pcD) (by simp) (by omega) fun x hx => ⟨_, rfl, ?_⟩
    obtain ⟨_, a3, q⟩ := h.pc x hx
    have c1 : c_Table_init_1 [some (.loc m.length), some (.int p), some (.int s), some (cD d (xs.map pcD)), none, none, some (pcD x), none, none] (m ++ [some (.ins 3 [none, some (.int p), some (.int s)])]) = .ok (.lst (tps (rwsOf x))) (m ++ [some (.ins 3 [none, some (.int p), some (.int s)])]) := by
      have e : tps (rwsOf x) = x.1.map fun r => D.tup (ils r.1) := by simp [tps, rwsOf]
      rw [e]
      refine eComp_on (h := rwD) (by simp [pcD]) (by omega) fun r hr => ⟨_, rfl, ?_⟩
      have s6 := h.fm.s6
      have el := (q r hr).1
      have tq := tuple_Sq r.2 r.1 (m ++ [some (.ins 3 [none, some (.int p), some (.int s)])]) (by omega)
      simp [wipeD]
      exact tq
    have hz : (rwsOf x).length ≤ 100000 := by simp [rwsOf]; omega
    show eCallB tupleD (aCons c_Table_init_1 aNil) [some (.loc m.length), some (.int p), some (.int s), some (cD d (xs.map pcD)), none, none, some (pcD x), none, none] _ = _
    rw [eCallB_ap, aCons_ap, c1]
    simp [hz]
  have t2 : eCallB tupleD (aCons c_Table_init_2 aNil) [some (.loc m.length), some (.int p), some (.int s), some (cD d (xs.map pcD)), none, none, none, none, none] (m ++ [some (.ins 3 [none, some (.int p), some (.int s)])]) = .ok (.tup (pcs (xs.map rwsOf))) (m ++ [some (.ins 3 [none, some (.int p), some (.int s)])]) := by
    rw [eCallB_ap, aCons_ap, c2]
    have : xs.length ≤ 100000 := by omega
    simp [this]
  have s3 := attr_of (c := 3) (i := 0) (n := m.length) (tab := [(3, 0)]) (o := eVar 0) t2 rfl (ss := [none, some (.int p), some (.int s)]) (by simp) rfl
  have e3 : (m ++ [some (Cell.ins 3 [none, some (.int p), some (.int s)])]).set m.length (some (.ins 3 (putD 0 (.tup (pcs (xs.map rwsOf))) [none, some (.int p), some (.int s)]))) = m ++ [some (.ins 3 [some (.tup (pcs (xs.map rwsOf))), some (.int p), some (.int s)])] := by simp [putD]
  rw [e3] at s3
  refine sq_of s3 ?_
  refine sq_of (e1 := [some (.loc m.length), some (.int p), some (.int s), some (cD d (xs.map pcD)), some (.loc (m.length + 1)), none, none, none, none]) (m1 := m ++ [some (.ins 3 [some (.tup (pcs (xs.map rwsOf))), some (.int p), some (.int s)]), some (.lst [])]) (by simp [newM]) ?_
  refine sq_of lp2 ?_
  have e4 : (m ++ [some (Cell.ins 3 [some (.tup (pcs (xs.map rwsOf))), some (.int p), some (.int s)]), some (.lst ((spG 0 ((xs.map rwsOf).map List.length)).map spT))]).set (m.length + 1) none = m ++ [some (.ins 3 [some (.tup (pcs (xs.map rwsOf))), some (.int p), some (.int s)]), none] := by simp
  rw [e4]
  have s5 := attr_of (c := 3) (i := 3) (n := m.length) (tab := [(3, 3)]) (o := eVar 0) (v := eVar 4) (e := [some (.loc m.length), some (.int p), some (.int s), some (cD d (xs.map pcD)), some (.lst ((spG 0 ((xs.map rwsOf).map List.length)).map spT)), y5, y6, none, none]) (m := m ++ [some (.ins 3 [some (.tup (pcs (xs.map rwsOf))), some (.int p), some (.int s)]), none]) (x := .lst ((spG 0 ((xs.map rwsOf).map List.length)).map spT)) rfl rfl (ss := [some (.tup (pcs (xs.map rwsOf))), some (.int p), some (.int s)]) (by simp) rfl
  refine s5.trans ?_
  simp [putD]
end table
def prs (q : List (Nat × Nat)) : List D := q.map fun x => D.tup [.int x.1, .int x.2]
@[simp] theorem prs_length (q : List (Nat × Nat)) : (prs q).length = q.length := by simp [prs]
@[simp] theorem prs_app (a b : List (Nat × Nat)) : prs a ++ prs b = prs (a ++ b) := by simp [prs]
def spF (ls : List Nat) (i : Nat) : List (Nat × Nat) := (List.range (ls.getD i 0)).map fun j => (i, j)
def sps (ls : List Nat) : List (Nat × Nat) := (List.range ls.length).flatMap (spF ls)
theorem spots_comp {l : List (List (List Int))} {i : Nat} {q : List (List Int)} {x1 : Option D} (hq : l[i]? = some q) (hl : q.length ≤ 1000) (m : Store) :
    c_spots_1 [some (.tup (pcs l)), x1, some (.int i), none] m = .ok (.lst (prs (spF (l.map List.length) i))) m := by
  have ix : ixD (.tup (pcs l)) (.int i) m = .ok (.tup (tps q)) m := ix_seq rfl (by omega) (by simp [hq])
  have hi : iRg1 (aCons (eCallB lenD (aCons (eOp ixD (eVar 0) (eVar 2)) aNil)) aNil) [some (.tup (pcs l)), x1, some (.int i), none] m = .ok ⟨rngI 0 q.length, []⟩ m := iRg1_nat (by omega) (by simp [ix])
  rw [rngI_eq] at hi
  have := eComp_on (it := iRg1 (aCons (eCallB lenD (aCons (eOp ixD (eVar 0) (eVar 2)) aNil)) aNil)) (g := gNm 3) (elt := eTup (aCons (eVar 2) (aCons (eVar 3) aNil))) (vs := [3]) (e := [some (.tup (pcs l)), x1, some (.int i), none]) (m := m) (xs := List.range q.length) (h := fun j : Nat => D.int j) (f := fun j : Nat => D.tup [.int i, .int j]) hi (by simp; omega) fun j hj => ⟨_, rfl, by simp [wipeD]⟩
  have e : (List.range q.length).map (fun j : Nat => D.tup [.int i, .int j]) = prs (spF (l.map List.length) i) := by
    have : (l.map List.length).getD i 0 = q.length := by simp [List.getD, hq]
    simp only [prs, spF, this, List.map_map, Function.comp_def]
  rw [e] at this
  exact this
theorem spF_len {l : List (List (List Int))} (h : ∀ q ∈ l, q.length ≤ 2) (i : Nat) : (spF (l.map List.length) i).length ≤ 2 := by
  simp only [spF, List.length_map, List.length_range]
  rw [List.getD]
  cases e : (l.map List.length)[i]? with
  | none => simp
  | some k =>
    rw [List.getElem?_map] at e
    cases e2 : l[i]? with
    | none => rw [e2] at e; cases e
    | some q =>
      rw [e2] at e
      cases e
      exact h q (List.mem_of_getElem? e2)
theorem flat_len {ls : List Nat} (h : ∀ i, (spF ls i).length ≤ 2) : ∀ k, ((List.range k).flatMap (spF ls)).length ≤ 2 * k
  | 0 => by simp
  | k + 1 => by
    have := flat_len h k
    have := h k
    rw [List.range_succ, List.flatMap_append, List.length_append, List.flatMap_singleton]
    omega
theorem spots_ok {l : List (List (List Int))} (hl : l.length ≤ 100) (h : ∀ q ∈ l, q.length ≤ 2) (m : Store) : d_spots [.tup (pcs l)] m = .ok (.lst (prs (sps (l.map List.length)))) m := by
  refine fn_pure ?_
  have hi : iRg1 (aCons (eCallB lenD (aCons (eVar 0) aNil)) aNil) [some (.tup (pcs l)), some (.lst []), none, none] m = .ok ⟨rngI 0 l.length, []⟩ m := iRg1_nat (by omega) (by simp)
  obtain ⟨e', m', hf, x2, rfl, rfl⟩ := forL_chg (src := rngI 0 l.length) (g := gNm 2) (b := lb_spots_1) (fun j e s => ∃ x2, e = [some (.tup (pcs l)), some (.lst (prs ((List.range j).flatMap (spF (l.map List.length))))), x2, none] ∧ s = m) (rngI 0 l.length) [some (.tup (pcs l)), some (.lst []), none, none] m ⟨none, by simp [prs], rfl⟩ (by
    rintro j d e s hj ⟨x2, rfl, rfl⟩
    obtain ⟨hjl, rfl⟩ := rng_get hj
    obtain ⟨q, hq⟩ : ∃ q, l[j]? = some q := ⟨_, List.getElem?_eq_getElem hjl⟩
    have hc := spots_comp (x1 := some (.lst (prs ((List.range j).flatMap (spF (l.map List.length)))))) hq (by have := h q (List.mem_of_getElem? hq); omega) s
    have l1 := flat_len (spF_len h) j
    have l2 := spF_len h j
    have hle : ((List.range j).flatMap (spF (l.map List.length))).length + (spF (l.map List.length) j).length ≤ 100000 := by omega
    refine ⟨_, _, [some (.tup (pcs l)), some (.lst (prs ((List.range (j + 1)).flatMap (spF (l.map List.length))))), some (.int j), none], s, rfl, .inl ?_, some (.int j), rfl, rfl⟩
    have ad : addD (.lst (prs ((List.range j).flatMap (spF (l.map List.length))))) (.lst (prs (spF (l.map List.length) j))) s = .ok (.lst (prs ((List.range (j + 1)).flatMap (spF (l.map List.length))))) s := by
      rw [add_lst, prs_app, mkL_ap, prs_length, List.length_append, if_pos hle, List.range_succ, List.flatMap_append]
      simp
    simp [lb_spots_1, hc, ad])
  have q := fr_of (b := lb_spots_1) (g := gNm 2) hi hf
  have q' : l_spots_1 [some (.tup (pcs l)), some (.lst []), none, none] m' = .ok (.nx [some (.tup (pcs l)), some (.lst (prs ((List.range (rngI 0 l.length).length).flatMap (spF (l.map List.length))))), x2, none]) m' := q
  rw [rng_len] at q'
  have e : sps (l.map List.length) = (List.range l.length).flatMap (spF (l.map List.length)) := by simp [sps]
  rw [e]
  simp [b_spots, startD, q']
section bill
variable {ps : List (List Int)} {ws os : List Int}
theorem at1 (m : Store) : attrD [(4, .slot 1)] (Pr ps ws os) m = .ok (.tup (tps ps)) m := rfl
theorem at0 (m : Store) : attrD [(4, .slot 0)] (Pr ps ws os) m = .ok (.tup (ils os)) m := rfl
theorem at2 (m : Store) : attrD [(4, .slot 2)] (Pr ps ws os) m = .ok (.tup (ils ws)) m := rfl
@[simp] theorem clsM_Pr (m : Store) : clsM (Pr ps ws os) m = .ok 4 m := rfl
@[simp] theorem objM_Pr (m : Store) : objM 4 (Pr ps ws os) m = .ok () m := rfl
def prc (ps : List (List Int)) (x : Nat × Nat) : Int := (ps.getD x.1 []).getD x.2 0
def blL (ps : List (List Int)) (q : List (Nat × Nat)) (p : Nat) : List Int := (q.filter fun x => x.1 == p).map (prc ps)
theorem blL_snoc (q : List (Nat × Nat)) (x : Nat × Nat) (p : Nat) : blL ps (q ++ [x]) p = blL ps q p ++ (if x.1 = p then [prc ps x] else []) := by
  simp only [blL, List.filter_append, List.map_append]
  congr 1
  by_cases h : x.1 = p <;> simp [h]
def dKs (bd : List (Nat × Int)) : List Key := bd.map fun e => .inl (e.1 : Int)
def dVs (bd : List (Nat × Int)) : List D := bd.map fun e => .int e.2
@[simp] theorem dKs_len (bd : List (Nat × Int)) : (dKs bd).length = bd.length := by simp [dKs]
/-- a bill: for each piece of q the sum of its prices -/
structure BD (ps : List (List Int)) (q : List (Nat × Nat)) (bd : List (Nat × Int)) : Prop where
  nd : (bd.map (·.1)).Nodup
  ex : ∀ p, p ∈ bd.map (·.1) ↔ blL ps q p ≠ []
  sm : ∀ e ∈ bd, e.2 = (blL ps q e.1).sum
theorem bd_nil : BD ps [] [] := ⟨.nil, fun p => by simp [blL], fun e he => by cases he⟩
theorem get_dK (bd : List (Nat × Int)) (p : Nat) : dGetD (dKs bd) (dVs bd) (.inl p) = (bd.find? fun e => e.1 == p).map fun e => D.int e.2 := by
  induction bd with
  | nil => rfl
  | cons e r ih =>
    simp only [dGetD, dKs, dVs, List.map_cons, List.zip_cons_cons, List.find?_cons] at ih ⊢
    by_cases h : e.1 = p
    · simp [h]
    · have h1 : ¬ ((e.1 : Int) = p) := by omega
      have h2 : (e.1 == p) = false := by simpa using h
      simp only [h2, Sum.inl.injEq, h1, decide_false]
      exact ih
theorem get_BD {q : List (Nat × Nat)} {bd : List (Nat × Int)} (h : BD ps q bd) (p : Nat) : dGetD (dKs bd) (dVs bd) (.inl p) = if blL ps q p = [] then none else some (.int (blL ps q p).sum) := by
  rw [get_dK]
  cases hf : bd.find? fun e => e.1 == p with
  | none =>
    have hn : p ∉ bd.map (·.1) := fun hp => by
      rw [List.mem_map] at hp
      obtain ⟨e, he, rfl⟩ := hp
      have := List.find?_eq_none.mp hf e he
      simp at this
    have : blL ps q p = [] := by
      by_cases z : blL ps q p = []
      · exact z
      · exact absurd ((h.ex p).mpr z) hn
    simp [this]
  | some e =>
    have he := List.mem_of_find?_eq_some hf
    have hp : e.1 = p := by simpa using List.find?_some hf
    have hn : blL ps q p ≠ [] := (h.ex p).mp (by rw [← hp]; exact List.mem_map_of_mem he)
    have := h.sm e he
    rw [hp] at this
    simp [hn, this]
theorem put_BD {q : List (Nat × Nat)} {bd : List (Nat × Int)} (h : BD ps q bd) (x : Nat × Nat) :
    ∃ bd', dPutD (dKs bd) (dVs bd) (.inl x.1) (.int ((blL ps q x.1).sum + prc ps x)) = (dKs bd', dVs bd') ∧ BD ps (q ++ [x]) bd' ∧ bd'.length ≤ bd.length + 1 := by
  have hany : ((dKs bd).any fun y => decide (y = (.inl (x.1 : Int) : Key))) = decide (x.1 ∈ bd.map (·.1)) := by
    rw [Bool.eq_iff_iff]
    simp only [dKs, List.any_map, List.any_eq_true, Function.comp_def, decide_eq_true_eq, Sum.inl.injEq, List.mem_map]
    constructor
    · rintro ⟨e, he, z⟩
      exact ⟨e, he, by omega⟩
    · rintro ⟨e, he, z⟩
      exact ⟨e, he, by omega⟩
  unfold dPutD
  rw [hany]
  by_cases hx : x.1 ∈ bd.map (·.1)
  · refine ⟨bd.map fun e => if e.1 = x.1 then (e.1, (blL ps q x.1).sum + prc ps x) else e, ?_, ?_, by simp⟩
    · simp only [hx, decide_true, if_true, Prod.mk.injEq]
      constructor
      · simp only [dKs, List.map_map]
        refine List.map_congr_left fun e he => ?_
        simp only [Function.comp_def]
        split <;> rfl
      · simp only [dKs, dVs, List.zip_map', List.map_map]
        refine List.map_congr_left fun e he => ?_
        simp only [Function.comp_def, Sum.inl.injEq]
        by_cases z : e.1 = x.1
        · simp [z]
        · have z' : ¬ ((e.1 : Int) = x.1) := by omega
          simp [z, z']
    · have ek : (bd.map fun e => if e.1 = x.1 then (e.1, (blL ps q x.1).sum + prc ps x) else e).map (·.1) = bd.map (·.1) := by
        rw [List.map_map]
        refine List.map_congr_left fun e he => ?_
        simp only [Function.comp_def]
        split <;> rfl
      refine ⟨by rw [ek]; exact h.nd, fun p => ?_, fun e he => ?_⟩
      · rw [ek, h.ex p, blL_snoc]
        by_cases z : x.1 = p
        · subst z
          simp [(h.ex x.1).mp hx]
        · simp [z]
      · rw [List.mem_map] at he
        obtain ⟨e0, he0, rfl⟩ := he
        by_cases z : e0.1 = x.1
        · simp [z, blL_snoc]
        · have z' : ¬ x.1 = e0.1 := fun y => z y.symm
          simp only [z, if_false, blL_snoc, z', List.append_nil]
          exact h.sm e0 he0
  · have hn : blL ps q x.1 = [] := by
      by_cases z : blL ps q x.1 = []
      · exact z
      · exact absurd ((h.ex x.1).mpr z) hx
    refine ⟨bd ++ [(x.1, (blL ps q x.1).sum + prc ps x)], ?_, ?_, by simp⟩
    · simp [hx, dKs, dVs]
    · refine ⟨?_, fun p => ?_, fun e he => ?_⟩
      · rw [List.map_append, List.nodup_append]
        refine ⟨h.nd, by simp, fun a ha b hb => ?_⟩
        simp only [List.map_cons, List.map_nil, List.mem_singleton] at hb
        subst hb
        exact fun z => hx (z ▸ ha)
      · rw [List.map_append, List.mem_append, h.ex p, blL_snoc]
        by_cases z : x.1 = p
        · simp [z]
        · have z' : ¬ p = x.1 := fun y => z y.symm
          simp [z, z']
      · rcases List.mem_append.mp he with he | he
        · have z : ¬ x.1 = e.1 := fun y => hx (y ▸ List.mem_map_of_mem he)
          simp only [blL_snoc, z, if_false, List.append_nil]
          exact h.sm e he
        · rw [List.mem_singleton.mp he]
          simp [blL_snoc]
/-- spots with prices -/
def spIn (ps : List (List Int)) (q : List (Nat × Nat)) : Prop := ∀ x ∈ q, ∃ p, ps[x.1]? = some p ∧ x.2 < p.length
theorem prc_ix {x : Nat × Nat} {p : List Int} (h1 : ps[x.1]? = some p) (h2 : x.2 < p.length) : prc ps x = p[x.2] := by
  simp [prc, List.getD, h1, List.getElem?_eq_getElem h2]
theorem undL_dVs (n : Nat) (bd : List (Nat × Int)) : D.undL n (dVs bd) = true := by
  have : dVs bd = ils (bd.map (·.2)) := by simp [dVs, ils]
  rw [this]
  exact und_ils n _
theorem bill_in {q : List (Nat × Nat)} {bd : List (Nat × Int)} {b : Bool} {d1 : D} {x : Nat × Nat} (h : BD ps q bd) (hx : ∃ p, ps[x.1]? = some p ∧ x.2 < p.length) (hl : bd.length ≤ 1000) (m : Store) :
    ∃ bd', lb_Prices_bill_1 [some (Pr ps ws os), some d1, some (.loc m.length), some (.int x.1), some (.int x.2)] (m ++ [some (.dct (dKs bd) (dVs bd))]) = .ok (.nx [some (Pr ps ws os), some d1, some (.loc m.length), some (.int x.1), some (.int x.2)]) (m ++ [some (.dct (dKs bd') (dVs bd'))]) ∧ BD ps (q ++ [x]) bd' ∧ bd'.length ≤ bd.length + 1 := by
  obtain ⟨bd', e, h', hl'⟩ := put_BD h x
  obtain ⟨p, hp, hj⟩ := hx
  refine ⟨bd', ?_, h', hl'⟩
  have gm : (m ++ [some (Cell.dct (dKs bd) (dVs bd))])[m.length]? = some (some (.dct (dKs bd) (dVs bd))) := by simp
  generalize hM : m ++ [some (Cell.dct (dKs bd) (dVs bd))] = M at gm
  have i1 : ixD (.tup (tps ps)) (.int x.1) M = .ok (.tup (ils p)) M := ix_seq rfl (by omega) (by simp [hp])
  have i2 : ixD (.tup (ils p)) (.int x.2) M = .ok (.int (prc ps x)) M := ix_seq rfl (by omega) (by simp [ils, hj, prc_ix hp hj])
  have g : eGet2 (eVar 2) (eVar 3) (eC (.int 0)) [some (Pr ps ws os), some d1, some (.loc m.length), some (.int x.1), some (.int x.2)] M = .ok (.int (blL ps q x.1).sum) M := by
    have d1' : isDct (.loc m.length) M = .ok () M := by
      unfold isDct
      simp only [gm]
    have d2 : dctD (.loc m.length) (.int x.1) M = .ok (if blL ps q x.1 = [] then none else some (.int (blL ps q x.1).sum)) M := by
      unfold dctD
      simp only [gm, keyD, get_BD h]
    simp only [eGet2, bind_ap]
    simp [d1', d2]
    by_cases z : blL ps q x.1 = [] <;> simp [z]
  have a1 := at1 (ps := ps) (ws := ws) (os := os) M
  have sk : setK (.loc m.length) (.int x.1) (.int ((blL ps q x.1).sum + prc ps x)) M = .ok () (m ++ [some (.dct (dKs bd') (dVs bd'))]) := by
    have hz : (dKs bd).length < 100000 := by simp; omega
    simp only [setK, gm, keyD, if_pos hz, e]
    rw [← hM]
    simp
  simp [lb_Prices_bill_1, sSetK, g, a1, i1, i2, sk]
theorem bill_ok {q : List (Nat × Nat)} {b : Bool} (hq : spIn ps q) (hl : q.length ≤ 100) (m : Store) : ∃ bd, d_Prices_bill [Pr ps ws os, Sd b (prs q)] m = .ok (.fdc (dKs bd) (dVs bd)) m ∧ BD ps q bd ∧ bd.length ≤ 100 := by
  have hi : iSeqD (eVar 1) [some (Pr ps ws os), some (Sd b (prs q)), some (.loc m.length), none, none] (m ++ [some (.dct [] [])]) = .ok ⟨prs q, []⟩ (m ++ [some (.dct [] [])]) := by simp
  obtain ⟨e', m', hf, y3, y4, bd, rfl, rfl, hb, hbl⟩ := forL_chg (src := prs q) (g := gTp 2 (gsCons (gNm 3) (gsCons (gNm 4) gsNil))) (b := lb_Prices_bill_1) (fun j e s => ∃ y3 y4 bd, e = [some (Pr ps ws os), some (Sd b (prs q)), some (.loc m.length), y3, y4] ∧ s = m ++ [some (.dct (dKs bd) (dVs bd))] ∧ BD ps (q.take j) bd ∧ bd.length ≤ j) (prs q)
    [some (Pr ps ws os), some (Sd b (prs q)), some (.loc m.length), none, none] (m ++ [some (.dct [] [])]) ⟨none, none, [], rfl, rfl, bd_nil, by simp⟩ (by
    rintro j d e s hj ⟨y3, y4, bd, rfl, rfl, hb, hbl⟩
    simp only [prs, List.getElem?_map, Option.map_eq_some_iff] at hj
    obtain ⟨x, hx, rfl⟩ := hj
    have hjl := (List.getElem?_eq_some_iff.mp hx).1
    obtain ⟨bd', e1, h1, h2⟩ := bill_in (ws := ws) (os := os) (b := b) (d1 := Sd b (prs q)) hb (hq x (List.mem_of_getElem? hx)) (by omega) m
    refine ⟨_, _, _, _, by simp, .inl e1, _, _, bd', rfl, rfl, ?_, by omega⟩
    rw [List.take_succ, hx]
    exact h1)
  rw [prs_length] at hb hbl
  rw [List.take_length] at hb
  refine ⟨bd, fn_junk (junk := [none]) ?_ (by simp [D.und, undL_dVs]), hb, by omega⟩
  have q1 := fr_of (b := lb_Prices_bill_1) (g := gTp 2 (gsCons (gNm 3) (gsCons (gNm 4) gsNil))) hi hf
  have q2 : l_Prices_bill_1 [some (Pr ps ws os), some (Sd b (prs q)), some (.loc m.length), none, none] (m ++ [some (.dct [] [])]) = _ := q1
  have fz : frzK (.loc m.length) (m ++ [some (.dct (dKs bd) (dVs bd))]) = .ok (.fdc (dKs bd) (dVs bd)) (m ++ [none]) := by
    unfold frzK
    simp
  refine sq_of (e1 := [some (Pr ps ws os), some (Sd b (prs q)), some (.loc m.length), none, none]) (m1 := m ++ [some (.dct [] [])]) (by simp [startD, eDNew]) (sq_of q2 ?_)
  simp [fz]
end bill
section cost
variable {ps : List (List Int)} {ws os : List Int}
theorem has_yes {x : Nat × Nat} (h : ∃ p, ps[x.1]? = some p ∧ x.2 < p.length) (m : Store) : d_Prices_has_price [Pr ps ws os, .tup [.int x.1, .int x.2]] m = .ok (.bl true) m := by
  obtain ⟨p, hp, hj⟩ := h
  have hl : x.1 < ps.length := (List.getElem?_eq_some_iff.mp hp).1
  have b1 := bet_int x.1 0 ((ps.length : Int) - 1) m
  have b2 := bet_int x.2 0 ((p.length : Int) - 1) m
  have q1 : decide ((x.1 : Int) ≤ (ps.length : Int) - 1) = true := by simp; omega
  have q2 : decide ((x.2 : Int) ≤ (p.length : Int) - 1) = true := by simp; omega
  have q3 : decide ((0 : Int) ≤ x.1) = true := by simp
  have q4 : decide ((0 : Int) ≤ x.2) = true := by simp
  rw [q1, q3] at b1
  rw [q2, q4] at b2
  have i0 : ixD (.tup [.int x.1, .int x.2]) (.int 0) m = .ok (.int x.1) m := ix_seq (ds := [.int x.1, .int x.2]) rfl (by decide) rfl
  have i1 : ixD (.tup [.int x.1, .int x.2]) (.int 1) m = .ok (.int x.2) m := ix_seq (ds := [.int x.1, .int x.2]) rfl (by decide) rfl
  have ip : ixD (.tup (tps ps)) (.int x.1) m = .ok (.tup (ils p)) m := ix_seq rfl (by omega) (by simp [hp])
  refine fn_pure ?_
  simp [b_Prices_has_price, startD, isK, i0, i1, at1, b1, ip, b2]
def ltP (x y : Nat × Nat) : Bool := HT.lexLt [(x.1 : Int), (x.2 : Int)] [(y.1 : Int), (y.2 : Int)]
theorem lt_pair (x y : Nat × Nat) (m : Store) : ltD (.tup [.int x.1, .int x.2]) (.tup [.int y.1, .int y.2]) m = .ok (.bl (ltP x y)) m := rfl
theorem ltP_iff (x y : Nat × Nat) : ltP x y = true ↔ x.1 < y.1 ∨ (x.1 = y.1 ∧ x.2 < y.2) := by
  simp only [ltP, HT.lexLt_cons, HT.lexLt_nil_nil]
  by_cases h1 : (x.1 : Int) = y.1
  · by_cases h2 : (x.2 : Int) = y.2
    · simp only [h1, h2, if_true]
      simp
      omega
    · simp only [h1, h2, if_true, if_false, decide_eq_true_eq]
      omega
  · simp only [h1, if_false, decide_eq_true_eq]
    omega
def rise (q : List (Nat × Nat)) : Prop := ((q.zip q.tail).all fun p => ltP p.1 p.2) = true
theorem req_comp {b : Bool} {q : List (Nat × Nat)} (hf : spIn ps q) (hl : q.length ≤ 1000) (m : Store) :
    c_Prices_require_1 [some (Pr ps ws os), some (Sd b (prs q)), none, none, none] m = .ok (.lst (q.map fun _ => .bl true)) m := by
  refine eComp_on (h := fun x : Nat × Nat => D.tup [.int x.1, .int x.2]) (by simp [prs]) (by omega) fun x hx => ⟨_, rfl, ?_⟩
  simp [wipeD, has_yes (hf x hx)]
theorem cut_prs (b : Bool) (q : List (Nat × Nat)) (m : Store) : sliceD (Sd b (prs q)) (some 1) none m = .ok (Sd b (prs q.tail)) m := by
  have : cutD (prs q) (some 1) none = prs q.tail := by
    have := cut_from (prs q) 1
    simpa [prs, List.drop_one] using this
  cases b <;> simp [Sd, this]
theorem zipT_prs (a b : List (Nat × Nat)) : zipT (prs a) (prs b) = (a.zip b).map fun q => D.tup [.tup [.int q.1.1, .int q.1.2], .tup [.int q.2.1, .int q.2.2]] := by
  simp [zipT, prs, List.zip_map]
theorem req_comp2 {b : Bool} {q : List (Nat × Nat)} (hl : q.length ≤ 1000) (m : Store) :
    c_Prices_require_2 [some (Pr ps ws os), some (Sd b (prs q)), none, none, none] m = .ok (.lst ((q.zip q.tail).map fun p => .bl (ltP p.1 p.2))) m := by
  refine eComp_on (h := fun q : (Nat × Nat) × (Nat × Nat) => D.tup [.tup [.int q.1.1, .int q.1.2], .tup [.int q.2.1, .int q.2.2]]) ?_ (by simp; omega) fun p hp => ⟨_, rfl, ?_⟩
  · have p1 : pSome (eC (.int 1)) [some (Pr ps ws os), some (Sd b (prs q)), none, none, none] m = .ok (some 1) m := pSome_int _ _ (by simp)
    rw [iZip_ap _ _ _ (x := Sd b (prs q)) (y := Sd b (prs q.tail)) (m1 := m) (xs := prs q) (ys := prs q.tail) (by simp [p1, cut_prs]) (by simp) (by simp), zipT_prs]
  · simp [wipeD, lt_pair]
theorem req_ok {b : Bool} {q : List (Nat × Nat)} (hf : spIn ps q) (hl : q.length ≤ 1000) (hr : rise q) (m : Store) : d_Prices_require [Pr ps ws os, Sd b (prs q)] m = .ok .non m := by
  refine fn_pureN (e := startD 5 [Pr ps ws os, Sd b (prs q)]) ?_
  have c1 := req_comp (ws := ws) (os := os) (b := b) hf hl m
  have c2 := req_comp2 (ps := ps) (ws := ws) (os := os) (b := b) hl m
  have a1 := all_true q m
  have a2 := all_map (q.zip q.tail) (fun p => ltP p.1 p.2) m
  rw [show ((q.zip q.tail).all fun p => ltP p.1 p.2) = true from hr] at a2
  simp [b_Prices_require, startD, row_Sd, c1, a1, c2, a2]
def mn (a b : Int) : Int := if b < a then b else a
def gC (ps : List (List Int)) (ws os : List Int) (q : List (Nat × Nat)) (p : Nat) : Int := if blL ps q p = [] then 0 else os.getD p 0 + mn (blL ps q p).sum (ws.getD p 0)
def cst (ps : List (List Int)) (ws os : List Int) (q : List (Nat × Nat)) : Int := ((List.range ps.length).map (gC ps ws os q)).sum
theorem sum_delta (c : Int) (k : Nat) : ∀ n, ((List.range n).map fun p => if p = k then c else 0).sum = if k < n then c else 0
  | 0 => by simp
  | n + 1 => by
    rw [List.range_succ, List.map_append, List.sum_append, sum_delta c k n]
    by_cases h : k = n
    · subst h
      simp
    · have h' : ¬ n = k := fun z => h z.symm
      by_cases h2 : k < n
      · simp [h', h2]
        omega
      · have h3 : ¬ k < n + 1 := by omega
        simp [h', h2, h3]
theorem sum_add {α : Type} (f g : α → Int) : ∀ l : List α, (l.map fun p => f p + g p).sum = (l.map f).sum + (l.map g).sum
  | [] => by simp
  | x :: l => by
    simp only [List.map_cons, List.sum_cons, sum_add f g l]
    omega
theorem sum_mem (f : Nat → Int) (n : Nat) : ∀ ks : List Nat, ks.Nodup → (∀ k ∈ ks, k < n) → ((List.range n).map fun p => if p ∈ ks then f p else 0).sum = (ks.map f).sum
  | [], _, _ => by
    have e : ((List.range n).map fun p => if p ∈ ([] : List Nat) then f p else 0) = (List.range n).map fun p => if p = n then (0 : Int) else 0 := by
      refine List.map_congr_left fun p _ => ?_
      simp
    rw [e, sum_delta]
    simp
  | k :: ks, nd, h => by
    obtain ⟨h1, h2⟩ := List.nodup_cons.mp nd
    have e : ((List.range n).map fun p => if p ∈ k :: ks then f p else 0) = (List.range n).map fun p => (if p = k then f k else 0) + (if p ∈ ks then f p else 0) := by
      refine List.map_congr_left fun p _ => ?_
      by_cases hp : p = k
      · subst hp
        simp [h1]
      · simp [hp]
    rw [e, sum_add, sum_delta, if_pos (h k (by simp)), sum_mem f n ks h2 fun x hx => h x (by simp [hx])]
    simp
theorem bd_lt {q : List (Nat × Nat)} {bd : List (Nat × Int)} (h : BD ps q bd) (hq : spIn ps q) {p : Nat} (hp : p ∈ bd.map (·.1)) : p < ps.length := by
  have := (h.ex p).mp hp
  have : ∃ x, x ∈ q.filter fun x => x.1 == p := by
    cases e : q.filter fun x => x.1 == p with
    | nil => simp [blL, e] at this
    | cons x r => exact ⟨x, by simp⟩
  obtain ⟨x, hx⟩ := this
  simp only [List.mem_filter, beq_iff_eq] at hx
  obtain ⟨pp, hp2, _⟩ := hq x hx.1
  rw [← hx.2]
  exact (List.getElem?_eq_some_iff.mp hp2).1
theorem bd_sum {q : List (Nat × Nat)} {bd : List (Nat × Int)} (h : BD ps q bd) (hq : spIn ps q) : (bd.map fun e => os.getD e.1 0 + mn (blL ps q e.1).sum (ws.getD e.1 0)).sum = cst ps ws os q := by
  have e1 : (bd.map fun e => os.getD e.1 0 + mn (blL ps q e.1).sum (ws.getD e.1 0)) = (bd.map (·.1)).map fun p => os.getD p 0 + mn (blL ps q p).sum (ws.getD p 0) := by simp [Function.comp_def]
  rw [e1, ← sum_mem (fun p => os.getD p 0 + mn (blL ps q p).sum (ws.getD p 0)) ps.length (bd.map (·.1)) h.nd fun k hk => bd_lt h hq hk]
  unfold cst
  congr 1
  refine List.map_congr_left fun p _ => ?_
  unfold gC
  by_cases z : blL ps q p = []
  · have : p ∉ bd.map (·.1) := fun y => (h.ex p).mp y z
    rw [if_pos z, if_neg this]
  · rw [if_neg z, if_pos ((h.ex p).mpr z)]
theorem ixK_BD {q : List (Nat × Nat)} {bd : List (Nat × Int)} (h : BD ps q bd) {p : Nat} (hp : blL ps q p ≠ []) (m : Store) : ixK (.fdc (dKs bd) (dVs bd)) (.int p) m = .ok (.int (blL ps q p).sum) m := by
  simp [ixK, dctD, keyD, get_BD h, hp]
theorem inK_BD {q : List (Nat × Nat)} {bd : List (Nat × Int)} (h : BD ps q bd) (p : Nat) (m : Store) : inK (.int p) (.fdc (dKs bd) (dVs bd)) m = .ok (.bl (decide (blL ps q p ≠ []))) m := by
  by_cases hp : blL ps q p = [] <;> simp [inK, dctD, keyD, get_BD h, hp]
theorem ix_ils {ns : List Int} {p : Nat} (hp : p < ns.length) (m : Store) : ixD (.tup (ils ns)) (.int p) m = .ok (.int (ns.getD p 0)) m := ix_seq rfl (by omega) (by simp [ils, hp])
theorem call_comp {q : List (Nat × Nat)} {bd : List (Nat × Int)} {d1 : D} (h : BD ps q bd) (hq : spIn ps q) (hw : ws.length = ps.length) (ho : os.length = ps.length) (hl : bd.length ≤ 100) (m : Store) :
    c_Prices_call_1 [some (Pr ps ws os), some d1, some (.fdc (dKs bd) (dVs bd)), none] m = .ok (.lst (ils (bd.map fun e => os.getD e.1 0 + mn (blL ps q e.1).sum (ws.getD e.1 0)))) m := by
  have e : ils (bd.map fun e => os.getD e.1 0 + mn (blL ps q e.1).sum (ws.getD e.1 0)) = bd.map fun e => D.int (os.getD e.1 0 + mn (blL ps q e.1).sum (ws.getD e.1 0)) := by simp [ils]
  rw [e]
  refine eComp_on (h := fun e : Nat × Int => D.int e.1) ?_ (by omega) fun x hx => ⟨_, rfl, ?_⟩
  · simp [iKeyD, srcK, dKs, keyDD]
  · have hk : x.1 ∈ bd.map (·.1) := List.mem_map_of_mem hx
    have hn := (h.ex x.1).mp hk
    have hlt := bd_lt h hq hk
    have i1 := ix_ils (ns := os) (p := x.1) (by omega) m
    have i2 := ix_ils (ns := ws) (p := x.1) (by omega) m
    have i3 := ixK_BD h hn m
    simp [wipeD, at0, at2, i1, i2, i3, mn]
theorem call_ok {q : List (Nat × Nat)} {b : Bool} (hq : spIn ps q) (hl : q.length ≤ 100) (hr : rise q) (hw : ws.length = ps.length) (ho : os.length = ps.length) (m : Store) : d_Prices_call [Pr ps ws os, Sd b (prs q)] m = .ok (.int (cst ps ws os q)) m := by
  obtain ⟨bd, e, h, hbl⟩ := bill_ok (ws := ws) (os := os) (b := b) hq hl m
  have c := call_comp (d1 := Sd b (prs q)) h hq hw ho hbl m
  have s := sum_ints (bd.map fun e => os.getD e.1 0 + mn (blL ps q e.1).sum (ws.getD e.1 0)) m
  rw [bd_sum h hq] at s
  have r := req_ok (ws := ws) (os := os) (b := b) hq (by omega) hr m
  generalize (bd.map fun e => os.getD e.1 0 + mn (blL ps q e.1).sum (ws.getD e.1 0)) = ns at c s
  refine fn_pure ?_
  simp [b_Prices_call, startD, r, e, c, s]
end cost
section paid
variable {ps : List (List Int)} {ws os : List Int}
theorem pr_0 (m : Store) : ixD (prD ps ws os) (.int 0) m = .ok (.tup (tps ps)) m := rfl
theorem pr_1 (m : Store) : ixD (prD ps ws os) (.int 1) m = .ok (.tup (ils ws)) m := rfl
theorem pr_2 (m : Store) : ixD (prD ps ws os) (.int 2) m = .ok (.tup (ils os)) m := rfl
theorem ne_lst (ns ms : List Int) (m : Store) : neD (.lst (ils ns)) (.lst (ils ms)) m = .ok (.bl (!decide (ns = ms))) m := by
  simp [neD, onPD, topPD, toPD, toPDs_ints, SeqAt.shaped, PyData.canLay0, PyData.depth, PyData.eqv, canLay_ints, depth_ints, PySem.W.ked_eqvAll]
theorem ne_nil (ns : List Int) (m : Store) : neD (.lst (ils ns)) (.lst []) m = .ok (.bl (!decide (ns = []))) m := ne_lst ns [] m
/-- the bill of a piece, by a comprehension over the spots -/
theorem bl_comp {q : List (Nat × Nat)} {i p : Nat} {c : Bool} {e : DEnv} (hq : spIn ps q) (hl : q.length ≤ 100) (hi : i < e.length) (h0 : e[0]? = some (some (prD ps ws os))) (h1 : e[1]? = some (some (Sd c (prs q)))) (h3 : e[3]? = some (some (.int p))) (i0 : i ≠ 0) (i1 : i ≠ 1) (i3 : i ≠ 3) (m : Store) :
    eComp (iSeqD (eVar 1)) (gNm i) (tB' (eOp eqD (eOp ixD (eVar i) (eC (.int 0))) (eVar 3))) (eOp ixD (eOp ixD (eOp ixD (eVar 0) (eC (.int 0))) (eVar 3)) (eOp ixD (eVar i) (eC (.int 1)))) [i] e m = .ok (.lst (ils (blL ps q p))) m := by
  have el : ils (blL ps q p) = (q.filter fun x => x.1 == p).map fun x => D.int (prc ps x) := by simp [ils, blL]
  rw [el]
  refine eComp_flt (h := fun x : Nat × Nat => D.tup [.int x.1, .int x.2]) ?_ (by omega) fun x hx => ⟨(wipeD e [i]).set i (some (.tup [.int x.1, .int x.2])), rfl, ?_, fun hp => ?_⟩
  · simp [h1, prs]
  · have gi : ((wipeD e [i]).set i (some (D.tup [.int x.1, .int x.2])))[i]? = some (some (.tup [.int x.1, .int x.2])) := by simp [wipeD, hi]
    have g3 : ((wipeD e [i]).set i (some (D.tup [.int x.1, .int x.2])))[3]? = some (some (.int p)) := by simp [wipeD, i3, h3]
    have x0 : ixD (.tup [.int x.1, .int x.2]) (.int 0) m = .ok (.int x.1) m := ix_seq (ds := [.int x.1, .int x.2]) rfl (by decide) rfl
    have ee : ((x.1 : Int) == (p : Int)) = (x.1 == p) := by
      rw [Bool.eq_iff_iff]
      simp
      omega
    simp [gi, g3, x0, ee]
  · have gi : ((wipeD e [i]).set i (some (D.tup [.int x.1, .int x.2])))[i]? = some (some (.tup [.int x.1, .int x.2])) := by simp [wipeD, hi]
    have g3 : ((wipeD e [i]).set i (some (D.tup [.int x.1, .int x.2])))[3]? = some (some (.int p)) := by simp [wipeD, i3, h3]
    have g0 : ((wipeD e [i]).set i (some (D.tup [.int x.1, .int x.2])))[0]? = some (some (prD ps ws os)) := by simp [wipeD, i0, h0]
    have x1 : ixD (.tup [.int x.1, .int x.2]) (.int 1) m = .ok (.int x.2) m := ix_seq (ds := [.int x.1, .int x.2]) rfl (by decide) rfl
    obtain ⟨pp, hp1, hp2⟩ := hq x hx
    have hp' : x.1 = p := by simpa using hp
    have y1 : ixD (.tup (tps ps)) (.int p) m = .ok (.tup (ils pp)) m := ix_seq rfl (by omega) (by simp [← hp', hp1])
    have y2 : ixD (.tup (ils pp)) (.int x.2) m = .ok (.int (prc ps x)) m := ix_seq rfl (by omega) (by simp [ils, hp2, prc_ix hp1 hp2])
    simp [gi, g3, g0, x1, pr_0, y1, y2]
theorem cost_in {q : List (Nat × Nat)} {c : Bool} {t : Int} {p : Nat} {x4 : Option D} (hq : spIn ps q) (hl : q.length ≤ 100) (hw : ws.length = ps.length) (ho : os.length = ps.length) (hp : p < ps.length) (m : Store) :
    ∃ y4, lb_cost_1 [some (prD ps ws os), some (Sd c (prs q)), some (.int t), some (.int p), x4, none] m = .ok (.nx [some (prD ps ws os), some (Sd c (prs q)), some (.int (t + gC ps ws os q p)), some (.int p), y4, none]) m := by
  have cc : c_cost_1 [some (prD ps ws os), some (Sd c (prs q)), some (.int t), some (.int p), x4, none] m = .ok (.lst (ils (blL ps q p))) m := bl_comp (i := 5) (ws := ws) (os := os) (c := c) hq hl (by simp) rfl rfl rfl (by decide) (by decide) (by decide) m
  have i1 := ix_ils (ns := os) (p := p) (by omega) m
  have i2 := ix_ils (ns := ws) (p := p) (by omega) m
  have s := sum_ints (blL ps q p) m
  refine ⟨some (.lst (ils (blL ps q p))), sq_of (e1 := [some (prD ps ws os), some (Sd c (prs q)), some (.int t), some (.int p), some (.lst (ils (blL ps q p))), none]) (m1 := m) (by simp [cc]) ?_⟩
  have nn := ne_nil (blL ps q p) m
  unfold gC
  by_cases z : blL ps q p = []
  · have nn2 : neD (.lst (ils (blL ps q p))) (.lst []) m = .ok (.bl false) m := by rw [nn]; simp [z]
    rw [if_pos z, Int.add_zero]
    simp [nn2]
  · rw [if_neg z]
    simp [nn, z, pr_2, pr_1, i1, i2, s, mn]
    omega
theorem cost_ok {q : List (Nat × Nat)} {c : Bool} (hq : spIn ps q) (hl : q.length ≤ 100) (hw : ws.length = ps.length) (ho : os.length = ps.length) (hpl : ps.length ≤ 100) (m : Store) : d_cost [prD ps ws os, Sd c (prs q)] m = .ok (.int (cst ps ws os q)) m := by
  refine fn_pure ?_
  have hi : iRg1 (aCons (eCallB lenD (aCons (eOp ixD (eVar 0) (eC (.int 0))) aNil)) aNil) [some (prD ps ws os), some (Sd c (prs q)), some (.int 0), none, none, none] m = .ok ⟨rngI 0 ps.length, []⟩ m := iRg1_nat (by omega) (by simp [pr_0])
  obtain ⟨e', m', hf, y3, y4, rfl, rfl⟩ := forL_chg (src := rngI 0 ps.length) (g := gNm 3) (b := lb_cost_1) (fun j e s => ∃ y3 y4, e = [some (prD ps ws os), some (Sd c (prs q)), some (.int (((List.range j).map (gC ps ws os q)).sum)), y3, y4, none] ∧ s = m) (rngI 0 ps.length) [some (prD ps ws os), some (Sd c (prs q)), some (.int 0), none, none, none] m ⟨none, none, by simp, rfl⟩ (by
    rintro j d e s hj ⟨y3, y4, rfl, rfl⟩
    obtain ⟨hjl, rfl⟩ := rng_get hj
    obtain ⟨z4, b⟩ := cost_in (c := c) (t := ((List.range j).map (gC ps ws os q)).sum) (p := j) (x4 := y4) hq hl hw ho hjl s
    refine ⟨_, _, _, _, rfl, .inl b, some (.int j), z4, ?_, rfl⟩
    rw [List.range_succ, List.map_append, List.sum_append]
    simp)
  rw [rng_len] at hf
  have q1 := fr_of (b := lb_cost_1) (g := gNm 3) hi hf
  have q2 : l_cost_1 [some (prD ps ws os), some (Sd c (prs q)), some (.int 0), none, none, none] m' = _ := q1
  refine sq_of (e1 := [some (prD ps ws os), some (Sd c (prs q)), some (.int 0), none, none, none]) (m1 := m') (by simp [startD]) (sq_of q2 ?_)
  simp [cst]
/-- what is paid -/
def pdP (ps : List (List Int)) (ws : List Int) (q : List (Nat × Nat)) (x : Nat × Nat) : Bool := (decide (blL ps q x.1 ≠ []) && decide (ws.getD x.1 0 ≤ (blL ps q x.1).sum)) || decide (x ∈ q)
def pdF (ps : List (List Int)) (ws : List Int) (q : List (Nat × Nat)) (i k : Nat) : List (Nat × Nat) := ((List.range k).map fun t => (i, t)).filter (pdP ps ws q)
def pdL (ps : List (List Int)) (ws : List Int) (q : List (Nat × Nat)) (n : Nat) : List (Nat × Nat) := (List.range n).flatMap fun i => pdF ps ws q i (ps.getD i []).length
theorem pdF_succ (q : List (Nat × Nat)) (i k : Nat) : pdF ps ws q i (k + 1) = pdF ps ws q i k ++ (if pdP ps ws q (i, k) then [(i, k)] else []) := by
  simp only [pdF, List.range_succ, List.map_append, List.filter_append]
  congr 1
  by_cases h : pdP ps ws q (i, k) = true <;> simp [h]
theorem toPDs_prs : ∀ q : List (Nat × Nat), toPDs (prs q) = some (q.map fun x => .tuple [.int x.1, .int x.2])
  | [] => rfl
  | x :: q => by
    show toPDs (D.tup [.int x.1, .int x.2] :: prs q) = _
    simp [toPDs, toPD, toPDs_prs q]
theorem canLay_prs : ∀ q : List (Nat × Nat), PyData.canLayAll0 (q.map fun x => .tuple [.int x.1, .int x.2]) = true
  | [] => rfl
  | x :: q => by simp [PyData.canLayAll0, PyData.canLay0, canLay_prs q]
theorem depth_prs : ∀ q : List (Nat × Nat), PyData.depthAll (q.map fun x => .tuple [.int x.1, .int x.2]) ≤ 1
  | [] => by simp [PyData.depthAll]
  | x :: q => by
    have := depth_prs q
    simp [PyData.depthAll, PyData.depth]
    omega
theorem any_prs (q : List (Nat × Nat)) (x : Nat × Nat) : ((q.map fun x => PyData.tuple [.int x.1, .int x.2]).any fun z => PyData.eqv z (.tuple [.int x.1, .int x.2])) = decide (x ∈ q) := by
  rw [Bool.eq_iff_iff]
  simp only [List.any_map, List.any_eq_true, Function.comp_def, decide_eq_true_eq]
  constructor
  · rintro ⟨y, hy, z⟩
    simp [PyData.eqv, PyData.eqvAll] at z
    have : x = y := by
      rcases x with ⟨a, b⟩
      rcases y with ⟨c, d⟩
      simp at z ⊢
      omega
    rw [this]
    exact hy
  · intro hx
    exact ⟨x, hx, by simp [PyData.eqv, PyData.eqvAll]⟩
theorem in_prs (c : Bool) (q : List (Nat × Nat)) (x : Nat × Nat) (m : Store) : inD false (.tup [.int x.1, .int x.2]) (Sd c (prs q)) m = .ok (.bl (decide (x ∈ q))) m := by
  have d := depth_prs q
  have s1 : SeqAt.shaped (.tuple [.int x.1, .int x.2]) = true := by simp [SeqAt.shaped, PyData.canLay0, PyData.canLayAll0, PyData.depth, PyData.depthAll]
  have s2 : SeqAt.shaped (.tuple (q.map fun x => .tuple [.int x.1, .int x.2])) = true := by
    simp [SeqAt.shaped, PyData.canLay0, PyData.depth, canLay_prs]
    omega
  have s3 : SeqAt.shaped (.list (q.map fun x => .tuple [.int x.1, .int x.2])) = true := by
    simp [SeqAt.shaped, PyData.canLay0, PyData.depth, canLay_prs]
    omega
  have e1 : topPD (.tup [.int x.1, .int x.2]) m = some (.tuple [.int x.1, .int x.2]) := by simp [topPD, toPD, toPDs]
  cases c with
  | true =>
    show inD false (.tup [.int x.1, .int x.2]) (.tup (prs q)) m = _
    unfold inD
    simp only [flatD, Bool.false_and, Bool.false_eq_true, if_false, e1, toPDs_prs, s1, s2, Bool.and_self, if_true, any_prs]
  | false =>
    show inD false (.tup [.int x.1, .int x.2]) (.lst (prs q)) m = _
    have e2 : topPD (.lst (prs q)) m = some (.list (q.map fun x => .tuple [.int x.1, .int x.2])) := by simp [topPD, toPD, toPDs_prs]
    unfold inD
    simp only [e1, e2, s1, s3, Bool.and_self, if_true, any_prs, Bool.false_eq_true, if_false]
end paid
section paid2
variable {ps : List (List Int)} {ws os : List Int}
theorem app_prs {a : Nat} {v : DEnv → M D} {e : DEnv} {m : Store} {L : List (Nat × Nat)} {x : Nat × Nat} (ha : e[a]? = some (some (.loc m.length))) (hl : L.length ≤ 1000) (hv : ∀ m, v e m = .ok (.tup [.int x.1, .int x.2]) m) :
    eApp (eVar a) v e (m ++ [some (.lst (prs L))]) = .ok .non (m ++ [some (.lst (prs (L ++ [x])))]) := by
  have g : (m ++ [some (Cell.lst (prs L))])[m.length]? = some (some (.lst (prs L))) := by simp
  have gr := appLoc (x := .tup [.int x.1, .int x.2]) g (by simp; omega)
  have es : (m ++ [some (Cell.lst (prs L))]).set m.length (some (.lst (prs L ++ [.tup [.int x.1, .int x.2]]))) = m ++ [some (.lst (prs (L ++ [x])))] := by simp [prs]
  rw [es] at gr
  exact eApp_of (m1 := m ++ [some (.lst (prs L))]) (by simp [ha]) (isLocOk g) (hv _) gr
theorem paid_in {q : List (Nat × Nat)} {bd : List (Nat × Int)} {c : Bool} {L : List (Nat × Nat)} {i t : Nat} {x5 x7 : Option D} (h : BD ps q bd) (hi : i < ws.length) (hl : L.length ≤ 1000) (m : Store) :
    ∃ y7, lb_Prices_paid_1 [some (Pr ps ws os), some (Sd c (prs q)), some (.fdc (dKs bd) (dVs bd)), some (.loc m.length), some (.int i), x5, some (.int t), x7] (m ++ [some (.lst (prs L))]) =
      .ok (.nx [some (Pr ps ws os), some (Sd c (prs q)), some (.fdc (dKs bd) (dVs bd)), some (.loc m.length), some (.int i), x5, some (.int t), y7]) (m ++ [some (.lst (prs (L ++ if pdP ps ws q (i, t) then [(i, t)] else [])))]) := by
  generalize hM : m ++ [some (Cell.lst (prs L))] = M
  have k1 := inK_BD h i M
  have i2 := ix_ils (ns := ws) (p := i) hi M
  have a2 := at2 (ps := ps) (ws := ws) (os := os) M
  have ip := in_prs c q (i, t) M
  have v : eAnd (eOp inK (eVar 4) (eVar 2)) (eOp leD (eOp ixD (eUn (attrD [(4, .slot 2)]) (eVar 0)) (eVar 4)) (eOp ixK (eVar 2) (eVar 4))) [some (Pr ps ws os), some (Sd c (prs q)), some (.fdc (dKs bd) (dVs bd)), some (.loc m.length), some (.int i), x5, some (.int t), x7] M = .ok (.bl (decide (blL ps q i ≠ []) && decide (ws.getD i 0 ≤ (blL ps q i).sum))) M := by
    by_cases z : blL ps q i = []
    · simp [k1, z]
    · have k2 := ixK_BD h z M
      simp [k1, z, a2, i2, k2]
  refine ⟨some (.bl (decide (blL ps q i ≠ []) && decide (ws.getD i 0 ≤ (blL ps q i).sum))), sq_of (e1 := [some (Pr ps ws os), some (Sd c (prs q)), some (.fdc (dKs bd) (dVs bd)), some (.loc m.length), some (.int i), x5, some (.int t), some (.bl (decide (blL ps q i ≠ []) && decide (ws.getD i 0 ≤ (blL ps q i).sum)))]) (m1 := M) (by rw [sSet_ap, v]; rfl) ?_⟩
  generalize hw : (decide (blL ps q i ≠ []) && decide (ws.getD i 0 ≤ (blL ps q i).sum)) = wh
  have ep : pdP ps ws q (i, t) = (wh || decide ((i, t) ∈ q)) := by
    unfold pdP
    rw [← hw]
  have ap := app_prs (a := 3) (v := eTup (aCons (eVar 4) (aCons (eVar 6) aNil))) (e := [some (Pr ps ws os), some (Sd c (prs q)), some (.fdc (dKs bd) (dVs bd)), some (.loc m.length), some (.int i), x5, some (.int t), some (.bl wh)]) (m := m) (L := L) (x := (i, t)) rfl hl (fun m => by simp)
  rw [hM] at ap
  rw [ep]
  cases wh with
  | true => simp [ap]
  | false =>
    by_cases z : (i, t) ∈ q
    · simp [ip, z, ap]
    · simp [ip, z, hM]
theorem pdF_len (q : List (Nat × Nat)) (i k : Nat) : (pdF ps ws q i k).length ≤ k := by
  have := List.length_filter_le (pdP ps ws q) ((List.range k).map fun t => (i, t))
  simpa [pdF] using this
theorem paid_row {q : List (Nat × Nat)} {bd : List (Nat × Int)} {c : Bool} {L : List (Nat × Nat)} {i : Nat} {pp : List Int} {x6 x7 : Option D} (h : BD ps q bd) (hi : i < ws.length) (hl : L.length ≤ 500) (hp : pp.length ≤ 100) (m : Store) :
    ∃ y6 y7, l_Prices_paid_1 [some (Pr ps ws os), some (Sd c (prs q)), some (.fdc (dKs bd) (dVs bd)), some (.loc m.length), some (.int i), some (.tup (ils pp)), x6, x7] (m ++ [some (.lst (prs L))]) =
      .ok (.nx [some (Pr ps ws os), some (Sd c (prs q)), some (.fdc (dKs bd) (dVs bd)), some (.loc m.length), some (.int i), some (.tup (ils pp)), y6, y7]) (m ++ [some (.lst (prs (L ++ pdF ps ws q i pp.length)))]) := by
  have hi' : iRg1 (aCons (eCallB lenD (aCons (eVar 5) aNil)) aNil) [some (Pr ps ws os), some (Sd c (prs q)), some (.fdc (dKs bd) (dVs bd)), some (.loc m.length), some (.int i), some (.tup (ils pp)), x6, x7] (m ++ [some (.lst (prs L))]) = .ok ⟨rngI 0 pp.length, []⟩ (m ++ [some (.lst (prs L))]) := iRg1_nat (by omega) (by simp)
  obtain ⟨e', m', hf, y6, y7, rfl, rfl⟩ := forL_chg (src := rngI 0 pp.length) (g := gNm 6) (b := lb_Prices_paid_1) (fun j e s => ∃ y6 y7, e = [some (Pr ps ws os), some (Sd c (prs q)), some (.fdc (dKs bd) (dVs bd)), some (.loc m.length), some (.int i), some (.tup (ils pp)), y6, y7] ∧ s = m ++ [some (.lst (prs (L ++ pdF ps ws q i j)))]) (rngI 0 pp.length)
    [some (Pr ps ws os), some (Sd c (prs q)), some (.fdc (dKs bd) (dVs bd)), some (.loc m.length), some (.int i), some (.tup (ils pp)), x6, x7] (m ++ [some (.lst (prs L))]) ⟨x6, x7, rfl, by simp [pdF]⟩ (by
    rintro j d e s hj ⟨y6, y7, rfl, rfl⟩
    obtain ⟨hjl, rfl⟩ := rng_get hj
    have fl := pdF_len (ps := ps) (ws := ws) q i j
    obtain ⟨z7, b⟩ := paid_in (ps := ps) (ws := ws) (os := os) (c := c) (L := L ++ pdF ps ws q i j) (i := i) (t := j) (x5 := some (.tup (ils pp))) (x7 := y7) h hi (by rw [List.length_append]; omega) m
    refine ⟨_, _, _, _, rfl, .inl b, _, _, rfl, ?_⟩
    rw [pdF_succ, List.append_assoc])
  rw [rng_len] at hf
  exact ⟨y6, y7, fr_of (b := lb_Prices_paid_1) (g := gNm 6) hi' hf⟩
theorem pdL_len {q : List (Nat × Nat)} (hp : ∀ p ∈ ps, p.length ≤ 3) : ∀ n, (pdL ps ws q n).length ≤ 3 * n
  | 0 => by simp [pdL]
  | n + 1 => by
    have h1 := pdL_len (q := q) hp n
    have h2 := pdF_len (ps := ps) (ws := ws) q n (ps.getD n []).length
    have h3 : (ps.getD n []).length ≤ 3 := by
      rw [List.getD]
      cases e : ps[n]? with
      | none => simp
      | some p => exact hp p (List.mem_of_getElem? e)
    simp only [pdL, List.range_succ, List.flatMap_append, List.length_append, List.flatMap_singleton] at h1 ⊢
    omega
theorem pdL_succ (q : List (Nat × Nat)) (n : Nat) : pdL ps ws q (n + 1) = pdL ps ws q n ++ pdF ps ws q n (ps.getD n []).length := by
  simp [pdL, List.range_succ, List.flatMap_append]
theorem und_prs (n : Nat) : ∀ q : List (Nat × Nat), D.undL n (prs q) = true
  | [] => rfl
  | x :: q => by
    show (D.und n (.tup [.int x.1, .int x.2]) && D.undL n (prs q)) = true
    simp [D.und, D.undL, und_prs n q]
/-- a def whose list is forgotten -/
theorem paid_ok {q : List (Nat × Nat)} {c : Bool} (hq : spIn ps q) (hl : q.length ≤ 100) (hr : rise q) (hw : ws.length = ps.length) (hpl : ps.length ≤ 100) (hp : ∀ p ∈ ps, p.length ≤ 3) (m : Store) : d_Prices_paid [Pr ps ws os, Sd c (prs q)] m = .ok (.tup (prs (pdL ps ws q ps.length))) m := by
  obtain ⟨bd, e, h, hbl⟩ := bill_ok (ws := ws) (os := os) (b := c) hq hl m
  have r := req_ok (ws := ws) (os := os) (b := c) hq (by omega) hr m
  have a1 := at1 (ps := ps) (ws := ws) (os := os) (m ++ [some (.lst [])])
  have hi : iEnum (aCons (eUn (attrD [(4, .slot 1)]) (eVar 0)) aNil) [some (Pr ps ws os), some (Sd c (prs q)), some (.fdc (dKs bd) (dVs bd)), some (.loc m.length), none, none, none, none] (m ++ [some (.lst [])]) = .ok ⟨enumT (tps ps), []⟩ (m ++ [some (.lst [])]) := iEnum_ap _ _ _ (x := .tup (tps ps)) (by simp [a1]) rfl
  have hlen : (enumT (tps ps)).length = ps.length := by rw [enumT_len]; simp
  obtain ⟨e', m', hf, y4, y5, y6, y7, rfl, rfl⟩ := forL_chg (src := enumT (tps ps)) (g := gTp 2 (gsCons (gNm 4) (gsCons (gNm 5) gsNil))) (b := lb_Prices_paid_2) (fun j e s => ∃ y4 y5 y6 y7, e = [some (Pr ps ws os), some (Sd c (prs q)), some (.fdc (dKs bd) (dVs bd)), some (.loc m.length), y4, y5, y6, y7] ∧ s = m ++ [some (.lst (prs (pdL ps ws q j)))]) (enumT (tps ps))
    [some (Pr ps ws os), some (Sd c (prs q)), some (.fdc (dKs bd) (dVs bd)), some (.loc m.length), none, none, none, none] (m ++ [some (.lst [])]) ⟨none, none, none, none, rfl, by simp [pdL, prs]⟩ (by
    rintro j d e s hj ⟨y4, y5, y6, y7, rfl, rfl⟩
    obtain ⟨y, hy, rfl⟩ := enumT_get hj
    rw [tps_get, Option.map_eq_some_iff] at hy
    obtain ⟨pp, hpp, rfl⟩ := hy
    have hjl := (List.getElem?_eq_some_iff.mp hpp).1
    have l3 := hp pp (List.mem_of_getElem? hpp)
    have ll := pdL_len (ws := ws) (q := q) hp j
    obtain ⟨z6, z7, b⟩ := paid_row (ps := ps) (ws := ws) (os := os) (c := c) (L := pdL ps ws q j) (i := j) (pp := pp) (x6 := y6) (x7 := y7) h (by omega) (by omega) (by omega) m
    refine ⟨_, _, _, _, by simp, .inl b, _, _, _, _, rfl, ?_⟩
    rw [pdL_succ]
    have : (ps.getD j []).length = pp.length := by simp [List.getD, hpp]
    rw [this])
  rw [hlen] at hf
  have q2 : l_Prices_paid_2 [some (Pr ps ws os), some (Sd c (prs q)), some (.fdc (dKs bd) (dVs bd)), some (.loc m.length), none, none, none, none] (m ++ [some (.lst [])]) = _ := fr_of (b := lb_Prices_paid_2) hi hf
  have ll := pdL_len (ws := ws) (q := q) hp ps.length
  have tl := tupleLoc (m := m ++ [some (.lst (prs (pdL ps ws q ps.length)))]) (n := m.length) (ds := prs (pdL ps ws q ps.length)) (by simp) (by simp; omega)
  refine fn_junk (junk := [some (.lst (prs (pdL ps ws q ps.length)))]) ?_ (by simp [D.und, und_prs])
  refine sq_of (e1 := [some (Pr ps ws os), some (Sd c (prs q)), none, none, none, none, none, none]) (m1 := m) (by simp [startD, r]) ?_
  refine sq_of (e1 := [some (Pr ps ws os), some (Sd c (prs q)), some (.fdc (dKs bd) (dVs bd)), some (.loc m.length), none, none, none, none]) (m1 := m ++ [some (.lst [])]) (by simp [e, newM]) ?_
  refine sq_of q2 ?_
  simp [tl]
theorem lpaid_in {q : List (Nat × Nat)} {c : Bool} {L : List (Nat × Nat)} {i t : Nat} {x4 : Option D} {wh : Bool} (hw : wh = (decide (blL ps q i ≠ []) && decide (ws.getD i 0 ≤ (blL ps q i).sum))) (hl : L.length ≤ 1000) (m : Store) :
    lb_paid_1 [some (prD ps ws os), some (Sd c (prs q)), some (.loc m.length), some (.int i), x4, some (.bl wh), some (.int t), none] (m ++ [some (.lst (prs L))]) =
      .ok (.nx [some (prD ps ws os), some (Sd c (prs q)), some (.loc m.length), some (.int i), x4, some (.bl wh), some (.int t), none]) (m ++ [some (.lst (prs (L ++ if pdP ps ws q (i, t) then [(i, t)] else [])))]) := by
  have ap := app_prs (a := 2) (v := eTup (aCons (eVar 3) (aCons (eVar 6) aNil))) (e := [some (prD ps ws os), some (Sd c (prs q)), some (.loc m.length), some (.int i), x4, some (.bl wh), some (.int t), none]) (m := m) (L := L) (x := (i, t)) rfl hl (fun m => by simp)
  have ip := in_prs c q (i, t) (m ++ [some (.lst (prs L))])
  have ep : pdP ps ws q (i, t) = (wh || decide ((i, t) ∈ q)) := by
    unfold pdP
    rw [← hw]
  rw [ep]
  generalize hM : m ++ [some (Cell.lst (prs L))] = M at ap ip
  cases wh with
  | true => simp [lb_paid_1, ap]
  | false =>
    by_cases z : (i, t) ∈ q
    · simp [lb_paid_1, ip, z, ap]
    · simp [lb_paid_1, ip, z, hM]
theorem lpaid_row {q : List (Nat × Nat)} {c : Bool} {L : List (Nat × Nat)} {i : Nat} {pp : List Int} {x4 x6 : Option D} {wh : Bool} (hpp : ps[i]? = some pp) (hw : wh = (decide (blL ps q i ≠ []) && decide (ws.getD i 0 ≤ (blL ps q i).sum))) (hl : L.length ≤ 500) (hp : pp.length ≤ 100) (m : Store) :
    ∃ y6, l_paid_1 [some (prD ps ws os), some (Sd c (prs q)), some (.loc m.length), some (.int i), x4, some (.bl wh), x6, none] (m ++ [some (.lst (prs L))]) =
      .ok (.nx [some (prD ps ws os), some (Sd c (prs q)), some (.loc m.length), some (.int i), x4, some (.bl wh), y6, none]) (m ++ [some (.lst (prs (L ++ pdF ps ws q i pp.length)))]) := by
  have ip : ixD (.tup (tps ps)) (.int i) (m ++ [some (.lst (prs L))]) = .ok (.tup (ils pp)) (m ++ [some (.lst (prs L))]) := ix_seq rfl (by omega) (by simp [hpp])
  have p0 := pr_0 (ps := ps) (ws := ws) (os := os) (m ++ [some (.lst (prs L))])
  have hi' : iRg1 (aCons (eCallB lenD (aCons (eOp ixD (eOp ixD (eVar 0) (eC (.int 0))) (eVar 3)) aNil)) aNil) [some (prD ps ws os), some (Sd c (prs q)), some (.loc m.length), some (.int i), x4, some (.bl wh), x6, none] (m ++ [some (.lst (prs L))]) = .ok ⟨rngI 0 pp.length, []⟩ (m ++ [some (.lst (prs L))]) := iRg1_nat (by omega) (by simp [p0, ip])
  obtain ⟨e', m', hf, y6, rfl, rfl⟩ := forL_chg (src := rngI 0 pp.length) (g := gNm 6) (b := lb_paid_1) (fun j e s => ∃ y6, e = [some (prD ps ws os), some (Sd c (prs q)), some (.loc m.length), some (.int i), x4, some (.bl wh), y6, none] ∧ s = m ++ [some (.lst (prs (L ++ pdF ps ws q i j)))]) (rngI 0 pp.length)
    [some (prD ps ws os), some (Sd c (prs q)), some (.loc m.length), some (.int i), x4, some (.bl wh), x6, none] (m ++ [some (.lst (prs L))]) ⟨x6, rfl, by simp [pdF]⟩ (by
    rintro j d e s hj ⟨y6, rfl, rfl⟩
    obtain ⟨hjl, rfl⟩ := rng_get hj
    have fl := pdF_len (ps := ps) (ws := ws) q i j
    have b := lpaid_in (ps := ps) (ws := ws) (os := os) (c := c) (L := L ++ pdF ps ws q i j) (i := i) (t := j) (x4 := x4) hw (by rw [List.length_append]; omega) m
    refine ⟨_, _, _, _, rfl, .inl b, _, rfl, ?_⟩
    rw [pdF_succ, List.append_assoc])
  rw [rng_len] at hf
  exact ⟨y6, fr_of (b := lb_paid_1) (g := gNm 6) hi' hf⟩
theorem lpaid_ok {q : List (Nat × Nat)} {c : Bool} (hq : spIn ps q) (hl : q.length ≤ 100) (hw : ws.length = ps.length) (hpl : ps.length ≤ 100) (hp : ∀ p ∈ ps, p.length ≤ 3) (m : Store) : d_paid [prD ps ws os, Sd c (prs q)] m = .ok (.tup (prs (pdL ps ws q ps.length))) m := by
  have p0 := pr_0 (ps := ps) (ws := ws) (os := os) (m ++ [some (.lst [])])
  have hi : iRg1 (aCons (eCallB lenD (aCons (eOp ixD (eVar 0) (eC (.int 0))) aNil)) aNil) [some (prD ps ws os), some (Sd c (prs q)), some (.loc m.length), none, none, none, none, none] (m ++ [some (.lst [])]) = .ok ⟨rngI 0 ps.length, []⟩ (m ++ [some (.lst [])]) := iRg1_nat (by omega) (by simp [p0])
  obtain ⟨e', m', hf, y3, y4, y5, y6, rfl, rfl⟩ := forL_chg (src := rngI 0 ps.length) (g := gNm 3) (b := lb_paid_2) (fun j e s => ∃ y3 y4 y5 y6, e = [some (prD ps ws os), some (Sd c (prs q)), some (.loc m.length), y3, y4, y5, y6, none] ∧ s = m ++ [some (.lst (prs (pdL ps ws q j)))]) (rngI 0 ps.length)
    [some (prD ps ws os), some (Sd c (prs q)), some (.loc m.length), none, none, none, none, none] (m ++ [some (.lst [])]) ⟨none, none, none, none, rfl, by simp [pdL, prs]⟩ (by
    rintro j d e s hj ⟨y3, y4, y5, y6, rfl, rfl⟩
    obtain ⟨hjl, rfl⟩ := rng_get hj
    obtain ⟨pp, hpp⟩ : ∃ pp, ps[j]? = some pp := ⟨_, List.getElem?_eq_getElem hjl⟩
    have l3 := hp pp (List.mem_of_getElem? hpp)
    have ll := pdL_len (ws := ws) (q := q) hp j
    have cc : c_paid_1 [some (prD ps ws os), some (Sd c (prs q)), some (.loc m.length), some (.int j), y4, y5, y6, none] (m ++ [some (.lst (prs (pdL ps ws q j)))]) = .ok (.lst (ils (blL ps q j))) (m ++ [some (.lst (prs (pdL ps ws q j)))]) := bl_comp (i := 7) (ws := ws) (os := os) (c := c) hq hl (by simp) rfl rfl rfl (by decide) (by decide) (by decide) _
    obtain ⟨z6, b⟩ := lpaid_row (ps := ps) (ws := ws) (os := os) (c := c) (L := pdL ps ws q j) (i := j) (pp := pp) (x4 := some (.lst (ils (blL ps q j)))) (x6 := y6) hpp rfl (by omega) (by omega) m
    have ee : (ps.getD j []).length = pp.length := by simp [List.getD, hpp]
    refine ⟨_, _, _, _, rfl, .inl (sq_of (e1 := [some (prD ps ws os), some (Sd c (prs q)), some (.loc m.length), some (.int j), some (.lst (ils (blL ps q j))), y5, y6, none]) (m1 := m ++ [some (.lst (prs (pdL ps ws q j)))]) (by simp [cc]) (sq_of (e1 := [some (prD ps ws os), some (Sd c (prs q)), some (.loc m.length), some (.int j), some (.lst (ils (blL ps q j))), some (.bl (decide (blL ps q j ≠ []) && decide (ws.getD j 0 ≤ (blL ps q j).sum))), y6, none]) ?_ b)), _, _, _, _, rfl, ?_⟩
    · generalize m ++ [some (Cell.lst (prs (pdL ps ws q j)))] = M
      have nn := ne_nil (blL ps q j) M
      have p1 := pr_1 (ps := ps) (ws := ws) (os := os) M
      have i2 := ix_ils (ns := ws) (p := j) (by omega) M
      have s := sum_ints (blL ps q j) M
      by_cases z : blL ps q j = []
      · have nn2 : neD (.lst (ils (blL ps q j))) (.lst []) M = .ok (.bl false) M := by rw [nn]; simp [z]
        rw [show decide (blL ps q j ≠ []) = false by simp [z], Bool.false_and]
        simp [nn2]
      · simp [nn, z, p1, i2, s]
    · rw [pdL_succ, ee])
  rw [rng_len] at hf
  have q2 : l_paid_2 [some (prD ps ws os), some (Sd c (prs q)), some (.loc m.length), none, none, none, none, none] (m ++ [some (.lst [])]) = _ := fr_of (b := lb_paid_2) hi hf
  have ll := pdL_len (ws := ws) (q := q) hp ps.length
  have tl := tupleLoc (m := m ++ [some (.lst (prs (pdL ps ws q ps.length)))]) (n := m.length) (ds := prs (pdL ps ws q ps.length)) (by simp) (by simp; omega)
  refine fn_junk (junk := [some (.lst (prs (pdL ps ws q ps.length)))]) ?_ (by simp [D.und, und_prs])
  refine sq_of (e1 := [some (prD ps ws os), some (Sd c (prs q)), some (.loc m.length), none, none, none, none, none]) (m1 := m ++ [some (.lst [])]) (by simp [startD, newM]) ?_
  refine sq_of q2 ?_
  simp [tl]
end paid2
section sets
variable {ps : List (List Int)} {ws os : List Int}
theorem len_getD (i : Nat) : (ps.map List.length).getD i 0 = (ps.getD i []).length := by
  rw [List.getD, List.getD, List.getElem?_map]
  cases ps[i]? <;> rfl
theorem pdL_filter (q : List (Nat × Nat)) : pdL ps ws q ps.length = (sps (ps.map List.length)).filter (pdP ps ws q) := by
  simp only [pdL, sps, List.length_map, List.filter_flatMap]
  congr 1
  funext i
  simp only [pdF, spF, len_getD]
theorem sps_mem {x : Nat × Nat} : x ∈ sps (ps.map List.length) ↔ ∃ p, ps[x.1]? = some p ∧ x.2 < p.length := by
  simp only [sps, List.mem_flatMap, List.mem_range, List.length_map, spF, List.mem_map, len_getD]
  constructor
  · rintro ⟨i, hi, t, ht, rfl⟩
    refine ⟨ps[i], List.getElem?_eq_getElem hi, ?_⟩
    simpa [List.getD, hi] using ht
  · rintro ⟨p, hp, hx⟩
    refine ⟨x.1, (List.getElem?_eq_some_iff.mp hp).1, x.2, ?_, rfl⟩
    simpa [List.getD, hp] using hx
theorem sps_in {q : List (Nat × Nat)} (h : q.Sublist (sps (ps.map List.length))) : spIn ps q := fun x hx => sps_mem.mp (h.mem hx)
theorem sps_pw (ls : List Nat) : (sps ls).Pairwise fun x y => ltP x y = true := by
  unfold sps
  rw [List.pairwise_flatMap]
  refine ⟨fun i hi => ?_, ?_⟩
  · unfold spF
    rw [List.pairwise_map]
    refine List.Pairwise.imp (fun {a b} h => ?_) List.pairwise_lt_range
    rw [ltP_iff]
    exact .inr ⟨rfl, h⟩
  · refine List.Pairwise.imp (fun {a b} h x hx y hy => ?_) List.pairwise_lt_range
    unfold spF at hx hy
    rw [List.mem_map] at hx hy
    obtain ⟨s, _, rfl⟩ := hx
    obtain ⟨t, _, rfl⟩ := hy
    rw [ltP_iff]
    exact .inl h
theorem sps_nodup (ls : List Nat) : (sps ls).Nodup := List.Pairwise.imp (fun {a b} h z => by
  rw [ltP_iff, z] at h
  omega) (sps_pw ls)
theorem rise_pw : ∀ {q : List (Nat × Nat)}, q.Pairwise (fun x y => ltP x y = true) → rise q
  | [], _ => rfl
  | [x], _ => rfl
  | x :: y :: q, h => by
    have h1 := List.pairwise_cons.mp h
    have ih := rise_pw h1.2
    unfold rise at ih ⊢
    simp only [List.tail_cons, List.zip_cons_cons, List.all_cons, Bool.and_eq_true]
    exact ⟨h1.1 y (by simp), ih⟩
theorem sps_rise {ls : List Nat} {q : List (Nat × Nat)} (h : q.Sublist (sps ls)) : rise q := rise_pw ((sps_pw ls).sublist h)
theorem sub_filter {q S : List (Nat × Nat)} (h : q.Sublist S) : S.Nodup → S.filter (fun x => decide (x ∈ q)) = q := by
  induction h with
  | slnil => intro _; rfl
  | @cons l₁ l₂ a h ih =>
    intro nd
    obtain ⟨h1, h2⟩ := List.nodup_cons.mp nd
    have : a ∉ l₁ := fun z => h1 (h.mem z)
    rw [List.filter_cons, if_neg (by simpa using this)]
    exact ih h2
  | @cons_cons l₁ l₂ a h ih =>
    intro nd
    obtain ⟨h1, h2⟩ := List.nodup_cons.mp nd
    rw [List.filter_cons, if_pos (by simp)]
    congr 1
    rw [← ih h2]
    refine List.filter_congr fun x hx => ?_
    have : x ≠ a := fun z => h1 (z ▸ hx)
    rw [ih h2]
    simp [this]
theorem sum_filter_le {α : Type} {f : α → Int} {p r : α → Bool} : ∀ {S : List α}, (∀ x ∈ S, p x = true → r x = true) → (∀ x ∈ S, 0 ≤ f x) → ((S.filter p).map f).sum ≤ ((S.filter r).map f).sum
  | [], _, _ => by simp
  | x :: S, h, hf => by
    have ih := sum_filter_le (S := S) (p := p) (r := r) (fun y hy => h y (by simp [hy])) fun y hy => hf y (by simp [hy])
    have h0 := hf x (by simp)
    have h1 := h x (by simp)
    by_cases hp : p x = true
    · simp [List.filter_cons, hp, h1 hp]
      exact ih
    · by_cases hr : r x = true
      · simp [List.filter_cons, hp, hr]
        omega
      · simp [List.filter_cons, hp, hr]
        exact ih
theorem sum_nonneg {ns : List Int} (h : ∀ x ∈ ns, 0 ≤ x) : 0 ≤ ns.sum := by
  induction ns with
  | nil => simp
  | cons x r ih =>
    have h1 := h x (by simp)
    have h2 := ih fun y hy => h y (by simp [hy])
    simp only [List.sum_cons]
    omega
theorem sum_le {f g : Nat → Int} : ∀ l : List Nat, (∀ x ∈ l, f x ≤ g x) → (l.map f).sum ≤ (l.map g).sum
  | [], _ => by simp
  | x :: l, h => by
    have h1 := h x (by simp)
    have h2 := sum_le l fun y hy => h y (by simp [hy])
    simp only [List.map_cons, List.sum_cons]
    omega
/-- prices that are not below 0 -/
structure Nn (ps : List (List Int)) (ws os : List Int) : Prop where
  p : ∀ p ∈ ps, ∀ x ∈ p, 0 ≤ x
  w : ∀ x ∈ ws, 0 ≤ x
  o : ∀ x ∈ os, 0 ≤ x
theorem getD_nn {ns : List Int} (h : ∀ x ∈ ns, 0 ≤ x) (i : Nat) : 0 ≤ ns.getD i 0 := by
  rw [List.getD]
  cases e : ns[i]? with
  | none => simp
  | some x => exact h x (List.mem_of_getElem? e)
theorem prc_nn (h : Nn ps ws os) (x : Nat × Nat) : 0 ≤ prc ps x := by
  unfold prc
  refine getD_nn (fun y hy => ?_) _
  rw [List.getD] at hy
  cases e : ps[x.1]? with
  | none => rw [e] at hy; cases hy
  | some p => rw [e] at hy; exact h.p p (List.mem_of_getElem? e) y hy
theorem mn_mono {a b c : Int} (h : a ≤ b) : mn a c ≤ mn b c := by
  unfold mn
  split <;> split <;> omega
theorem mn_nn {a b : Int} (h : 0 ≤ a) (h' : 0 ≤ b) : 0 ≤ mn a b := by
  unfold mn
  split <;> omega
theorem cst_mono {q : List (Nat × Nat)} (nn : Nn ps ws os) (h : q.Sublist (sps (ps.map List.length))) : cst ps ws os q ≤ cst ps ws os (pdL ps ws q ps.length) := by
  unfold cst
  refine sum_le _ fun p _ => ?_
  have eq : q = (sps (ps.map List.length)).filter fun x => decide (x ∈ q) := (sub_filter h (sps_nodup _)).symm
  have s0 : 0 ≤ (blL ps (pdL ps ws q ps.length) p).sum := sum_nonneg fun x hx => by
    unfold blL at hx
    rw [List.mem_map] at hx
    obtain ⟨y, _, rfl⟩ := hx
    exact prc_nn nn y
  have g0 : 0 ≤ gC ps ws os (pdL ps ws q ps.length) p := by
    unfold gC
    split
    · omega
    · have := mn_nn s0 (getD_nn nn.w p)
      have := getD_nn nn.o p
      omega
  by_cases z : blL ps q p = []
  · have : gC ps ws os q p = 0 := by unfold gC; rw [if_pos z]
    omega
  · have le : (blL ps q p).sum ≤ (blL ps (pdL ps ws q ps.length) p).sum := by
      rw [pdL_filter]
      unfold blL
      rw [List.filter_filter]
      have e2 : (q.filter fun x => x.1 == p) = (sps (ps.map List.length)).filter fun x => (x.1 == p) && decide (x ∈ q) := by
        rw [← List.filter_filter, ← eq]
      rw [e2]
      refine sum_filter_le (fun x _ hx => ?_) fun x _ => prc_nn nn x
      simp only [Bool.and_eq_true] at hx ⊢
      refine ⟨hx.1, ?_⟩
      unfold pdP
      rw [hx.2, Bool.or_true]
    have ne : blL ps (pdL ps ws q ps.length) p ≠ [] := fun zz => by
      have : ∃ x, x ∈ q.filter fun x => x.1 == p := by
        cases e : q.filter fun x => x.1 == p with
        | nil => simp [blL, e] at z
        | cons x r => exact ⟨x, by simp⟩
      obtain ⟨x, hx⟩ := this
      rw [List.mem_filter] at hx
      have hm : x ∈ (pdL ps ws q ps.length).filter fun x => x.1 == p := by
        rw [List.mem_filter, pdL_filter, List.mem_filter]
        refine ⟨⟨h.mem hx.1, ?_⟩, hx.2⟩
        unfold pdP
        simp [hx.1]
      have := List.mem_map_of_mem (f := prc ps) hm
      have z2 : ((pdL ps ws q ps.length).filter fun x => x.1 == p).map (prc ps) = [] := zz
      rw [z2] at this
      cases this
    unfold gC
    rw [if_neg z, if_neg ne]
    have := mn_mono (c := ws.getD p 0) le
    omega
abbrev sD (q : List (Nat × Nat)) : D := .tup (prs q)
theorem sets_comp {F : List (List (Nat × Nat))} {x0 x2 : Option D} {x : Nat × Nat} (hl : F.length ≤ 10000) (hq : ∀ q ∈ F, q.length ≤ 100) (h2 : x2 = some (.tup [.int x.1, .int x.2])) (m : Store) :
    c_sets_1 [x0, some (.lst (F.map sD)), x2, none] m = .ok (.lst ((F.map fun q => q ++ [x]).map sD)) m := by
  subst h2
  rw [List.map_map]
  refine eComp_on (h := sD) (by simp) (by omega) fun q hq' => ⟨_, rfl, ?_⟩
  have := hq q hq'
  have hz : q.length + 1 ≤ 100000 := by omega
  have e : prs q ++ [D.tup [.int x.1, .int x.2]] = prs (q ++ [x]) := by simp [prs]
  simp [wipeD, e, hz]
theorem alikeAll_prs : ∀ a b : List (Nat × Nat), PySem.W.alikeAll (a.map fun x => .tuple [.int x.1, .int x.2]) (b.map fun x => .tuple [.int x.1, .int x.2]) = true
  | [], _ => by simp [PySem.W.alikeAll]
  | _ :: _, [] => by simp [PySem.W.alikeAll]
  | x :: a, y :: b => by simp [PySem.W.alikeAll, PySem.W.alike, alikeAll_prs a b]
def kP (q : List (Nat × Nat)) : PyData := .tuple [.int q.length, .tuple (q.map fun x => .tuple [.int x.1, .int x.2])]
theorem keys_sets : ∀ (F : List (List (Nat × Nat))) (m : Store), keysM lenK (F.map sD) m = some (F.map kP)
  | [], m => rfl
  | q :: F, m => by
    have e : lenK (sD q) m = .ok (.tup [.int q.length, sD q]) m := by
      simp [lenK]
    simp only [List.map_cons, keysM, e, if_true, keys_sets F m]
    simp [toPD, toPDs, toPDs_prs, kP]
theorem kz_sets (F : List (List (Nat × Nat))) : kzOk (F.map kP) = true := by
  simp only [kzOk, Bool.and_eq_true, Bool.or_eq_true, List.all_map, List.all_eq_true, Function.comp_def, decide_eq_true_eq]
  refine ⟨⟨fun a _ b _ => ?_, .inl fun a _ => rfl⟩, fun a _ => ?_⟩
  · simp [kP, PySem.W.alike, PySem.W.alikeAll, alikeAll_prs]
  · have := depth_prs a
    simp [kP, PyData.depth, PyData.depthAll]
    omega
theorem srtBy_mem {α : Type} {xs : List α} {kz : List PyData} {x : α} (h : x ∈ srtBy xs kz) : x ∈ xs := by
  unfold srtBy at h
  rw [List.mem_map] at h
  obtain ⟨p, hp, rfl⟩ := h
  rw [List.mem_mergeSort] at hp
  exact (List.of_mem_zip hp).1
theorem sets_ok {S : List (Nat × Nat)} (hS : S.length ≤ 12) (m : Store) : ∃ ds, d_sets [.lst (prs S)] m = .ok (.lst ds) m ∧ ∀ d ∈ ds, ∃ q : List (Nat × Nat), d = sD q ∧ q.Sublist S := by
  have hi : iSeqD (eVar 0) [some (.lst (prs S)), some (.lst [.tup []]), none, none] m = .ok ⟨prs S, []⟩ m := by simp
  obtain ⟨e', m', hf, y2, F, rfl, rfl, hF, hl⟩ := forL_chg (src := prs S) (g := gNm 2) (b := lb_sets_1) (fun j e s => ∃ y2 F, e = [some (.lst (prs S)), some (.lst (F.map sD)), y2, none] ∧ s = m ∧ (∀ q ∈ F, q.Sublist (S.take j)) ∧ F.length = 2 ^ j) (prs S)
    [some (.lst (prs S)), some (.lst [.tup []]), none, none] m ⟨none, [[]], by simp [prs], rfl, by simp, by simp⟩ (by
    rintro j d e s hj ⟨y2, F, rfl, rfl, hF, hl⟩
    simp only [prs, List.getElem?_map, Option.map_eq_some_iff] at hj
    obtain ⟨x, hx, rfl⟩ := hj
    have hjl := (List.getElem?_eq_some_iff.mp hx).1
    have h2j : 2 ^ j ≤ 2 ^ 12 := Nat.pow_le_pow_right (by decide) (by omega)
    have ql : ∀ q ∈ F, q.length ≤ 100 := fun q hq => by
      have := (hF q hq).length_le
      rw [List.length_take] at this
      omega
    have cc := sets_comp (F := F) (x0 := some (.lst (prs S))) (x2 := some (.tup [.int x.1, .int x.2])) (x := x) (by omega) ql rfl s
    have hz : F.length + F.length ≤ 100000 := by omega
    refine ⟨_, _, [some (.lst (prs S)), some (.lst ((F ++ F.map fun q => q ++ [x]).map sD)), some (.tup [.int x.1, .int x.2]), none], s, rfl, .inl ?_, some (.tup [.int x.1, .int x.2]), F ++ F.map (fun q => q ++ [x]), rfl, rfl, fun q hq => ?_, ?_⟩
    · simp only [List.set_cons_succ, List.set_cons_zero]
      simp [lb_sets_1, cc, hz]
    · rw [List.take_succ, hx]
      rcases List.mem_append.mp hq with hq | hq
      · exact (hF q hq).trans (List.sublist_append_left _ _)
      · rw [List.mem_map] at hq
        obtain ⟨q', hq', rfl⟩ := hq
        exact (hF q' hq').append (List.Sublist.refl _)
    · rw [List.length_append, List.length_map, hl, Nat.pow_succ]
      omega)
  rw [prs_length, List.take_length] at hF
  have q2 : l_sets_1 [some (.lst (prs S)), some (.lst [.tup []]), none, none] m' = _ := fr_of (b := lb_sets_1) hi hf
  have sl : sortLD (.lst (F.map sD)) m' = .ok (.lst (srtBy (F.map sD) (F.map kP))) m' := by
    show (seqD (.lst (F.map sD)) >>= sortR lenK) m' = _
    rw [bind_ap, seq_lst, thn_ok]
    simp only [sortR, keys_sets, kz_sets, if_true]
  refine ⟨srtBy (F.map sD) (F.map kP), fn_pure ?_, fun d hd => ?_⟩
  · refine sq_of (e1 := [some (.lst (prs S)), some (.lst [.tup []]), none, none]) (m1 := m') (by simp [startD]) (sq_of q2 ?_)
    simp [sl]
  · have := srtBy_mem hd
    rw [List.mem_map] at this
    obtain ⟨q, hq, rfl⟩ := this
    exact ⟨q, rfl, hF q hq⟩
end sets
section fits
variable {ps ps' : List (List Int)} {ws os ws' os' : List Int}
theorem toPDs_tps : ∀ a : List (List Int), toPDs (tps a) = some (a.map fun r => .tuple (r.map .int))
  | [] => rfl
  | r :: a => by
    show toPDs (D.tup (ils r) :: tps a) = _
    simp [toPDs, toPD, toPDs_ints, toPDs_tps a]
theorem canLay_tps : ∀ a : List (List Int), PyData.canLayAll0 (a.map fun r => .tuple (r.map .int)) = true
  | [] => rfl
  | r :: a => by simp [PyData.canLayAll0, PyData.canLay0, canLay_ints, canLay_tps a]
theorem depth_tps : ∀ a : List (List Int), PyData.depthAll (a.map fun r => .tuple (r.map .int)) ≤ 1
  | [] => by simp [PyData.depthAll]
  | r :: a => by
    have := depth_tps a
    simp [PyData.depthAll, PyData.depth, depth_ints]
    omega
theorem eqvAll_tps : ∀ a b : List (List Int), PyData.eqvAll (a.map fun r => .tuple (r.map .int)) (b.map fun r => .tuple (r.map .int)) = decide (a = b)
  | [], [] => by simp [PyData.eqvAll]
  | [], _ :: _ => by simp [PyData.eqvAll]
  | _ :: _, [] => by simp [PyData.eqvAll]
  | a :: r, b :: t => by
    simp only [List.map_cons, PyData.eqvAll, PyData.eqv, PySem.W.ked_eqvAll, eqvAll_tps r t]
    by_cases h1 : a = b <;> by_cases h2 : r = t <;> simp [h1, h2]
theorem shp_tps (a : List (List Int)) : SeqAt.shaped (.tuple (a.map fun r => .tuple (r.map .int))) = true := by
  have := depth_tps a
  simp [SeqAt.shaped, PyData.canLay0, PyData.depth, canLay_tps]
  omega
theorem eq_tps (a b : List (List Int)) (m : Store) : eqD (.tup (tps a)) (.tup (tps b)) m = .ok (.bl (decide (a = b))) m := by
  have e : ∀ a, topPD (.tup (tps a)) m = some (.tuple (a.map fun r => .tuple (r.map .int))) := fun a => by simp [topPD, toPD, toPDs_tps]
  unfold eqD onPD
  simp only [e, shp_tps, Bool.and_self, if_true, PyData.eqv, eqvAll_tps]
theorem eq_lstI (a b : List Int) (m : Store) : eqD (.lst (ils a)) (.lst (ils b)) m = .ok (.bl (decide (a = b))) m := by
  simp [eqD, onPD, topPD, toPD, toPDs_ints, SeqAt.shaped, PyData.canLay0, PyData.depth, PyData.eqv, canLay_ints, depth_ints, PySem.W.ked_eqvAll]
def prPD (ps : List (List Int)) (ws os : List Int) : List PyData := [.tuple (ps.map fun r => .tuple (r.map .int)), .tuple (ws.map .int), .tuple (os.map .int)]
theorem prPD_ok (ps : List (List Int)) (ws os : List Int) : toPDs [.tup (tps ps), .tup (ils ws), .tup (ils os)] = some (prPD ps ws os) := by
  simp [toPDs, toPD, toPDs_tps, toPDs_ints, prPD]
theorem prPD_lay (ps : List (List Int)) (ws os : List Int) : PyData.canLayAll0 (prPD ps ws os) = true ∧ PyData.depthAll (prPD ps ws os) ≤ 2 := by
  have := depth_tps ps
  refine ⟨by simp [prPD, PyData.canLayAll0, PyData.canLay0, canLay_tps, canLay_ints], ?_⟩
  simp [prPD, PyData.depthAll, PyData.depth, depth_ints]
  omega
theorem prPD_eqv : PyData.eqvAll (prPD ps ws os) (prPD ps' ws' os') = (decide (ps = ps') && (decide (ws = ws') && decide (os = os'))) := by
  simp [prPD, PyData.eqvAll, PyData.eqv, eqvAll_tps, PySem.W.ked_eqvAll]
theorem shp_pr : SeqAt.shaped (.tuple (prPD ps ws os)) = true ∧ SeqAt.shaped (.list (prPD ps ws os)) = true := by
  obtain ⟨h1, h2⟩ := prPD_lay ps ws os
  constructor
  · simp [SeqAt.shaped, PyData.canLay0, PyData.depth, h1]
    omega
  · simp [SeqAt.shaped, PyData.canLay0, PyData.depth, h1]
    omega
theorem eq_prD (m : Store) : eqD (prD ps ws os) (prD ps' ws' os') m = .ok (.bl (decide (ps = ps') && (decide (ws = ws') && decide (os = os')))) m := by
  have e : ∀ ps ws os, topPD (prD ps ws os) m = some (.tuple (prPD ps ws os)) := fun ps ws os => by simp [prD, topPD, toPD, prPD_ok]
  unfold eqD onPD
  simp only [e, shp_pr.1, Bool.and_self, if_true, PyData.eqv, prPD_eqv]
theorem ne_prL (m : Store) : neD (.lst [.tup (tps ps), .tup (ils ws), .tup (ils os)]) (.lst [.tup (tps ps), .tup (ils ws), .tup (ils os)]) m = .ok (.bl false) m :=
  ne_self _ (x := .list (prPD ps ws os)) (by simp [topPD, toPD, prPD_ok]) shp_pr.2
theorem Peq_ok (m : Store) : d_Prices_eq [Pr ps ws os, Pr ps' ws' os'] m = .ok (.bl (decide (ps = ps') && (decide (ws = ws') && decide (os = os')))) m := by
  refine fn_pure ?_
  have i1 : isiD [0, 1, 2, 3, 4] (.cls 4) (Pr ps' ws' os') m = .ok (.bl true) m := rfl
  by_cases h1 : ps = ps'
  · by_cases h2 : ws = ws'
    · simp [b_Prices_eq, startD, i1, at0, at1, at2, eq_tps, eq_tup, h1, h2]
    · simp [b_Prices_eq, startD, i1, at0, at1, at2, eq_tps, eq_tup, h1, h2]
  · simp [b_Prices_eq, startD, i1, at0, at1, at2, eq_tps, eq_tup, h1]
theorem Peq_tup (ds : List D) (m : Store) : d_Prices_eq [Pr ps ws os, .tup ds] m = .ok (.bl false) m := by
  refine fn_pure ?_
  simp [b_Prices_eq, startD, isK]
theorem flip_bl (neg b : Bool) (m : Store) : flipD neg (.bl b) m = .ok (.bl (neg != b)) m := by cases neg <;> cases b <;> rfl
abbrev tE : MTab := [(0, 2, d_Sum_eq), (1, 2, d_Space_eq), (2, 2, d_Stored_eq), (3, 2, d_Table_eq), (4, 2, d_Prices_eq)]
theorem ownE_no {neg : Bool} {g0 : D → D → DL.M D} {x y : D} {m : Store} (h : clsD x m = none) : ownE [0, 1, 2, 3, 4] tE neg g0 x y m = g0 x y m := by
  unfold ownE
  rw [h]
theorem ownE_Pr {neg : Bool} {g0 : D → D → DL.M D} (m : Store) : ownE [0, 1, 2, 3, 4] tE neg g0 (Pr ps ws os) (Pr ps' ws' os') m = .ok (.bl (neg != (decide (ps = ps') && (decide (ws = ws') && decide (os = os'))))) m := by
  have z : callN 2 d_Prices_eq [Pr ps ws os, Pr ps' ws' os'] m = _ := (callN_ap m _ rfl).trans (Peq_ok m)
  show (callN 2 d_Prices_eq [Pr ps ws os, Pr ps' ws' os'] >>= flipD neg) m = _
  rw [bind_ap, z]
  exact flip_bl neg _ m
theorem ownE_Prt {neg : Bool} {g0 : D → D → DL.M D} (ds : List D) (m : Store) : ownE [0, 1, 2, 3, 4] tE neg g0 (Pr ps ws os) (.tup ds) m = .ok (.bl (neg != false)) m := by
  have z : callN 2 d_Prices_eq [Pr ps ws os, .tup ds] m = .ok (.bl false) m := (callN_ap m _ rfl).trans (Peq_tup ds m)
  show (callN 2 d_Prices_eq [Pr ps ws os, .tup ds] >>= flipD neg) m = _
  rw [bind_ap, z]
  exact flip_bl neg false m
theorem ownE_int {neg : Bool} {g0 : D → D → DL.M D} (i : Int) (y : D) (m : Store) : ownE [0, 1, 2, 3, 4] tE neg g0 (.int i) y m = g0 (.int i) y m := ownE_no rfl
theorem ownE_bl {neg : Bool} {g0 : D → D → DL.M D} (b : Bool) (y : D) (m : Store) : ownE [0, 1, 2, 3, 4] tE neg g0 (.bl b) y m = g0 (.bl b) y m := ownE_no rfl
theorem ownE_tup {neg : Bool} {g0 : D → D → DL.M D} (ds : List D) (y : D) (m : Store) : ownE [0, 1, 2, 3, 4] tE neg g0 (.tup ds) y m = g0 (.tup ds) y m := ownE_no rfl
theorem ownE_lst {neg : Bool} {g0 : D → D → DL.M D} (ds : List D) (y : D) (m : Store) : ownE [0, 1, 2, 3, 4] tE neg g0 (.lst ds) y m = g0 (.lst ds) y m := ownE_no rfl
variable {p : Int} {s : Nat} {l : List (List (List Int))}
theorem tb_pieces (m : Store) : attrD [(2, .prop d_Stored_pieces), (3, .prop d_Table_pieces)] (Tb p s l) m = .ok (.tup (pcs l)) m := by
  have z : d_Table_pieces [Tb p s l] m = .ok (.tup (pcs l)) m := fn_pure rfl
  show noX (d_Table_pieces [Tb p s l]) m = _
  unfold noX
  rw [z]
theorem fits_1 (hl : l.length ≤ 1000) {d0 : D} (m : Store) : c_Prices_fits_1 [some d0, some (Tb p s l), none] m = .ok (.lst (ils (l.map fun q => (q.length : Int)))) m := by
  have e : ils (l.map fun q => (q.length : Int)) = l.map fun q => D.int q.length := by simp [ils]
  rw [e]
  refine eComp_on (h := fun q => D.tup (tps q)) ?_ (by omega) fun q hq => ⟨_, rfl, by simp [wipeD]⟩
  simp [tb_pieces, pcs]
theorem fits_2 (hl : ps.length ≤ 1000) {x1 : Option D} (m : Store) : c_Prices_fits_2 [some (Pr ps ws os), x1, none] m = .ok (.lst (ils (ps.map fun q => (q.length : Int)))) m := by
  have e : ils (ps.map fun q => (q.length : Int)) = ps.map fun q => D.int q.length := by simp [ils]
  rw [e]
  refine eComp_on (h := fun q => D.tup (ils q)) ?_ (by omega) fun q hq => ⟨_, rfl, by simp [wipeD]⟩
  simp [at1, tps]
theorem fits_ok (hl : l.length ≤ 1000) (hp : ps.length ≤ 1000) (m : Store) : d_Prices_fits [Pr ps ws os, Tb p s l] m = .ok (.bl (decide (l.map (fun q => (q.length : Int)) = ps.map fun q => (q.length : Int)))) m := by
  refine fn_pure ?_
  have i1 : isiD [0, 1, 2, 3, 4] (.cls 3) (Tb p s l) m = .ok (.bl true) m := rfl
  have f1 := fits_1 (p := p) (s := s) hl (d0 := Pr ps ws os) m
  have f2 := fits_2 (ws := ws) (os := os) hp (x1 := some (Tb p s l)) m
  have e := eq_lstI (l.map fun q => (q.length : Int)) (ps.map fun q => (q.length : Int)) m
  have st : startD 3 [Pr ps ws os, Tb p s l] = [some (Pr ps ws os), some (Tb p s l), none] := rfl
  rw [st]
  refine sq_of (e1 := [some (Pr ps ws os), some (Tb p s l), none]) (m1 := m) (by simp [i1]) ?_
  rw [sRet_ap, eOp_ap, f1, thn_ok, f2, thn_ok, e]
  rfl
theorem fits_no {d : D} (h : isiD [0, 1, 2, 3, 4] (.cls 3) d m0 = .ok (.bl false) m0) : d_Prices_fits [Pr ps ws os, d] m0 = .ok (.bl false) m0 := by
  refine fn_pure ?_
  simp [b_Prices_fits, startD, h]
end fits
section k13
variable {ps : List (List Int)} {ws os : List Int} {p : Int} {s : Nat} {l : List (List (List Int))}
def xsOf (l : List (List (List Int))) : Xs := l.map fun q => (q.map fun r => (r, true), true)
theorem xs_pcs (l : List (List (List Int))) : (xsOf l).map pcD = pcs l := by
  simp [xsOf, pcs, Function.comp_def, pcD, cD, tps, rwD, Sq]
theorem xs_rws (l : List (List (List Int))) : (xsOf l).map rwsOf = l := by
  simp [xsOf, Function.comp_def, rwsOf]
theorem tbl_ok {d : Bool} (fm : Fm p s) (h1 : 1 ≤ l.length) (h6 : l.length ≤ 6) (hpc : ∀ q ∈ l, 1 ≤ q.length ∧ q.length ≤ 3 ∧ ∀ r ∈ q, r.length = s ∧ rowsIn p r) (h10 : (l.map List.length).sum ≤ 10) (m : Store) :
    makeD 3 4 d_Table_init [.int p, .int s, cD d (pcs l)] m = .ok (Tb p s l) m := by
  have t : TO p s (xsOf l) := ⟨fm, by simpa [xsOf] using h1, by simpa [xsOf] using h6, fun x hx => by
    simp only [xsOf, List.mem_map] at hx
    obtain ⟨q, hq, rfl⟩ := hx
    obtain ⟨a, b, c⟩ := hpc q hq
    refine ⟨by simpa using a, by simpa using b, fun r hr => ?_⟩
    simp only [List.mem_map] at hr
    obtain ⟨r', hr', rfl⟩ := hr
    exact c r' hr', by simpa [xsOf, Function.comp_def] using h10⟩
  have := table_ok (d := d) t m
  rw [xs_pcs, xs_rws] at this
  exact this
structure PL (p : Int) (s : Nat) (l : List (List (List Int))) : Prop where
  l2 : 2 ≤ l.length
  l4 : l.length ≤ 4
  pc : ∀ q ∈ l, PcOk p s q
theorem sum_le2 {l : List (List (List Int))} (h : ∀ q ∈ l, q.length ≤ 2) : (l.map List.length).sum ≤ 2 * l.length := by
  induction l with
  | nil => simp
  | cons q l ih =>
    have h1 := h q (by simp)
    have h2 := ih fun x hx => h x (by simp [hx])
    simp only [List.map_cons, List.sum_cons, List.length_cons]
    omega
abbrev mtF : MTab := [(2, 2, d_Stored_fits), (4, 2, d_Prices_fits)]
theorem meth_fits {d : D} {r : Bool} {m : Store} (h : d_Prices_fits [Pr ps ws os, d] m = .ok (.bl r) m) {e : DEnv} {a b : Nat} (h3 : e[a]? = some (some (Pr ps ws os))) (h4 : e[b]? = some (some d)) : eMeth mtF (eVar a) (aCons (eVar b) aNil) e m = .ok (.bl r) m := by
  have mo : methOf mtF 4 m = .ok (2, d_Prices_fits) m := rfl
  simp [eMeth, h3, h4, mo, h]
theorem isi_no_tbl (m : Store) : isiD [0, 1, 2, 3, 4] (.cls 3) .non m = .ok (.bl false) m ∧ isiD [0, 1, 2, 3, 4] (.cls 3) (.int 5) m = .ok (.bl false) m ∧ (∀ ds, isiD [0, 1, 2, 3, 4] (.cls 3) (.tup ds) m = .ok (.bl false) m) ∧ (∀ ds, isiD [0, 1, 2, 3, 4] (.cls 3) (.lst ds) m = .ok (.bl false) m) ∧ isiD [0, 1, 2, 3, 4] (.cls 3) (Pr ps ws os) m = .ok (.bl false) m := ⟨rfl, rfl, fun _ => rfl, fun _ => rfl, rfl⟩
theorem expr_of {a : DEnv → M D} {e : DEnv} {m m1 : Store} {x : D} (h : a e m = .ok x m1) : sExpr a e m = .ok (.nx e) m1 := by
  rw [sExpr_ap, h]
  rfl
theorem any_bls (bs : List Bool) (m : Store) : anyD [.lst (bs.map D.bl)] m = .ok (.bl (bs.any id)) m := by simp [anyD, tru_bls]
theorem fits_right_ok (fm : Fm p s) (h : PL p s l) (hp : ps.length ≤ 1000) (hl : ps.map List.length = l.map List.length) (m : Store) : d_fits_right [.int p, .int s, .tup (pcs l), Pr ps ws os] m = .ok (.bl true) m := by
  obtain ⟨q0, l', rfl⟩ : ∃ q0 l', l = q0 :: l' := by
    match l, h.l2 with
    | q0 :: l', _ => exact ⟨q0, l', rfl⟩
  have l2 := h.l2
  have l4 := h.l4
  have hq0 := h.pc q0 (by simp)
  have s2 := sum_le2 (l := q0 :: l') fun q hq => (h.pc q hq).l2
  have pc3 : ∀ q ∈ q0 :: l', 1 ≤ q.length ∧ q.length ≤ 3 ∧ ∀ r ∈ q, r.length = s ∧ rowsIn p r := fun q hq => by
    have := h.pc q hq
    exact ⟨this.l1, by have := this.l2; omega, this.row⟩
  have t1 := tbl_ok (d := true) fm (l := q0 :: l') (by simp) (by omega) pc3 (by omega)
  have t2 := tbl_ok (d := true) fm (l := q0 :: (l' ++ [q0])) (by simp) (by simp only [List.length_cons, List.length_append, List.length_nil] at l4 ⊢; omega) (fun q hq => by
    rw [← List.cons_append] at hq
    rcases List.mem_append.mp hq with hq | hq
    · exact pc3 q hq
    · rw [List.mem_singleton.mp hq]; exact pc3 q0 (by simp)) (by
    have := hq0.l2
    simp only [List.map_cons, List.map_append, List.sum_append, List.map_nil, List.sum_cons, List.sum_nil, List.length_cons] at s2 l4 ⊢
    omega)
  have ht : ∃ r0, q0.take 1 = [r0] ∧ r0 ∈ q0 := by
    match q0, hq0.l1 with
    | r0 :: _, _ => exact ⟨r0, rfl, by simp⟩
  obtain ⟨r0, hr0, mr0⟩ := ht
  have t3 := tbl_ok (d := false) fm (l := (q0 ++ [r0]) :: l') (by simp) (by simpa using (show l'.length + 1 ≤ 6 by simp at l4; omega)) (fun q hq => by
    rcases List.mem_cons.mp hq with rfl | hq
    · have h1 := hq0.l1
      have h2 := hq0.l2
      refine ⟨by simp, by simp; omega, fun r hr => ?_⟩
      rcases List.mem_append.mp hr with hr | hr
      · exact hq0.row r hr
      · rw [List.mem_singleton.mp hr]; exact hq0.row r0 mr0
    · exact pc3 q (by simp [hq])) (by
    simp only [List.map_cons, List.sum_cons, List.length_append, List.length_nil, List.length_cons] at s2 l4 ⊢
    omega)
  have t1' : ∀ m, makeD 3 4 d_Table_init [.int p, .int s, .tup (pcs (q0 :: l'))] m = .ok (Tb p s (q0 :: l')) m := fun m => t1 m
  have t2' : ∀ m, makeD 3 4 d_Table_init [.int p, .int s, .tup (pcs (q0 :: (l' ++ [q0])))] m = .ok (Tb p s (q0 :: (l' ++ [q0]))) m := fun m => t2 m
  have t3' : ∀ m, makeD 3 4 d_Table_init [.int p, .int s, .lst (pcs ((q0 ++ [r0]) :: l'))] m = .ok (Tb p s ((q0 ++ [r0]) :: l')) m := fun m => t3 m
  have el : ∀ a : List (List Int), ∀ b : List (List (List Int)), a.map List.length = b.map List.length → b.map (fun q => (q.length : Int)) = a.map fun q => (q.length : Int) := fun a b e => by
    have e1 : a.map (fun q => (q.length : Int)) = (a.map List.length).map fun k : Nat => (k : Int) := by simp [Function.comp_def]
    have e2 : b.map (fun q => (q.length : Int)) = (b.map List.length).map fun k : Nat => (k : Int) := by simp [Function.comp_def]
    rw [e1, e2, e]
  have f1 : ∀ m, d_Prices_fits [Pr ps ws os, Tb p s (q0 :: l')] m = .ok (.bl true) m := fun m => by
    rw [fits_ok (by omega) hp, decide_eq_true (el ps (q0 :: l') hl)]
  have pl : ps.length = l'.length + 1 := by
    have := congrArg List.length hl
    simpa using this
  have f2 : ∀ m, d_Prices_fits [Pr ps ws os, Tb p s (q0 :: (l' ++ [q0]))] m = .ok (.bl false) m := fun m => by
    rw [fits_ok (by simp at l4 ⊢; omega) hp, decide_eq_false fun z => ?_]
    have := congrArg List.length z
    simp at this
    omega
  have f3 : ∀ m, d_Prices_fits [Pr ps ws os, Tb p s ((q0 ++ [r0]) :: l')] m = .ok (.bl false) m := fun m => by
    rw [fits_ok (by simp at l4 ⊢; omega) hp, decide_eq_false fun z => ?_]
    have e1 := el ps (q0 :: l') hl
    rw [← e1] at z
    simp at z
    omega
  have st : startD 8 [.int p, .int s, .tup (pcs (q0 :: l')), Pr ps ws os] = [some (.int p), some (.int s), some (.tup (pcs (q0 :: l'))), some (Pr ps ws os), none, none, none, none] := rfl
  refine fn_junk (junk := [none]) ?_ rfl
  rw [st]
  have p1 : ∀ e m, pSome (eC (.int 1)) e m = .ok (some 1) m := fun e m => pSome_int _ _ (by simp)
  have cu1 : cutD (pcs (q0 :: l')) none (some 1) = pcs [q0] := by
    have := cut_to (pcs (q0 :: l')) 1
    simpa [pcs] using this
  have cu2 : cutD (pcs (q0 :: l')) (some 1) none = pcs l' := by
    have := cut_from (pcs (q0 :: l')) 1
    simpa [pcs] using this
  have cu3 : cutD (tps q0) none (some 1) = tps [r0] := by
    have := cut_to (tps q0) 1
    simp only [tps, ← List.map_take] at this ⊢
    simpa [hr0] using this
  have pa : pcs (q0 :: l') ++ pcs [q0] = pcs (q0 :: (l' ++ [q0])) := by simp [pcs]
  have pz : (pcs (q0 :: (l' ++ [q0]))).length ≤ 100000 := by simp at l4 ⊢; omega
  refine sq_of (e1 := [some (.int p), some (.int s), some (.tup (pcs (q0 :: l'))), some (Pr ps ws os), some (Tb p s (q0 :: l')), none, none, none]) (m1 := m) (by simp [t1']) ?_
  have ad1 : ∀ m, addD (.tup (pcs (q0 :: l'))) (.tup (pcs [q0])) m = .ok (.tup (pcs (q0 :: (l' ++ [q0])))) m := fun m => by
    rw [add_tup, pa, mkT_ap, if_pos pz]
  refine sq_of (e1 := [some (.int p), some (.int s), some (.tup (pcs (q0 :: l'))), some (Pr ps ws os), some (Tb p s (q0 :: l')), some (.loc m.length), none, none]) (m1 := m ++ [some (.lst [Tb p s (q0 :: (l' ++ [q0]))])]) (by
    simp [p1, cu1, ad1, t2', newM]) ?_
  have ix0 : ∀ m, ixD (.tup (pcs (q0 :: l'))) (.int 0) m = .ok (.tup (tps q0)) m := fun m => ix_seq rfl (by decide) (by simp [pcs])
  have ad2 : ∀ m, addD (.tup (tps q0)) (.tup (tps [r0])) m = .ok (.tup (tps (q0 ++ [r0]))) m := fun m => by
    have := hq0.l2
    rw [add_tup, tps_app, mkT_ap, if_pos (by simp; omega)]
  have ad3 : ∀ m, addD (.lst [.tup (tps (q0 ++ [r0]))]) (.lst (pcs l')) m = .ok (.lst (pcs ((q0 ++ [r0]) :: l'))) m := fun m => by
    rw [add_lst]
    have e : [D.tup (tps (q0 ++ [r0]))] ++ pcs l' = pcs ((q0 ++ [r0]) :: l') := by simp [pcs]
    rw [e, mkL_ap, if_pos (by simp at l4 ⊢; omega)]
  have ll : l'.length ≤ 100000 := by simp at l4; omega
  have v3 : ∀ n0 m, (eCallB (makeD 3 4 d_Table_init) (aCons (eVar 0) (aCons (eVar 1) (aCons (eOp addD (eLst (aCons (eOp addD (eOp ixD (eVar 2) (eC (.int 0))) (eSlice (eOp ixD (eVar 2) (eC (.int 0))) pNone (pSome (eC (.int 1))))) aNil)) (eCallB listD (aCons (eSlice (eVar 2) (pSome (eC (.int 1))) pNone) aNil))) aNil)))) [some (.int p), some (.int s), some (.tup (pcs (q0 :: l'))), some (Pr ps ws os), some (Tb p s (q0 :: l')), some (.loc n0), none, none] m = .ok (Tb p s ((q0 ++ [r0]) :: l')) m := fun n0 m => by
    have ls : listD [.tup (pcs l')] m = .ok (.lst (pcs l')) m := by simp [ll]
    simp [ix0, p1, cu3, ad2, cu2, ll, ad3, t3']
  have g1 : (m ++ [some (Cell.lst [Tb p s (q0 :: (l' ++ [q0]))])])[m.length]? = some (some (.lst [Tb p s (q0 :: (l' ++ [q0]))])) := by simp
  have gr := appLoc (x := Tb p s ((q0 ++ [r0]) :: l')) g1 (by simp)
  have es : (m ++ [some (Cell.lst [Tb p s (q0 :: (l' ++ [q0]))])]).set m.length (some (.lst ([Tb p s (q0 :: (l' ++ [q0]))] ++ [Tb p s ((q0 ++ [r0]) :: l')]))) = m ++ [some (.lst [Tb p s (q0 :: (l' ++ [q0])), Tb p s ((q0 ++ [r0]) :: l')])] := by simp
  rw [es] at gr
  have ap := eApp_of (o := eVar 5) (m := m ++ [some (.lst [Tb p s (q0 :: (l' ++ [q0]))])]) (m1 := m ++ [some (.lst [Tb p s (q0 :: (l' ++ [q0]))])]) (x := .loc m.length) (e := [some (.int p), some (.int s), some (.tup (pcs (q0 :: l'))), some (Pr ps ws os), some (Tb p s (q0 :: l')), some (.loc m.length), none, none]) (by simp) (isLocOk g1) (v3 m.length _) gr
  have ex := fz_of (i := 5) (n := m.length) (expr_of ap) rfl (ds := [Tb p s (q0 :: (l' ++ [q0])), Tb p s ((q0 ++ [r0]) :: l')]) (by simp)
  have es2 : (m ++ [some (Cell.lst [Tb p s (q0 :: (l' ++ [q0])), Tb p s ((q0 ++ [r0]) :: l')])]).set m.length none = m ++ [none] := by simp
  rw [es2] at ex
  refine sq_of ex ?_
  generalize m ++ [none] = M
  show sSeq _ _ [some (.int p), some (.int s), some (.tup (pcs (q0 :: l'))), some (Pr ps ws os), some (Tb p s (q0 :: l')), some (.lst [Tb p s (q0 :: (l' ++ [q0])), Tb p s ((q0 ++ [r0]) :: l')]), none, none] M = _
  have c1 : c_fits_right_1 [some (.int p), some (.int s), some (.tup (pcs (q0 :: l'))), some (Pr ps ws os), some (Tb p s (q0 :: l')), some (.lst [Tb p s (q0 :: (l' ++ [q0])), Tb p s ((q0 ++ [r0]) :: l')]), none, none] M = .ok (.lst ([false, false].map D.bl)) M := by
    refine (eComp_on (xs := [(q0 :: (l' ++ [q0])), ((q0 ++ [r0]) :: l')]) (h := Tb p s) (f := fun _ => D.bl false) rfl (by simp) fun x hx => ⟨_, rfl, ?_⟩).trans rfl
    refine meth_fits (d := Tb p s x) ?_ rfl rfl
    simp only [List.mem_cons, List.not_mem_nil, or_false] at hx
    rcases hx with rfl | rfl
    · exact f2 M
    · exact f3 M
  have a1 := any_bls [false, false] M
  have m1 := meth_fits (d := Tb p s (q0 :: l')) (f1 M) (e := [some (.int p), some (.int s), some (.tup (pcs (q0 :: l'))), some (Pr ps ws os), some (Tb p s (q0 :: l')), some (.lst [Tb p s (q0 :: (l' ++ [q0])), Tb p s ((q0 ++ [r0]) :: l')]), none, none]) (a := 3) (b := 4) rfl rfl
  refine sq_of (e1 := [some (.int p), some (.int s), some (.tup (pcs (q0 :: l'))), some (Pr ps ws os), some (Tb p s (q0 :: l')), some (.lst [Tb p s (q0 :: (l' ++ [q0])), Tb p s ((q0 ++ [r0]) :: l')]), none, none]) (m1 := M) (by
    rw [sIf_ap, tOr_ap, tNot_ap, tB_ap, m1]
    simp only [thn_ok, asB_bl, Bool.not_true, Bool.false_eq_true, if_false]
    rw [tB_ap, eCallB_ap, aCons_ap, c1]
    simp only [thn_ok, aNil_ap, a1]
    rfl) ?_
  obtain ⟨n1, n2, n3, n4, n5⟩ := isi_no_tbl (ps := ps) (ws := ws) (os := os) M
  have c2 : c_fits_right_2 [some (.int p), some (.int s), some (.tup (pcs (q0 :: l'))), some (Pr ps ws os), some (Tb p s (q0 :: l')), some (.lst [Tb p s (q0 :: (l' ++ [q0])), Tb p s ((q0 ++ [r0]) :: l')]), none, none] M = .ok (.lst ([false, false, false, false, false].map D.bl)) M := by
    refine (eComp_on (xs := [.non, .int 5, .tup (pcs (q0 :: l')), Pr ps ws os, .lst [Tb p s (q0 :: l')]]) (h := id) (f := fun _ => D.bl false) (by simp) (by simp) fun x hx => ⟨_, rfl, ?_⟩).trans rfl
    refine meth_fits (d := x) ?_ rfl rfl
    simp only [List.mem_cons, List.not_mem_nil, or_false] at hx
    rcases hx with rfl | rfl | rfl | rfl | rfl
    · exact fits_no n1
    · exact fits_no n2
    · exact fits_no (n3 _)
    · exact fits_no n5
    · exact fits_no (n4 _)
  have a2 := any_bls [false, false, false, false, false] M
  rw [sRet_ap, eNot_ap, eCallB_ap, aCons_ap, c2]
  simp only [thn_ok, aNil_ap, a2]
  rfl
end k13
section law
variable {ps ps' : List (List Int)} {ws os ws' os' : List Int} {p : Int} {s : Nat} {l : List (List (List Int))}
theorem form_ok {m : Store} {n : Nat} (h : SrcAt m n) : ∃ (p : Int) (k : Nat) (m' : Store), d_form [.loc n] m = .ok (.tup [.int p, .int k]) m' ∧ Chg n m m' ∧ Fm p k := by
  obtain ⟨d, m', e, c, hd⟩ := pick_ok (ds := [.tup [.int 2, .int 1], .tup [.int 2, .int 2], .tup [.int 2, .int 3], .tup [.int 2, .int 4], .tup [.int 3, .int 1], .tup [.int 3, .int 2], .tup [.int 3, .int 3], .tup [.int 5, .int 2], .tup [.int 7, .int 2]]) h (by decide) (by decide)
  have : ∃ (p : Int) (k : Nat), d = .tup [.int p, .int k] ∧ Fm p k := by
    simp only [List.mem_cons, List.not_mem_nil, or_false] at hd
    rcases hd with rfl | rfl | rfl | rfl | rfl | rfl | rfl | rfl | rfl
    · exact ⟨2, 1, rfl, by decide, by decide, by decide, by decide⟩
    · exact ⟨2, 2, rfl, by decide, by decide, by decide, by decide⟩
    · exact ⟨2, 3, rfl, by decide, by decide, by decide, by decide⟩
    · exact ⟨2, 4, rfl, by decide, by decide, by decide, by decide⟩
    · exact ⟨3, 1, rfl, by decide, by decide, by decide, by decide⟩
    · exact ⟨3, 2, rfl, by decide, by decide, by decide, by decide⟩
    · exact ⟨3, 3, rfl, by decide, by decide, by decide, by decide⟩
    · exact ⟨5, 2, rfl, by decide, by decide, by decide, by decide⟩
    · exact ⟨7, 2, rfl, by decide, by decide, by decide, by decide⟩
  obtain ⟨p, k, rfl, fm⟩ := this
  refine ⟨p, k, m', fn_chg0 ?_ c, c, fm⟩
  simp [b_form, startD, e]
/-- good prices of pieces -/
structure GP (l : List (List (List Int))) (ps : List (List Int)) (ws os : List Int) : Prop where
  ln : ps.map List.length = l.map List.length
  gd : GdP ps
  gw : gdW ps.length ws
  go : gdW ps.length os
theorem gp_of (h : PL p s l) (q : PrOk l ps ws os) : GP l ps ws os := by
  have al := q.ps
  have pl := al.len
  have ln : ps.map List.length = l.map List.length := by
    have : ∀ {l : List (List (List Int))} {ps : List (List Int)}, All2 (fun q p => p.length = q.length ∧ rowsIn 20 p) l ps → ps.map List.length = l.map List.length := by
      intro l ps h
      induction h with
      | nil => rfl
      | cons h _ ih => simp [h.1, ih]
    exact this al
  have l4 := h.l4
  have l2 := h.l2
  refine ⟨ln, ⟨by omega, by omega, fun r hr => ?_⟩, ⟨by rw [q.wl, pl], fun x hx => by have := q.wi x hx; omega⟩, ⟨by rw [q.ol, pl], fun x hx => by have := q.oi x hx; omega⟩⟩
  obtain ⟨q', hq', e, b⟩ := al.mem hr
  have := h.pc q' hq'
  exact ⟨by have := this.l1; omega, by have := this.l2; omega, fun x hx => by have := b x hx; omega⟩
theorem GP.nn (h : GP l ps ws os) : Nn ps ws os := ⟨fun p hp x hx => ((h.gd.row p hp).2.2 x hx).1, fun x hx => (h.gw.2 x hx).1, fun x hx => (h.go.2 x hx).1⟩
theorem GP.l3 (h : GP l ps ws os) : ∀ p ∈ ps, p.length ≤ 3 := fun p hp => (h.gd.row p hp).2.1
theorem sps_len (h : PL p s l) (g : GP l ps ws os) : (sps (ps.map List.length)).length ≤ 8 := by
  rw [g.ln]
  have := flat_len (spF_len fun q hq => (h.pc q hq).l2) l.length
  have l4 := h.l4
  have e : sps (l.map List.length) = (List.range l.length).flatMap (spF (l.map List.length)) := by simp [sps]
  rw [e]
  omega
/-- one set of spots -/
theorem set_turn {q : List (Nat × Nat)} {x0 x1 x2 x3 x6 x7 x9 x10 : Option D} (h : PL p s l) (g : GP l ps ws os) (hq : q.Sublist (sps (ps.map List.length))) (m : Store) :
    lb_law_1 [x0, x1, x2, x3, some (Pr ps ws os), some (sD q), x6, x7, some (prD ps ws os), x9, x10] m = .ok (.nx [x0, x1, x2, x3, some (Pr ps ws os), some (sD q), x6, x7, some (prD ps ws os), x9, x10]) m := by
  have sl := sps_len h g
  have ql := hq.length_le
  have hin := sps_in hq
  have hr := sps_rise hq
  have hw := g.gw.1
  have ho := g.go.1
  have pl : ps.length ≤ 100 := by have := g.gd.l6; omega
  have c1 : ∀ m, d_Prices_call [Pr ps ws os, sD q] m = .ok (.int (cst ps ws os q)) m := fun m => call_ok (b := true) hin (by omega) hr hw ho m
  have c2 : ∀ m, d_Prices_call [Pr ps ws os, .lst (prs q)] m = .ok (.int (cst ps ws os q)) m := fun m => call_ok (b := false) hin (by omega) hr hw ho m
  have c3 : ∀ m, d_cost [prD ps ws os, sD q] m = .ok (.int (cst ps ws os q)) m := fun m => cost_ok (c := true) hin (by omega) hw ho pl m
  have p1 : ∀ m, d_Prices_paid [Pr ps ws os, sD q] m = .ok (sD (pdL ps ws q ps.length)) m := fun m => paid_ok (c := true) hin (by omega) hr hw pl g.l3 m
  have p2 : ∀ m, d_paid [prD ps ws os, sD q] m = .ok (sD (pdL ps ws q ps.length)) m := fun m => lpaid_ok (c := true) hin (by omega) hw pl g.l3 m
  have hs : (pdL ps ws q ps.length).Sublist (sps (ps.map List.length)) := by
    rw [pdL_filter]
    exact List.filter_sublist
  have c4 : ∀ m, d_Prices_call [Pr ps ws os, sD (pdL ps ws q ps.length)] m = .ok (.int (cst ps ws os (pdL ps ws q ps.length))) m := fun m => call_ok (b := true) (sps_in hs) (by have := hs.length_le; omega) (sps_rise hs) hw ho m
  have mono := cst_mono g.nn hq
  have co : ∀ (d : D) (r : Int) (m : Store), d_Prices_call [Pr ps ws os, d] m = .ok (.int r) m → ∀ (v : DEnv → M D) (e : DEnv), e[4]? = some (some (Pr ps ws os)) → v e m = .ok d m → eCallO 4 2 d_Prices_call (eVar 4) (aCons v aNil) e m = .ok (.int r) m := fun d r m hd v e h4 hv => by
    simp [eCallO, h4, hv, hd]
  generalize hE : [x0, x1, x2, x3, some (Pr ps ws os), some (sD q), x6, x7, some (prD ps ws os), x9, x10] = E
  have v4 : E[4]? = some (some (Pr ps ws os)) := by rw [← hE]; rfl
  have v5 : E[5]? = some (some (sD q)) := by rw [← hE]; rfl
  have v8 : E[8]? = some (some (prD ps ws os)) := by rw [← hE]; rfl
  have k1 := co _ _ m (c1 m) (eVar 5) E v4 (by simp [v5])
  have pz : (prs q).length ≤ 100000 := by simp; omega
  have k2 := co _ _ m (c2 m) (eCallB listD (aCons (eVar 5) aNil)) E v4 (by simp [v5]; omega)
  have k3 : eMeth [(4, 2, d_Prices_paid)] (eVar 4) (aCons (eVar 5) aNil) E m = .ok (sD (pdL ps ws q ps.length)) m := by simp [v4, v5, p1]
  have k4 := co _ _ m (c4 m) (eMeth [(4, 2, d_Prices_paid)] (eVar 4) (aCons (eVar 5) aNil)) E v4 k3
  have k5 : eCallB (callN 2 d_cost) (aCons (eVar 8) (aCons (eVar 5) aNil)) E m = .ok (.int (cst ps ws os q)) m := by simp [v5, v8, c3]
  have k6 : eCallB (callN 2 d_paid) (aCons (eVar 8) (aCons (eVar 5) aNil)) E m = .ok (sD (pdL ps ws q ps.length)) m := by simp [v5, v8, p2]
  have n1 := ne_self m (d := sD (pdL ps ws q ps.length)) (x := .tuple ((pdL ps ws q ps.length).map fun x => .tuple [.int x.1, .int x.2])) (by simp [topPD, toPD, toPDs_prs]) (by
    have d := depth_prs (pdL ps ws q ps.length)
    simp [SeqAt.shaped, PyData.canLay0, PyData.depth, canLay_prs]
    omega)
  have gt : decide (cst ps ws os (pdL ps ws q ps.length) < cst ps ws os q) = false := by simp; omega
  refine sq_of (e1 := E) (m1 := m) ?_ ?_
  · rw [sIf_ap, tOr_ap, tB_ap, eOp_ap, k1]
    simp only [thn_ok]
    rw [k5]
    simp only [thn_ok, ownE_int, ne_int, beq_self_eq_true, Bool.not_true, asB_bl, Bool.false_eq_true, if_false]
    rw [tB_ap, eOp_ap, k2]
    simp only [thn_ok]
    rw [k1]
    simp only [thn_ok, ownE_int, ne_int, beq_self_eq_true, Bool.not_true, asB_bl, Bool.false_eq_true, if_false]
    rfl
  · rw [sIf_ap, tOr_ap, tB_ap, eOp_ap, k3]
    simp only [thn_ok]
    rw [k6]
    simp only [thn_ok, ownE_tup, n1, asB_bl, Bool.false_eq_true, if_false]
    rw [tB_ap, eOp_ap, k1]
    simp only [thn_ok]
    rw [k4]
    simp only [thn_ok, gt_int, gt, asB_bl, Bool.false_eq_true, if_false]
    rfl
end law
section turn
variable {ps ps' : List (List Int)} {ws os ws' os' : List Int} {p : Int} {s : Nat} {l : List (List (List Int))}
theorem mk_tup (g : GP l ps ws os) (m : Store) : makeD 4 4 d_Prices_init [.tup (tps ps), .tup (ils ws), .tup (ils os)] m = .ok (Pr ps ws os) m := by
  have e : (ps.map fun p => (p, true)).map (·.1) = ps := by simp [Function.comp_def]
  have i := init_ok (b := true) (b2 := true) (b3 := true) (xs := ps.map fun p => (p, true)) (ws := ws) (os := os) (by rw [e]; exact g.gd) (by simpa using g.gw) (by simpa using g.go) m
  rw [e] at i
  have e2 : (ps.map fun p => (p, true)).map rwD = tps ps := by simp [Function.comp_def, rwD, Sq, tps]
  rw [e2] at i
  exact i
theorem mk_lst (g : GP l ps ws os) (m : Store) : makeD 4 4 d_Prices_init [.lst (ps.map fun p => .lst (ils p)), .lst (ils ws), .tup (ils os)] m = .ok (Pr ps ws os) m := by
  have e : (ps.map fun p => (p, false)).map (·.1) = ps := by simp [Function.comp_def]
  have i := init_ok (b := false) (b2 := false) (b3 := true) (xs := ps.map fun p => (p, false)) (ws := ws) (os := os) (by rw [e]; exact g.gd) (by simpa using g.gw) (by simpa using g.go) m
  rw [e] at i
  have e2 : (ps.map fun p => (p, false)).map rwD = ps.map fun p => .lst (ils p) := by simp [Function.comp_def, rwD, Sq]
  rw [e2] at i
  exact i
theorem prop_pr (m : Store) : attrD [(4, .prop d_Prices_parts)] (Pr ps ws os) m = .ok (.tup (tps ps)) m ∧ attrD [(4, .prop d_Prices_wholes)] (Pr ps ws os) m = .ok (.tup (ils ws)) m ∧ attrD [(4, .prop d_Prices_opens)] (Pr ps ws os) m = .ok (.tup (ils os)) m := by
  have z1 : d_Prices_parts [Pr ps ws os] m = .ok (.tup (tps ps)) m := fn_pure rfl
  have z2 : d_Prices_wholes [Pr ps ws os] m = .ok (.tup (ils ws)) m := fn_pure rfl
  have z3 : d_Prices_opens [Pr ps ws os] m = .ok (.tup (ils os)) m := fn_pure rfl
  refine ⟨?_, ?_, ?_⟩
  · show noX (d_Prices_parts [Pr ps ws os]) m = _
    unfold noX
    rw [z1]
  · show noX (d_Prices_wholes [Pr ps ws os]) m = _
    unfold noX
    rw [z2]
  · show noX (d_Prices_opens [Pr ps ws os]) m = _
    unfold noX
    rw [z3]
abbrev E11 (a b c d e f g h i j k : Option D) : DEnv := [a, b, c, d, e, f, g, h, i, j, k]
theorem law_comp {e : DEnv} (h8 : e[8]? = some (some (prD ps ws os))) (hl : e.length = 11) (hp : ∀ p ∈ ps, p.length ≤ 3) (h6 : ps.length ≤ 6) (m : Store) : c_law_1 e m = .ok (.lst (ps.map fun p => .lst (ils p))) m := by
  refine eComp_on (h := fun p => D.tup (ils p)) ?_ (by omega) fun p hp' => ⟨_, rfl, ?_⟩
  · simp [h8, pr_0, tps]
  · have g : ((wipeD e [10]).set 10 (some (D.tup (ils p))))[10]? = some (some (.tup (ils p))) := by simp [wipeD, hl]
    have := hp p hp'
    have : p.length ≤ 100000 := by omega
    simp [g, this]
theorem sets_loop {x0 x1 x2 x5 x6 x7 x9 x10 : Option D} (h : PL p s l) (g : GP l ps ws os) (m : Store) : ∃ y5, l_law_1 (E11 x0 x1 x2 (some (.tup (pcs l))) (some (Pr ps ws os)) x5 x6 x7 (some (prD ps ws os)) x9 x10) m = .ok (.nx (E11 x0 x1 x2 (some (.tup (pcs l))) (some (Pr ps ws os)) y5 x6 x7 (some (prD ps ws os)) x9 x10)) m := by
  have l4 := h.l4
  have sp := spots_ok (l := l) (by omega) (fun q hq => (h.pc q hq).l2) m
  rw [← g.ln] at sp
  have sl := sps_len h g
  obtain ⟨ds, e, hd⟩ := sets_ok (S := sps (ps.map List.length)) (by omega) m
  have hi : iSeqD (eCallB (callN 1 d_sets) (aCons (eCallB (callN 1 d_spots) (aCons (eVar 3) aNil)) aNil)) (E11 x0 x1 x2 (some (.tup (pcs l))) (some (Pr ps ws os)) x5 x6 x7 (some (prD ps ws os)) x9 x10) m = .ok ⟨ds, []⟩ m := by simp [sp, e]
  obtain ⟨e', m', hf, y5, rfl, rfl⟩ := forL_chg (src := ds) (g := gNm 5) (b := lb_law_1) (fun _ e t => ∃ y5, e = E11 x0 x1 x2 (some (.tup (pcs l))) (some (Pr ps ws os)) y5 x6 x7 (some (prD ps ws os)) x9 x10 ∧ t = m) ds (E11 x0 x1 x2 (some (.tup (pcs l))) (some (Pr ps ws os)) x5 x6 x7 (some (prD ps ws os)) x9 x10) m ⟨x5, rfl, rfl⟩ (by
    rintro j d e t hj ⟨y5, rfl, rfl⟩
    obtain ⟨q, rfl, hq⟩ := hd d (List.mem_of_getElem? hj)
    exact ⟨_, _, _, _, rfl, .inl (set_turn (x0 := x0) (x1 := x1) (x2 := x2) (x3 := some (.tup (pcs l))) (x6 := x6) (x7 := x7) (x9 := x9) (x10 := x10) h g hq t), _, rfl, rfl⟩)
  exact ⟨y5, fr_of hi hf⟩
theorem turn_ok {ns : List Int} {t : Nat} {m : Store} {x2 x3 x4 x5 x6 x7 x8 x9 x10 : Option D} : ∃ y2 y3 y4 y5 y6 y7 y8 y9 m', lb_law_2 (E11 (some (.lst (ils ns))) (some (.int t)) x2 x3 x4 x5 x6 x7 x8 x9 x10) m = .ok (.nx (E11 (some (.lst (ils ns))) (some (.int t)) y2 y3 y4 y5 y6 y7 y8 y9 x10)) m' := by
  obtain ⟨a, b, e0⟩ := source_ok (m := m) (ns := ns) (t := t)
  have h0 := src_new m a b
  generalize m ++ [some (Cell.lst [.int a, .int b])] = M at e0 h0
  obtain ⟨p, s, m1, e1, c1, fm⟩ := form_ok h0
  have h1 := c1.src h0
  have hp0 : 0 < p := by rcases fm.okp with h | h | h | h <;> omega
  have hp1 : p < 2 ^ 100 := by rcases fm.okp with h | h | h | h <;> omega
  obtain ⟨l, m2, e2, c2, l2, l4, pc⟩ := pieces_ok (M := 4) (k := s) h1 hp0 hp1 (by have := fm.s6; omega) (by decide) (by decide)
  have h : PL p s l := ⟨l2, by omega, pc⟩
  have h2 := c2.src h1
  have q100 : ∀ q ∈ l, q.length ≤ 100 := fun q hq => by have := (pc q hq).l2; omega
  obtain ⟨ps, ws, os, m3, e3, c3, pr⟩ := prices_ok (l := l) h2 (by omega) q100
  have h3 := c3.src h2
  obtain ⟨ps', ws', os', m4, e4, c4, pr'⟩ := prices_ok (l := l) h3 (by omega) q100
  have g := gp_of h pr
  have g' := gp_of h pr'
  have cc := law_comp (ps := ps) (ws := ws) (os := os) (e := E11 (some (.lst (ils ns))) (some (.int t)) (some (.loc m.length)) (some (.tup (pcs l))) x4 x5 (some (.int p)) (some (.int s)) (some (prD ps ws os)) (some (prD ps' ws' os')) x10) rfl rfl g.l3 g.gd.l6 m4
  have mk := mk_lst g m4
  have mt := mk_tup g m4
  have mt' := mk_tup g' m4
  obtain ⟨r1, r2, r3⟩ := prop_pr (ps := ps) (ws := ws) (os := os) m4
  obtain ⟨y5, lp⟩ := sets_loop (x0 := some (.lst (ils ns))) (x1 := some (.int t)) (x2 := some (.loc m.length)) (x5 := x5) (x6 := some (.int p)) (x7 := some (.int s)) (x9 := some (prD ps' ws' os')) (x10 := x10) h g m4
  have fr := fits_right_ok (ws := ws) (os := os) fm h (ps := ps) (by have := g.gd.l6; omega) g.ln m4
  have wl : ws.length ≤ 100000 := by have := g.gw.1; have := g.gd.l6; omega
  refine ⟨some (.loc m.length), some (.tup (pcs l)), some (Pr ps ws os), y5, some (.int p), some (.int s), some (prD ps ws os), some (prD ps' ws' os'), m4, sq_of (e1 := E11 (some (.lst (ils ns))) (some (.int t)) (some (.loc m.length)) x3 x4 x5 x6 x7 x8 x9 x10) (m1 := M) (by simp [e0]) ?_⟩
  refine sq_of (e1 := E11 (some (.lst (ils ns))) (some (.int t)) (some (.loc m.length)) x3 x4 x5 (some (.int p)) (some (.int s)) x8 x9 x10) (m1 := m1) (by simp [e1]) ?_
  refine sq_of (e1 := E11 (some (.lst (ils ns))) (some (.int t)) (some (.loc m.length)) (some (.tup (pcs l))) x4 x5 (some (.int p)) (some (.int s)) x8 x9 x10) (m1 := m2) (by simp [e2]) ?_
  refine sq_of (e1 := E11 (some (.lst (ils ns))) (some (.int t)) (some (.loc m.length)) (some (.tup (pcs l))) x4 x5 (some (.int p)) (some (.int s)) (some (prD ps ws os)) (some (prD ps' ws' os')) x10) (m1 := m4) (by simp [e3, e4]) ?_
  refine sq_of (e1 := E11 (some (.lst (ils ns))) (some (.int t)) (some (.loc m.length)) (some (.tup (pcs l))) (some (Pr ps ws os)) x5 (some (.int p)) (some (.int s)) (some (prD ps ws os)) (some (prD ps' ws' os')) x10) (m1 := m4) (by
    rw [sSet_ap, eCallB_ap, aCons_ap, cc]
    simp [pr_1, pr_2, wl, mk]) ?_
  refine sq_of (e1 := E11 (some (.lst (ils ns))) (some (.int t)) (some (.loc m.length)) (some (.tup (pcs l))) (some (Pr ps ws os)) x5 (some (.int p)) (some (.int s)) (some (prD ps ws os)) (some (prD ps' ws' os')) x10) (m1 := m4) (by
    have ll : listD [prD ps ws os] m4 = .ok (.lst [.tup (tps ps), .tup (ils ws), .tup (ils os)]) m4 := rfl
    have nl := ne_prL (ps := ps) (ws := ws) (os := os) m4
    simp [r1, r2, r3, ll, ownE_lst, nl]) ?_
  refine sq_of lp ?_
  refine sq_of (e1 := E11 (some (.lst (ils ns))) (some (.int t)) (some (.loc m.length)) (some (.tup (pcs l))) (some (Pr ps ws os)) y5 (some (.int p)) (some (.int s)) (some (prD ps ws os)) (some (prD ps' ws' os')) x10) (m1 := m4) (by
    have o1 := ownE_Pr (ps := ps) (ws := ws) (os := os) (ps' := ps) (ws' := ws) (os' := os) (neg := true) (g0 := neD) m4
    have o2 : ownE [0, 1, 2, 3, 4] tE false eqD (Pr ps ws os) (prD ps ws os) m4 = .ok (.bl (false != false)) m4 := ownE_Prt _ m4
    simp only [decide_true, Bool.and_self, bne_self_eq_false] at o1 o2
    simp [pr_0, pr_1, pr_2, mt, o1, o2]) ?_
  refine sq_of (e1 := E11 (some (.lst (ils ns))) (some (.int t)) (some (.loc m.length)) (some (.tup (pcs l))) (some (Pr ps ws os)) y5 (some (.int p)) (some (.int s)) (some (prD ps ws os)) (some (prD ps' ws' os')) x10) (m1 := m4) (by
    have o1 := ownE_Pr (ps := ps) (ws := ws) (os := os) (ps' := ps') (ws' := ws') (os' := os') (neg := false) (g0 := eqD) m4
    have o2 : ownE [0, 1, 2, 3, 4] tE false eqD (prD ps ws os) (prD ps' ws' os') m4 = eqD (prD ps ws os) (prD ps' ws' os') m4 := ownE_no rfl
    have o3 := eq_prD (ps := ps) (ws := ws) (os := os) (ps' := ps') (ws' := ws') (os' := os') m4
    generalize (decide (ps = ps') && (decide (ws = ws') && decide (os = os'))) = bb at o1 o3
    have o4 : ∀ b : Bool, neD (.bl b) (.bl b) m4 = .ok (.bl false) m4 := fun b => by cases b <;> exact ne_self _ (x := .bool _) rfl (by decide)
    rw [o3] at o2
    simp [pr_0, pr_1, pr_2, mt', o1, o2, ownE_bl, o4]) ?_
  simp [fr]
theorem law_true : ∀ ns : List Int, ns.length ≤ 63 → ∃ m', d_law [.lst (ns.map .int)] [] = .ok (.bl true) m' := by
  intro ns hn
  have hr : iRg1 (aCons (eCallB maxD (aCons (eC (.int 1)) (aCons (eCallB minD (aCons (eCallB lenD (aCons (eVar 0) aNil)) (aCons (eC (.int 12)) aNil))) aNil))) aNil) (E11 (some (.lst (ils ns))) none none none none none none none none none none) [] = .ok ⟨rngI 0 (if (if (12 : Int) < ns.length then 12 else (ns.length : Int)) > 1 then (if (12 : Int) < ns.length then 12 else (ns.length : Int)) else 1).toNat, []⟩ [] := by
    refine iRg1_ap _ _ _ (by simp) ?_ ?_
    · split <;> split <;> omega
    · split <;> split <;> omega
  generalize (if (if (12 : Int) < ns.length then 12 else (ns.length : Int)) > 1 then (if (12 : Int) < ns.length then 12 else (ns.length : Int)) else 1).toNat = k at hr
  obtain ⟨e', m', hf, y1, y2, y3, y4, y5, y6, y7, y8, y9, y10, rfl⟩ := forL_chg (src := rngI 0 k) (g := gNm 1) (b := lb_law_2) (fun _ e _ => ∃ y1 y2 y3 y4 y5 y6 y7 y8 y9 y10, e = E11 (some (.lst (ils ns))) y1 y2 y3 y4 y5 y6 y7 y8 y9 y10) (rngI 0 k) (E11 (some (.lst (ils ns))) none none none none none none none none none none) [] ⟨none, none, none, none, none, none, none, none, none, none, rfl⟩ (by
    rintro j d e m' hj ⟨y1, y2, y3, y4, y5, y6, y7, y8, y9, y10, rfl⟩
    obtain ⟨hjl, rfl⟩ := rng_get hj
    obtain ⟨z2, z3, z4, z5, z6, z7, z8, z9, m2, hb⟩ := turn_ok (ns := ns) (t := j) (m := m') (x2 := y2) (x3 := y3) (x4 := y4) (x5 := y5) (x6 := y6) (x7 := y7) (x8 := y8) (x9 := y9) (x10 := y10)
    exact ⟨_, _, _, _, rfl, .inl hb, _, _, _, _, _, _, _, _, _, _, rfl⟩)
  have hb : b_law (startD 11 [.lst (ils ns)]) [] = .ok (.rt (.bl true)) m' := by
    have q := fr_of (b := lb_law_2) hr hf
    exact sq_of (e1 := E11 (some (.lst (ils ns))) y1 y2 y3 y4 y5 y6 y7 y8 y9 y10) (m1 := m') q rfl
  have e : (ns.map D.int) = ils ns := rfl
  rw [e]
  by_cases ht : (trimOk [] m' && (D.bl true).und 0) = true
  · exact ⟨_, by simp only [d_law, fnD, scopeM, runB, bind_ap, hb, thn_ok, pure_ap]; exact if_pos ht⟩
  · exact ⟨_, by simp only [d_law, fnD, scopeM, runB, bind_ap, hb, thn_ok, pure_ap]; exact if_neg ht⟩
end turn
end LW
namespace LW
open PySem L2 DL PyProof.Rows
def top (i : Nat) : Stmt := PySem.Challenge.pw_leastreads_k13_prices_of_reads.main.body.getD i (.Pass ⟨0, 0, 0, 0⟩)
abbrev s_source : Stmt := (top 51)
abbrev s_draw : Stmt := (top 52)
abbrev s_pick : Stmt := (top 53)
abbrev s_form : Stmt := (top 57)
abbrev s_factors : Stmt := (top 56)
abbrev s_pieces : Stmt := (top 58)
abbrev s_prices : Stmt := (top 65)
abbrev s_is_row : Stmt := (top 42)
abbrev s_is_between : Stmt := (top 24)
abbrev s_is_price : Stmt := (top 47)
abbrev s_is_prices : Stmt := (top 48)
abbrev s_Prices_init : Stmt := (inClass (top 49) 1)
abbrev s_Prices_parts : Stmt := (inClass (top 49) 2)
abbrev s_Prices_wholes : Stmt := (inClass (top 49) 3)
abbrev s_Prices_opens : Stmt := (inClass (top 49) 4)
abbrev s_Prices_eq : Stmt := (inClass (top 49) 12)
abbrev s_Table_eq : Stmt := (inClass (top 44) 10)
abbrev s_Stored_eq : Stmt := (inClass (top 37) 8)
abbrev s_Space_eq : Stmt := (inClass (top 32) 9)
abbrev s_Sum_eq : Stmt := (inClass (top 29) 13)
abbrev s_spots : Stmt := (top 59)
abbrev s_sets : Stmt := (top 60)
abbrev s_Prices_has_price : Stmt := (inClass (top 49) 7)
abbrev s_Prices_require : Stmt := (inClass (top 49) 8)
abbrev s_Prices_bill : Stmt := (inClass (top 49) 9)
abbrev s_Prices_call : Stmt := (inClass (top 49) 10)
abbrev s_cost : Stmt := (top 66)
abbrev s_Prices_paid : Stmt := (inClass (top 49) 11)
abbrev s_paid : Stmt := (top 67)
abbrev s_is_integer : Stmt := (top 25)
abbrev s_is_prime : Stmt := (top 26)
abbrev s_power : Stmt := (top 20)
abbrev s_is_size : Stmt := (top 27)
abbrev s_is_data : Stmt := (top 28)
abbrev s_require_pieces : Stmt := (top 43)
abbrev s_Table_init : Stmt := (inClass (top 44) 1)
abbrev s_Table_pieces : Stmt := (inClass (top 44) 4)
abbrev s_Stored_pieces : Stmt := (inClass (top 37) 2)
abbrev s_Prices_fits : Stmt := (inClass (top 49) 6)
abbrev s_Table_prime : Stmt := (inClass (top 44) 2)
abbrev s_Space_prime : Stmt := (inClass (top 32) 2)
abbrev s_Sum_prime : Stmt := (inClass (top 29) 3)
abbrev s_Stored_fits : Stmt := (inClass (top 37) 11)
abbrev s_fits_right : Stmt := (top 69)
abbrev s_law : Stmt := (top 70)
abbrev s_E8 : Stmt := (inClass (top 5) 0)
abbrev s_E9 : Stmt := (inClass (top 6) 0)
abbrev s_E11 : Stmt := (inClass (top 8) 0)
abbrev s_E12 : Stmt := (inClass (top 9) 0)
structure Txt (P : Program) (k : Kx) (ad ca ta : Nat → Addr) (K : PySem.W.Frag) (mg : Str → Option Value) : Prop where
  f_source : FA K "_law_source" "_law_source" s_source ["_law_script", "_law_turn"] (ad 93)
  m_source : mg "_law_source" = some (.ref (ad 93))
  f_draw : FA K "_law_draw" "_law_draw" s_draw ["_law_source_here", "_law_amount"] (ad 94)
  m_draw : mg "_law_draw" = some (.ref (ad 94))
  f_pick : FA K "_law_pick" "_law_pick" s_pick ["_law_source_here", "_law_items"] (ad 95)
  m_pick : mg "_law_pick" = some (.ref (ad 95))
  f_form : FA K "_law_form" "_law_form" s_form ["_law_source_here"] (ad 99)
  m_form : mg "_law_form" = some (.ref (ad 99))
  f_factors : FA K "_law_factors" "_law_factors" s_factors ["_law_source_here", "_law_prime", "_law_size"] (ad 98)
  m_factors : mg "_law_factors" = some (.ref (ad 98))
  f_pieces : FA K "_law_pieces" "_law_pieces" s_pieces ["_law_source_here", "_law_prime", "_law_size", "_law_most"] (ad 100)
  m_pieces : mg "_law_pieces" = some (.ref (ad 100))
  f_prices : FA K "_law_prices" "_law_prices" s_prices ["_law_source_here", "_law_pieces_here"] (ad 107)
  m_prices : mg "_law_prices" = some (.ref (ad 107))
  f_is_row : FA K "is_row" "is_row" s_is_row ["value"] (ad 58)
  m_is_row : mg "is_row" = some (.ref (ad 58))
  f_is_between : FA K "is_between" "is_between" s_is_between ["value", "low", "high"] (ad 10)
  m_is_between : mg "is_between" = some (.ref (ad 10))
  f_is_price : FA K "is_price" "is_price" s_is_price ["value"] (ad 79)
  m_is_price : mg "is_price" = some (.ref (ad 79))
  f_is_prices : FA K "is_prices" "is_prices" s_is_prices ["value", "low", "high"] (ad 80)
  m_is_prices : mg "is_prices" = some (.ref (ad 80))
  f_Prices_init : FA K "__init__" "Prices.__init__" s_Prices_init ["self", "parts", "wholes", "opens"] (ad 81)
  f_Prices_parts : FA K "parts" "Prices.parts" s_Prices_parts ["self"] (ad 82)
  f_Prices_wholes : FA K "wholes" "Prices.wholes" s_Prices_wholes ["self"] (ad 83)
  f_Prices_opens : FA K "opens" "Prices.opens" s_Prices_opens ["self"] (ad 84)
  f_Prices_eq : FA K "__eq__" "Prices.__eq__" s_Prices_eq ["self", "other"] (ad 92)
  f_Table_eq : FA K "__eq__" "Table.__eq__" s_Table_eq ["self", "other"] (ad 69)
  f_Stored_eq : FA K "__eq__" "Stored.__eq__" s_Stored_eq ["self", "other"] (ad 53)
  f_Space_eq : FA K "__eq__" "Space.__eq__" s_Space_eq ["self", "other"] (ad 37)
  f_Sum_eq : FA K "__eq__" "Sum.__eq__" s_Sum_eq ["self", "other"] (ad 27)
  f_spots : FA K "_law_spots" "_law_spots" s_spots ["_law_pieces_here"] (ad 101)
  m_spots : mg "_law_spots" = some (.ref (ad 101))
  f_sets : FA K "_law_sets" "_law_sets" s_sets ["_law_items"] (ad 102)
  fc_102 : FC K "_law_sets" "_law_sets" s_sets ["_law_items"] (ad 102) (ca 102)
  m_sets : mg "_law_sets" = some (.ref (ad 102))
  f_Prices_has_price : FA K "has_price" "Prices.has_price" s_Prices_has_price ["self", "spot"] (ad 87)
  f_Prices_require : FA K "require" "Prices.require" s_Prices_require ["self", "spots"] (ad 88)
  f_Prices_bill : FA K "bill" "Prices.bill" s_Prices_bill ["self", "spots"] (ad 89)
  f_Prices_call : FA K "__call__" "Prices.__call__" s_Prices_call ["self", "spots"] (ad 90)
  f_cost : FA K "_law_cost" "_law_cost" s_cost ["_law_prices_here", "_law_spots_here"] (ad 108)
  m_cost : mg "_law_cost" = some (.ref (ad 108))
  f_Prices_paid : FA K "paid" "Prices.paid" s_Prices_paid ["self", "spots"] (ad 91)
  f_paid : FA K "_law_paid" "_law_paid" s_paid ["_law_prices_here", "_law_spots_here"] (ad 109)
  m_paid : mg "_law_paid" = some (.ref (ad 109))
  f_is_integer : FA K "is_integer" "is_integer" s_is_integer ["value"] (ad 11)
  m_is_integer : mg "is_integer" = some (.ref (ad 11))
  f_is_prime : FA K "is_prime" "is_prime" s_is_prime ["value"] (ad 12)
  m_is_prime : mg "is_prime" = some (.ref (ad 12))
  f_power : FA K "power" "power" s_power ["base", "exponent"] (ad 9)
  m_power : mg "power" = some (.ref (ad 9))
  f_is_size : FA K "is_size" "is_size" s_is_size ["prime", "value"] (ad 13)
  m_is_size : mg "is_size" = some (.ref (ad 13))
  f_is_data : FA K "is_data" "is_data" s_is_data ["prime", "size", "value"] (ad 14)
  m_is_data : mg "is_data" = some (.ref (ad 14))
  f_require_pieces : FA K "require_pieces" "require_pieces" s_require_pieces ["prime", "size", "pieces"] (ad 59)
  m_require_pieces : mg "require_pieces" = some (.ref (ad 59))
  f_Table_init : FA K "__init__" "Table.__init__" s_Table_init ["self", "prime", "size", "pieces"] (ad 60)
  f_Table_pieces : FA K "pieces" "Table.pieces" s_Table_pieces ["self"] (ad 63)
  f_Stored_pieces : FA K "pieces" "Stored.pieces" s_Stored_pieces ["self"] (ad 47)
  f_Prices_fits : FA K "fits" "Prices.fits" s_Prices_fits ["self", "table"] (ad 86)
  f_Table_prime : FA K "prime" "Table.prime" s_Table_prime ["self"] (ad 61)
  f_Space_prime : FA K "prime" "Space.prime" s_Space_prime ["self"] (ad 30)
  f_Sum_prime : FA K "prime" "Sum.prime" s_Sum_prime ["self"] (ad 17)
  f_Stored_fits : FA K "fits" "Stored.fits" s_Stored_fits ["self", "table"] (ad 56)
  f_fits_right : FA K "_law_fits_right" "_law_fits_right" s_fits_right ["_law_prime", "_law_size", "_law_pieces_here", "_law_paying"] (ad 111)
  m_fits_right : mg "_law_fits_right" = some (.ref (ad 111))
  f_law : FA K "law" "law" s_law ["_law_script"] (ad 112)
  m_law : mg "law" = some (.ref (ad 112))
  er_8 : ∃ fI, ErrC P K s_E8 "InvalidSpots.__init__" "self" "value" "value" (k.cl 8) fI
  xf_8 : k.xf 8 = [("value" : Str)]
  ge_8 : mg "InvalidSpots" = some (.ref (k.cl 8))
  er_9 : ∃ fI, ErrC P K s_E9 "InvalidCost.__init__" "self" "value" "value" (k.cl 9) fI
  xf_9 : k.xf 9 = [("value" : Str)]
  ge_9 : mg "InvalidCost" = some (.ref (k.cl 9))
  er_11 : ∃ fI, ErrC P K s_E11 "InvalidNumber.__init__" "self" "value" "value" (k.cl 11) fI
  xf_11 : k.xf 11 = [("value" : Str)]
  ge_11 : mg "InvalidNumber" = some (.ref (k.cl 11))
  er_12 : ∃ fI, ErrC P K s_E12 "InvalidTable.__init__" "self" "place" "place" (k.cl 12) fI
  xf_12 : k.xf 12 = [("place" : Str)]
  ge_12 : mg "InvalidTable" = some (.ref (k.cl 12))
  cl_0 : SlX.SCls K (k.cl 0)
  cl_1 : SlX.SCls K (k.cl 1)
  cl_2 : SlX.SCls K (k.cl 2)
  cl_3 : SlX.SCls K (k.cl 3)
  cl_4 : SlX.SCls K (k.cl 4)
  co_4 : StX.CallO K (k.cl 4) (ad 90)
  g_MOST_DATA : GlD k K mg "MOST_DATA" (.int 4096)
  g_MOST_PARTS : GlD k K mg "MOST_PARTS" (.int 3)
  g_MOST_PIECES : GlD k K mg "MOST_PIECES" (.int 6)
  g_MOST_PRICE : GlD k K mg "MOST_PRICE" (.int 1000)
  g_MOST_SPOTS : GlD k K mg "MOST_SPOTS" (.int 10)
  g_PRIMES : GlD k K mg "PRIMES" (.tup (([2, 3, 5, 7] : List Int).map .int))
  g_Prices : mg "Prices" = some (.ref (k.cl 4))
  g_Space : mg "Space" = some (.ref (k.cl 1))
  g_Stored : mg "Stored" = some (.ref (k.cl 2))
  g_Sum : mg "Sum" = some (.ref (k.cl 0))
  g_Table : mg "Table" = some (.ref (k.cl 3))
  is_0 : SlX.SIsi K (k.cl 0)
  is_1 : SlX.SIsi K (k.cl 1)
  is_2 : SlX.SIsi K (k.cl 2)
  is_3 : SlX.SIsi K (k.cl 3)
  is_4 : SlX.SIsi K (k.cl 4)
  kas_0 : PySem.W.kitAny K (.ref (k.cl 0)) [.type "list", .type "tuple"] = some false
  kas_1 : PySem.W.kitAny K (.ref (k.cl 1)) [.type "list", .type "tuple"] = some false
  kas_2 : PySem.W.kitAny K (.ref (k.cl 2)) [.type "list", .type "tuple"] = some false
  kas_3 : PySem.W.kitAny K (.ref (k.cl 3)) [.type "list", .type "tuple"] = some false
  kas_4 : PySem.W.kitAny K (.ref (k.cl 4)) [.type "list", .type "tuple"] = some false
  kb_0 : ∀ kd, (∀ c, kd ≠ .obj c) → PySem.W.kitOne K (.type (nmK kd)) (.ref (k.cl 0)) = some (isK (.cls 0) kd)
  kb_1 : ∀ kd, (∀ c, kd ≠ .obj c) → PySem.W.kitOne K (.type (nmK kd)) (.ref (k.cl 1)) = some (isK (.cls 1) kd)
  kb_2 : ∀ kd, (∀ c, kd ≠ .obj c) → PySem.W.kitOne K (.type (nmK kd)) (.ref (k.cl 2)) = some (isK (.cls 2) kd)
  kb_3 : ∀ kd, (∀ c, kd ≠ .obj c) → PySem.W.kitOne K (.type (nmK kd)) (.ref (k.cl 3)) = some (isK (.cls 3) kd)
  kb_4 : ∀ kd, (∀ c, kd ≠ .obj c) → PySem.W.kitOne K (.type (nmK kd)) (.ref (k.cl 4)) = some (isK (.cls 4) kd)
  ki_0_0 : PySem.W.kitOne K (.ref (k.cl 0)) (.ref (k.cl 0)) = some true
  ki_0_1 : PySem.W.kitOne K (.ref (k.cl 0)) (.ref (k.cl 1)) = some false
  ki_0_2 : PySem.W.kitOne K (.ref (k.cl 0)) (.ref (k.cl 2)) = some false
  ki_0_3 : PySem.W.kitOne K (.ref (k.cl 0)) (.ref (k.cl 3)) = some false
  ki_0_4 : PySem.W.kitOne K (.ref (k.cl 0)) (.ref (k.cl 4)) = some false
  ki_0_bool : PySem.W.kitOne K (.ref (k.cl 0)) (.type "bool") = some false
  ki_0_int : PySem.W.kitOne K (.ref (k.cl 0)) (.type "int") = some false
  ki_0_tuple : PySem.W.kitOne K (.ref (k.cl 0)) (.type "tuple") = some false
  ki_1_0 : PySem.W.kitOne K (.ref (k.cl 1)) (.ref (k.cl 0)) = some false
  ki_1_1 : PySem.W.kitOne K (.ref (k.cl 1)) (.ref (k.cl 1)) = some true
  ki_1_2 : PySem.W.kitOne K (.ref (k.cl 1)) (.ref (k.cl 2)) = some false
  ki_1_3 : PySem.W.kitOne K (.ref (k.cl 1)) (.ref (k.cl 3)) = some false
  ki_1_4 : PySem.W.kitOne K (.ref (k.cl 1)) (.ref (k.cl 4)) = some false
  ki_1_bool : PySem.W.kitOne K (.ref (k.cl 1)) (.type "bool") = some false
  ki_1_int : PySem.W.kitOne K (.ref (k.cl 1)) (.type "int") = some false
  ki_1_tuple : PySem.W.kitOne K (.ref (k.cl 1)) (.type "tuple") = some false
  ki_2_0 : PySem.W.kitOne K (.ref (k.cl 2)) (.ref (k.cl 0)) = some false
  ki_2_1 : PySem.W.kitOne K (.ref (k.cl 2)) (.ref (k.cl 1)) = some false
  ki_2_2 : PySem.W.kitOne K (.ref (k.cl 2)) (.ref (k.cl 2)) = some true
  ki_2_3 : PySem.W.kitOne K (.ref (k.cl 2)) (.ref (k.cl 3)) = some false
  ki_2_4 : PySem.W.kitOne K (.ref (k.cl 2)) (.ref (k.cl 4)) = some false
  ki_2_bool : PySem.W.kitOne K (.ref (k.cl 2)) (.type "bool") = some false
  ki_2_int : PySem.W.kitOne K (.ref (k.cl 2)) (.type "int") = some false
  ki_2_tuple : PySem.W.kitOne K (.ref (k.cl 2)) (.type "tuple") = some false
  ki_3_0 : PySem.W.kitOne K (.ref (k.cl 3)) (.ref (k.cl 0)) = some false
  ki_3_1 : PySem.W.kitOne K (.ref (k.cl 3)) (.ref (k.cl 1)) = some false
  ki_3_2 : PySem.W.kitOne K (.ref (k.cl 3)) (.ref (k.cl 2)) = some false
  ki_3_3 : PySem.W.kitOne K (.ref (k.cl 3)) (.ref (k.cl 3)) = some true
  ki_3_4 : PySem.W.kitOne K (.ref (k.cl 3)) (.ref (k.cl 4)) = some false
  ki_3_bool : PySem.W.kitOne K (.ref (k.cl 3)) (.type "bool") = some false
  ki_3_int : PySem.W.kitOne K (.ref (k.cl 3)) (.type "int") = some false
  ki_3_tuple : PySem.W.kitOne K (.ref (k.cl 3)) (.type "tuple") = some false
  ki_4_0 : PySem.W.kitOne K (.ref (k.cl 4)) (.ref (k.cl 0)) = some false
  ki_4_1 : PySem.W.kitOne K (.ref (k.cl 4)) (.ref (k.cl 1)) = some false
  ki_4_2 : PySem.W.kitOne K (.ref (k.cl 4)) (.ref (k.cl 2)) = some false
  ki_4_3 : PySem.W.kitOne K (.ref (k.cl 4)) (.ref (k.cl 3)) = some false
  ki_4_4 : PySem.W.kitOne K (.ref (k.cl 4)) (.ref (k.cl 4)) = some true
  ki_4_bool : PySem.W.kitOne K (.ref (k.cl 4)) (.type "bool") = some false
  ki_4_int : PySem.W.kitOne K (.ref (k.cl 4)) (.type "int") = some false
  ki_4_tuple : PySem.W.kitOne K (.ref (k.cl 4)) (.type "tuple") = some false
  me_0_eq : Meth K (k.cl 0) "__eq__" (ad 27)
  me_1_eq : Meth K (k.cl 1) "__eq__" (ad 37)
  me_2_eq : Meth K (k.cl 2) "__eq__" (ad 53)
  me_2_fits : Meth K (k.cl 2) "fits" (ad 56)
  me_3_eq : Meth K (k.cl 3) "__eq__" (ad 69)
  me_4_eq : Meth K (k.cl 4) "__eq__" (ad 92)
  me_4_bill : Meth K (k.cl 4) "bill" (ad 89)
  me_4_fits : Meth K (k.cl 4) "fits" (ad 86)
  me_4_has_price : Meth K (k.cl 4) "has_price" (ad 87)
  me_4_paid : Meth K (k.cl 4) "paid" (ad 91)
  me_4_require : Meth K (k.cl 4) "require" (ad 88)
  mk_3 : Mk K (k.cl 3) (ad 60)
  mk_4 : Mk K (k.cl 4) (ad 81)
  nb_0 : ∀ kd, (∀ c, kd ≠ .obj c) → PySem.W.notFirst K (k.cl 0) (.type (nmK kd)) = true
  nb_1 : ∀ kd, (∀ c, kd ≠ .obj c) → PySem.W.notFirst K (k.cl 1) (.type (nmK kd)) = true
  nb_2 : ∀ kd, (∀ c, kd ≠ .obj c) → PySem.W.notFirst K (k.cl 2) (.type (nmK kd)) = true
  nb_3 : ∀ kd, (∀ c, kd ≠ .obj c) → PySem.W.notFirst K (k.cl 3) (.type (nmK kd)) = true
  nb_4 : ∀ kd, (∀ c, kd ≠ .obj c) → PySem.W.notFirst K (k.cl 4) (.type (nmK kd)) = true
  ne_0 : PySem.W.findIn K (.ref (k.cl 0)) "__ne__" = some (some (.builtin "object.__ne__"))
  ne_1 : PySem.W.findIn K (.ref (k.cl 1)) "__ne__" = some (some (.builtin "object.__ne__"))
  ne_2 : PySem.W.findIn K (.ref (k.cl 2)) "__ne__" = some (some (.builtin "object.__ne__"))
  ne_3 : PySem.W.findIn K (.ref (k.cl 3)) "__ne__" = some (some (.builtin "object.__ne__"))
  ne_4 : PySem.W.findIn K (.ref (k.cl 4)) "__ne__" = some (some (.builtin "object.__ne__"))
  nf_0_0 : PySem.W.notFirst K (k.cl 0) (.ref (k.cl 0)) = true
  nf_0_1 : PySem.W.notFirst K (k.cl 0) (.ref (k.cl 1)) = true
  nf_0_2 : PySem.W.notFirst K (k.cl 0) (.ref (k.cl 2)) = true
  nf_0_3 : PySem.W.notFirst K (k.cl 0) (.ref (k.cl 3)) = true
  nf_0_4 : PySem.W.notFirst K (k.cl 0) (.ref (k.cl 4)) = true
  nf_1_0 : PySem.W.notFirst K (k.cl 1) (.ref (k.cl 0)) = true
  nf_1_1 : PySem.W.notFirst K (k.cl 1) (.ref (k.cl 1)) = true
  nf_1_2 : PySem.W.notFirst K (k.cl 1) (.ref (k.cl 2)) = true
  nf_1_3 : PySem.W.notFirst K (k.cl 1) (.ref (k.cl 3)) = true
  nf_1_4 : PySem.W.notFirst K (k.cl 1) (.ref (k.cl 4)) = true
  nf_2_0 : PySem.W.notFirst K (k.cl 2) (.ref (k.cl 0)) = true
  nf_2_1 : PySem.W.notFirst K (k.cl 2) (.ref (k.cl 1)) = true
  nf_2_2 : PySem.W.notFirst K (k.cl 2) (.ref (k.cl 2)) = true
  nf_2_3 : PySem.W.notFirst K (k.cl 2) (.ref (k.cl 3)) = true
  nf_2_4 : PySem.W.notFirst K (k.cl 2) (.ref (k.cl 4)) = true
  nf_3_0 : PySem.W.notFirst K (k.cl 3) (.ref (k.cl 0)) = true
  nf_3_1 : PySem.W.notFirst K (k.cl 3) (.ref (k.cl 1)) = true
  nf_3_2 : PySem.W.notFirst K (k.cl 3) (.ref (k.cl 2)) = true
  nf_3_3 : PySem.W.notFirst K (k.cl 3) (.ref (k.cl 3)) = true
  nf_3_4 : PySem.W.notFirst K (k.cl 3) (.ref (k.cl 4)) = true
  nf_4_0 : PySem.W.notFirst K (k.cl 4) (.ref (k.cl 0)) = true
  nf_4_1 : PySem.W.notFirst K (k.cl 4) (.ref (k.cl 1)) = true
  nf_4_2 : PySem.W.notFirst K (k.cl 4) (.ref (k.cl 2)) = true
  nf_4_3 : PySem.W.notFirst K (k.cl 4) (.ref (k.cl 3)) = true
  nf_4_4 : PySem.W.notFirst K (k.cl 4) (.ref (k.cl 4)) = true
  pr_0_prime : PrA K (k.cl 0) "prime" (ad 17)
  pr_1_prime : PrA K (k.cl 1) "prime" (ad 30)
  pr_2_pieces : PrA K (k.cl 2) "pieces" (ad 47)
  pr_3_pieces : PrA K (k.cl 3) "pieces" (ad 63)
  pr_3_prime : PrA K (k.cl 3) "prime" (ad 61)
  pr_4_opens : PrA K (k.cl 4) "opens" (ad 84)
  pr_4_parts : PrA K (k.cl 4) "parts" (ad 82)
  pr_4_wholes : PrA K (k.cl 4) "wholes" (ad 83)
  sl_0_own_prime : ∃ p, SlX.Slot1 K (k.cl 0) "own_prime" p 0
  sl_0_row : ∃ p, SlX.Slot1 K (k.cl 0) "row" p 1
  sl_1_own_prime : ∃ p, SlX.Slot1 K (k.cl 1) "own_prime" p 1
  sl_1_own_size : ∃ p, SlX.Slot1 K (k.cl 1) "own_size" p 2
  sl_1_rows : ∃ p, SlX.Slot1 K (k.cl 1) "rows" p 3
  sl_2_own_pieces : ∃ p, SlX.Slot1 K (k.cl 2) "own_pieces" p 0
  sl_3_own_pieces : ∃ p, SlX.Slot1 K (k.cl 3) "own_pieces" p 0
  sl_3_own_prime : ∃ p, SlX.Slot1 K (k.cl 3) "own_prime" p 1
  sl_3_own_size : ∃ p, SlX.Slot1 K (k.cl 3) "own_size" p 2
  sl_3_own_spots : ∃ p, SlX.Slot1 K (k.cl 3) "own_spots" p 3
  sl_4_open_prices : ∃ p, SlX.Slot1 K (k.cl 4) "open_prices" p 0
  sl_4_part_prices : ∃ p, SlX.Slot1 K (k.cl 4) "part_prices" p 1
  sl_4_whole_prices : ∃ p, SlX.Slot1 K (k.cl 4) "whole_prices" p 2
  tm_102 : (ta 102, (("_law_sets" : Str) ++ ".<locals>.") ++ "<lambda>") ∈ k.tb
  tu_102 : ∀ p ∈ k.tb, p.1 = ta 102 → p.2 = (("_law_sets" : Str) ++ ".<locals>.") ++ "<lambda>"
  z_all : mg "all" = none
  z_any : mg "any" = none
  z_bool : mg "bool" = none
  z_enumerate : mg "enumerate" = none
  z_int : mg "int" = none
  z_isinstance : mg "isinstance" = none
  z_len : mg "len" = none
  z_list : mg "list" = none
  z_max : mg "max" = none
  z_min : mg "min" = none
  z_range : mg "range" = none
  z_sorted : mg "sorted" = none
  z_sum : mg "sum" = none
  z_tuple : mg "tuple" = none
  z_zip : mg "zip" = none
def TBs (ca ta : Nat → Addr) (base : Heap) (mg : Str → Option Value) : Prop := SysD base ∧ ∀ i ∈ ([102] : List Nat), LamX.TabB base mg (ca i) (ta i)
section
variable {P : Program} {w : World} {k : Kx} {ad ca ta : Nat → Addr} {K : PySem.W.Frag} {mg : Str → Option Value} {base : Heap}
theorem sc_source : FnScope ["_law_script", "_law_turn", "_law_cell", "_law_number", "_law_seed"] ["_law_script", "_law_turn"] (defScope s_source) := ⟨rfl, rfl, rfl, by decide +kernel, rfl, by decide +kernel, by decide +kernel⟩
theorem ok_source (T : Txt P k ad ca ta K mg) : FnR P w K mg base (L2.CX P w) 1 (ad 93) (spD k K 2 d_source) :=
  fnr_ok (N := ["_law_script", "_law_turn", "_law_cell", "_law_number", "_law_seed"]) (ps := ["_law_script", "_law_turn"]) (lvl := 0) (m := b_source) T.f_source sc_source (fun cdv A outer s H E hr =>
  (jb_cons (js_set 2 sc_source.nd rfl (by first | exact Or.inl rfl | exact Or.inr rfl) j_int)
  (jb_cons (js_if (jt_cmp (b_lt hr.units0) (j_var 1) (j_callB f_len rfl T.z_len (by decide +kernel) (ja_cons (j_var 0) ja_nil)) (nomark _)) (jb_one (js_set 2 sc_source.nd rfl (by first | exact Or.inl rfl | exact Or.inr rfl) (j_ix (j_var 0) (j_var 1) (fun _ _ => rfl)))) jb_nil)
  (jb_cons (js_set 3 sc_source.nd rfl (by first | exact Or.inl rfl | exact Or.inr rfl) (j_callB (f_max rfl) rfl T.z_max (by decide +kernel) (ja_cons (j_var 2) (ja_cons (j_op b_sub (j_un u_neg j_int) (j_var 2)) ja_nil))))
  (jb_cons (js_set 4 sc_source.nd rfl (by first | exact Or.inl rfl | exact Or.inr rfl) (j_op b_mod (j_callTy f_int rfl T.z_int (by decide +kernel) (ja_cons (j_op b_add (j_op b_add (j_op b_mul (j_op b_mod (j_callTy f_int rfl T.z_int (by decide +kernel) (ja_cons (j_var 3) ja_nil)) j_int) j_int) (j_op b_mul j_int (j_var 1))) j_int) ja_nil)) j_int))
  (jb_cons (js_if (jt_cmp (b_lt hr.units0) (j_var 3) (j_op b_pow j_int j_int) (nomark _)) (jb_one (js_set 3 sc_source.nd rfl (by first | exact Or.inl rfl | exact Or.inr rfl) j_int)) jb_nil)
  (jb_one (js_ret (j_lstM (ja_cons (j_var 3) (ja_cons (j_var 4) ja_nil)))))))))))
theorem sc_draw : FnScope ["_law_source_here", "_law_amount", "_law_digit"] ["_law_source_here", "_law_amount"] (defScope s_draw) := ⟨rfl, rfl, rfl, by decide +kernel, rfl, by decide +kernel, by decide +kernel⟩
theorem ok_draw (T : Txt P k ad ca ta K mg) : FnR P w K mg base (L2.CX P w) 1 (ad 94) (spD k K 2 d_draw) :=
  fnr_ok (N := ["_law_source_here", "_law_amount", "_law_digit"]) (ps := ["_law_source_here", "_law_amount"]) (lvl := 0) (m := b_draw) T.f_draw sc_draw (fun cdv A outer s H E hr =>
  (jb_cons (js_if (jt_cmp b_gt (j_ix (j_var 0) j_int (fun _ _ => rfl)) j_int (nomark _)) (jb_cons (js_set 2 sc_draw.nd rfl (by first | exact Or.inl rfl | exact Or.inr rfl) (j_op b_mod (j_callTy f_int rfl T.z_int (by decide +kernel) (ja_cons (j_ix (j_var 0) j_int (fun _ _ => rfl)) ja_nil)) (j_var 1)))
  (jb_cons (js_setIx (j_op b_fdv (j_ix (j_var 0) j_int (fun _ _ => rfl)) (j_var 1)) (j_var 0) j_int)
  (jb_one (js_ret (j_var 2))))) jb_nil)
  (jb_cons (js_setIx (j_op b_mod (j_callTy f_int rfl T.z_int (by decide +kernel) (ja_cons (j_op b_add (j_op b_mul (j_ix (j_var 0) j_int (fun _ _ => rfl)) j_int) j_int) ja_nil)) j_int) (j_var 0) j_int)
  (jb_one (js_ret (j_op b_mod (j_callTy f_int rfl T.z_int (by decide +kernel) (ja_cons (j_op b_fdv (j_op b_mod (j_callTy f_int rfl T.z_int (by decide +kernel) (ja_cons (j_op b_mul (j_ix (j_var 0) j_int (fun _ _ => rfl)) (j_ix (j_var 0) j_int (fun _ _ => rfl))) ja_nil)) j_int) j_int) ja_nil)) (j_var 1)))))))
theorem sc_pick : FnScope ["_law_source_here", "_law_items"] ["_law_source_here", "_law_items"] (defScope s_pick) := ⟨rfl, rfl, rfl, by decide +kernel, rfl, by decide +kernel, by decide +kernel⟩
theorem ok_pick (T : Txt P k ad ca ta K mg) : FnR P w K mg base (L2.CX P w) 2 (ad 95) (spD k K 2 d_pick) :=
  fnr_ok (N := ["_law_source_here", "_law_items"]) (ps := ["_law_source_here", "_law_items"]) (lvl := 1) (m := b_pick) T.f_pick sc_pick (fun cdv A outer s H E hr =>
  (jb_one (js_ret (j_ix (j_var 1) (j_call (ok_draw (P := P) (w := w) (base := base) T) (hr.mono (by decide)) pass_def rfl T.m_draw T.f_draw.kp (ja_cons (j_var 0) (ja_cons (j_callB f_len rfl T.z_len (by decide +kernel) (ja_cons (j_var 1) ja_nil)) ja_nil))) (fun _ _ => rfl)))))
theorem sc_form : FnScope ["_law_source_here"] ["_law_source_here"] (defScope s_form) := ⟨rfl, rfl, rfl, by decide +kernel, rfl, by decide +kernel, by decide +kernel⟩
theorem ok_form (T : Txt P k ad ca ta K mg) : FnR P w K mg base (L2.CX P w) 3 (ad 99) (spD k K 1 d_form) :=
  fnr_ok (N := ["_law_source_here"]) (ps := ["_law_source_here"]) (lvl := 2) (m := b_form) T.f_form sc_form (fun cdv A outer s H E hr =>
  (jb_one (js_ret (j_call (ok_pick (P := P) (w := w) (base := base) T) (hr.mono (by decide)) pass_def rfl T.m_pick T.f_pick.kp (ja_cons (j_var 0) (ja_cons (j_lst (ja_cons (j_tup (ja_cons j_int (ja_cons j_int ja_nil))) (ja_cons (j_tup (ja_cons j_int (ja_cons j_int ja_nil))) (ja_cons (j_tup (ja_cons j_int (ja_cons j_int ja_nil))) (ja_cons (j_tup (ja_cons j_int (ja_cons j_int ja_nil))) (ja_cons (j_tup (ja_cons j_int (ja_cons j_int ja_nil))) (ja_cons (j_tup (ja_cons j_int (ja_cons j_int ja_nil))) (ja_cons (j_tup (ja_cons j_int (ja_cons j_int ja_nil))) (ja_cons (j_tup (ja_cons j_int (ja_cons j_int ja_nil))) (ja_cons (j_tup (ja_cons j_int (ja_cons j_int ja_nil))) ja_nil)))))))))) ja_nil))))))
theorem sc_factors : FnScope ["_law_source_here", "_law_prime", "_law_size", "_law_place"] ["_law_source_here", "_law_prime", "_law_size"] (defScope s_factors) := ⟨rfl, rfl, rfl, by decide +kernel, rfl, by decide +kernel, by decide +kernel⟩
theorem ok_factors (T : Txt P k ad ca ta K mg) : FnR P w K mg base (L2.CX P w) 2 (ad 98) (spD k K 3 d_factors) :=
  fnr_ok (N := ["_law_source_here", "_law_prime", "_law_size", "_law_place"]) (ps := ["_law_source_here", "_law_prime", "_law_size"]) (lvl := 1) (m := b_factors) T.f_factors sc_factors (fun cdv A outer s H E hr =>
  (jb_one (js_ret (j_callTy f_tuple rfl T.z_tuple (by decide +kernel) (ja_cons (j_comp (own := [("_law_place", 3)]) (by decide) rfl sc_factors.nd (ji_range1 rfl T.z_range (ja_cons (j_var 2) ja_nil)) (blkOk_by (N := ["_law_source_here", "_law_prime", "_law_size", "_law_place"]) (sc := defScope s_factors) (by decide +kernel)) (fun _ _ _ _ _ => (jg_name 3 sc_factors.nd rfl (by first | exact Or.inl rfl | exact Or.inr rfl))) (fun _ _ _ _ _ => jts_nil) (fun _ _ _ _ _ => (j_call (ok_draw (P := P) (w := w) (base := base) T) (hr.mono (by decide)) passL rfl T.m_draw T.f_draw.kp (ja_cons (j_var 0) (ja_cons (j_var 1) ja_nil))))) ja_nil)))))
theorem sc_pieces : FnScope ["_law_source_here", "_law_prime", "_law_size", "_law_most", "_law_pieces_here", "_law_index", "_law_parts", "_law_part"] ["_law_source_here", "_law_prime", "_law_size", "_law_most"] (defScope s_pieces) := ⟨rfl, rfl, rfl, by decide +kernel, rfl, by decide +kernel, by decide +kernel⟩
theorem ok_pieces (T : Txt P k ad ca ta K mg) : FnR P w K mg base (L2.CX P w) 3 (ad 100) (spD k K 4 d_pieces) :=
  fnr_ok (N := ["_law_source_here", "_law_prime", "_law_size", "_law_most", "_law_pieces_here", "_law_index", "_law_parts", "_law_part"]) (ps := ["_law_source_here", "_law_prime", "_law_size", "_law_most"]) (lvl := 2) (m := b_pieces) T.f_pieces sc_pieces (fun cdv A outer s H E hr =>
  (jb_cons (js_set 4 sc_pieces.nd rfl (by first | exact Or.inl rfl | exact Or.inr rfl) (j_lstM ja_nil))
  (jb_cons (js_for (passes_of rfl) rfl (ji_range1 rfl T.z_range (ja_cons (j_op b_add j_int (j_call (ok_draw (P := P) (w := w) (base := base) T) (hr.mono (by decide)) pass_def rfl T.m_draw T.f_draw.kp (ja_cons (j_var 0) (ja_cons (j_op b_sub (j_var 3) j_int) ja_nil)))) ja_nil)) (jg_name 5 sc_pieces.nd rfl (by first | exact Or.inl rfl | exact Or.inr rfl))
  (jb_cons (js_set 6 sc_pieces.nd rfl (by first | exact Or.inl rfl | exact Or.inr rfl) (j_op b_add j_int (j_callTy f_int rfl T.z_int (by decide +kernel) (ja_cons (j_cmp (b_eq hr.units) (j_call (ok_draw (P := P) (w := w) (base := base) T) (hr.mono (by decide)) pass_def rfl T.m_draw T.f_draw.kp (ja_cons (j_var 0) (ja_cons j_int ja_nil))) j_int (nomark _)) ja_nil))))
  (jb_one (js_expr (j_app (j_var 4) (j_callTy f_tuple rfl T.z_tuple (by decide +kernel) (ja_cons (j_comp (own := [("_law_part", 7)]) (by decide) rfl sc_pieces.nd (ji_range1 rfl T.z_range (ja_cons (j_var 6) ja_nil)) (blkOk_by (N := ["_law_source_here", "_law_prime", "_law_size", "_law_most", "_law_pieces_here", "_law_index", "_law_parts", "_law_part"]) (sc := defScope s_pieces) (by decide +kernel)) (fun _ _ _ _ _ => (jg_name 7 sc_pieces.nd rfl (by first | exact Or.inl rfl | exact Or.inr rfl))) (fun _ _ _ _ _ => jts_nil) (fun _ _ _ _ _ => (j_call (ok_factors (P := P) (w := w) (base := base) T) (hr.mono (by decide)) passL rfl T.m_factors T.f_factors.kp (ja_cons (j_var 0) (ja_cons (j_var 1) (ja_cons (j_var 2) ja_nil)))))) ja_nil)))))))
  (jb_one (js_ret (j_callTy f_tuple rfl T.z_tuple (by decide +kernel) (ja_cons (j_var 4) ja_nil)))))))
theorem sc_prices : FnScope ["_law_source_here", "_law_pieces_here", "_law_most", "_law_parts", "_law_wholes", "_law_piece", "_law_part"] ["_law_source_here", "_law_pieces_here"] (defScope s_prices) := ⟨rfl, rfl, rfl, by decide +kernel, rfl, by decide +kernel, by decide +kernel⟩
theorem ok_prices (T : Txt P k ad ca ta K mg) : FnR P w K mg base (L2.CX P w) 3 (ad 107) (spD k K 2 d_prices) :=
  fnr_ok (N := ["_law_source_here", "_law_pieces_here", "_law_most", "_law_parts", "_law_wholes", "_law_piece", "_law_part"]) (ps := ["_law_source_here", "_law_pieces_here"]) (lvl := 2) (m := b_prices) T.f_prices sc_prices (fun cdv A outer s H E hr =>
  (jb_cons (js_set 2 sc_prices.nd rfl (by first | exact Or.inl rfl | exact Or.inr rfl) (j_call (ok_pick (P := P) (w := w) (base := base) T) (hr.mono (by decide)) pass_def rfl T.m_pick T.f_pick.kp (ja_cons (j_var 0) (ja_cons (j_lst (ja_cons j_int (ja_cons j_int (ja_cons j_int (ja_cons j_int ja_nil))))) ja_nil))))
  (jb_cons (js_setC (i := 3) (own := [("_law_piece", 5)]) fin_lst (by decide) rfl sc_prices.nd rfl rfl rfl (ji_seq (j_var 1)) (blkOk_by (N := ["_law_source_here", "_law_pieces_here", "_law_most", "_law_parts", "_law_wholes", "_law_piece", "_law_part"]) (sc := defScope s_prices) (by decide +kernel)) (fun _ _ _ _ _ => (jg_name 5 sc_prices.nd rfl (by first | exact Or.inl rfl | exact Or.inr rfl))) (fun _ _ _ _ _ => jts_nil) (fun _ _ _ _ _ => (j_callTy f_tuple rfl T.z_tuple (by decide +kernel) (ja_cons (j_comp (own := [("_law_part", 6)]) (by decide) rfl sc_prices.nd (ji_seq (j_var 5)) (blkOk_nest (N := ["_law_source_here", "_law_pieces_here", "_law_most", "_law_parts", "_law_wholes", "_law_piece", "_law_part"]) (by decide +kernel)) (fun _ _ _ _ _ => (jg_name 6 sc_prices.nd rfl (by first | exact Or.inl rfl | exact Or.inr rfl))) (fun _ _ _ _ _ => jts_nil) (fun _ _ _ _ _ => (j_call (ok_draw (P := P) (w := w) (base := base) T) (hr.mono (by decide)) passL rfl T.m_draw T.f_draw.kp (ja_cons (j_var 0) (ja_cons (j_var 2) ja_nil))))) ja_nil))))
  (jb_cons (js_setC (i := 4) (own := [("_law_piece", 5)]) fin_lst (by decide) rfl sc_prices.nd rfl rfl rfl (ji_seq (j_var 1)) (blkOk_by (N := ["_law_source_here", "_law_pieces_here", "_law_most", "_law_parts", "_law_wholes", "_law_piece", "_law_part"]) (sc := defScope s_prices) (by decide +kernel)) (fun _ _ _ _ _ => (jg_name 5 sc_prices.nd rfl (by first | exact Or.inl rfl | exact Or.inr rfl))) (fun _ _ _ _ _ => jts_nil) (fun _ _ _ _ _ => (j_call (ok_draw (P := P) (w := w) (base := base) T) (hr.mono (by decide)) passL rfl T.m_draw T.f_draw.kp (ja_cons (j_var 0) (ja_cons (j_op b_add (j_var 2) j_int) ja_nil)))))
  (jb_one (js_ret (j_tup (ja_cons (j_callTy f_tuple rfl T.z_tuple (by decide +kernel) (ja_cons (j_var 3) ja_nil)) (ja_cons (j_callTy f_tuple rfl T.z_tuple (by decide +kernel) (ja_cons (j_var 4) ja_nil)) (ja_cons (j_callTy f_tuple rfl T.z_tuple (by decide +kernel) (ja_cons (j_comp (own := [("_law_piece", 5)]) (by decide) rfl sc_prices.nd (ji_seq (j_var 1)) (blkOk_by (N := ["_law_source_here", "_law_pieces_here", "_law_most", "_law_parts", "_law_wholes", "_law_piece", "_law_part"]) (sc := defScope s_prices) (by decide +kernel)) (fun _ _ _ _ _ => (jg_name 5 sc_prices.nd rfl (by first | exact Or.inl rfl | exact Or.inr rfl))) (fun _ _ _ _ _ => jts_nil) (fun _ _ _ _ _ => (j_op b_mul (j_call (ok_draw (P := P) (w := w) (base := base) T) (hr.mono (by decide)) passL rfl T.m_draw T.f_draw.kp (ja_cons (j_var 0) (ja_cons j_int ja_nil))) (j_call (ok_draw (P := P) (w := w) (base := base) T) (hr.mono (by decide)) passL rfl T.m_draw T.f_draw.kp (ja_cons (j_var 0) (ja_cons j_int ja_nil)))))) ja_nil)) ja_nil))))))))))
theorem sc_is_row : FnScope ["value"] ["value"] (defScope s_is_row) := ⟨rfl, rfl, rfl, by decide +kernel, rfl, by decide +kernel, by decide +kernel⟩
theorem ok_is_row (T : Txt P k ad ca ta K mg) : FnR P w K mg base (L2.CX P w) 1 (ad 58) (spD k K 1 d_is_row) :=
  fnr_ok (N := ["value"]) (ps := ["value"]) (lvl := 0) (m := b_is_row) T.f_is_row sc_is_row (fun cdv A outer s H E hr =>
  (jb_one (js_ret (j_isiS (cs := [0, 1, 2, 3, 4]) ⟨(in_cons ⟨T.cl_0, T.is_0, T.kas_0⟩ (in_cons ⟨T.cl_1, T.is_1, T.kas_1⟩ (in_cons ⟨T.cl_2, T.is_2, T.kas_2⟩ (in_cons ⟨T.cl_3, T.is_3, T.kas_3⟩ (in_cons ⟨T.cl_4, T.is_4, T.kas_4⟩ in_nil)))))⟩ rfl T.z_isinstance rfl T.z_list rfl T.z_tuple (j_var 0)))))
theorem sc_is_between : FnScope ["value", "low", "high"] ["value", "low", "high"] (defScope s_is_between) := ⟨rfl, rfl, rfl, by decide +kernel, rfl, by decide +kernel, by decide +kernel⟩
theorem ok_is_between (T : Txt P k ad ca ta K mg) : FnR P w K mg base (L2.CX P w) 1 (ad 10) (spD k K 3 d_is_between) :=
  fnr_ok (N := ["value", "low", "high"]) (ps := ["value", "low", "high"]) (lvl := 0) (m := b_is_between) T.f_is_between sc_is_between (fun cdv A outer s H E hr =>
  (jb_one (js_ret (j_and (j_isi (cs := [0, 1, 2, 3, 4]) (t := .int) (u := .type "int") (c := .ty "int") (te := tC (.ty "int")) ⟨(in_cons ⟨T.cl_0, T.is_0, T.ki_0_int⟩ (in_cons ⟨T.cl_1, T.is_1, T.ki_1_int⟩ (in_cons ⟨T.cl_2, T.is_2, T.ki_2_int⟩ (in_cons ⟨T.cl_3, T.is_3, T.ki_3_int⟩ (in_cons ⟨T.cl_4, T.is_4, T.ki_4_int⟩ in_nil))))), kit_bu .int (by simp)⟩ rfl (fun _ h => h) (.ty _) rfl T.z_isinstance (j_var 0) (pe_bltn rfl T.z_int (by decide +kernel) rfl)) (j_and (j_not (j_isi (cs := [0, 1, 2, 3, 4]) (t := .bool) (u := .type "bool") (c := .ty "bool") (te := tC (.ty "bool")) ⟨(in_cons ⟨T.cl_0, T.is_0, T.ki_0_bool⟩ (in_cons ⟨T.cl_1, T.is_1, T.ki_1_bool⟩ (in_cons ⟨T.cl_2, T.is_2, T.ki_2_bool⟩ (in_cons ⟨T.cl_3, T.is_3, T.ki_3_bool⟩ (in_cons ⟨T.cl_4, T.is_4, T.ki_4_bool⟩ in_nil))))), kit_bu .bool (by simp)⟩ rfl (fun _ h => h) (.ty _) rfl T.z_isinstance (j_var 0) (pe_bltn rfl T.z_bool (by decide +kernel) rfl))) (j_one (j_chain b_le b_le (j_var 1) (j_var 0) (j_var 2))))))))
theorem sc_is_price : FnScope ["value"] ["value"] (defScope s_is_price) := ⟨rfl, rfl, rfl, by decide +kernel, rfl, by decide +kernel, by decide +kernel⟩
theorem ok_is_price (T : Txt P k ad ca ta K mg) : FnR P w K mg base (L2.CX P w) 2 (ad 79) (spD k K 1 d_is_price) :=
  fnr_ok (N := ["value"]) (ps := ["value"]) (lvl := 1) (m := b_is_price) T.f_is_price sc_is_price (fun cdv A outer s H E hr =>
  (jb_one (js_ret (j_call (ok_is_between (P := P) (w := w) (base := base) T) (hr.mono (by decide)) pass_def rfl T.m_is_between T.f_is_between.kp (ja_cons (j_var 0) (ja_cons j_int (ja_cons (j_globD T.g_MOST_PRICE rfl) ja_nil)))))))
theorem sc_is_prices : FnScope ["value", "low", "high", "item"] ["value", "low", "high"] (defScope s_is_prices) := ⟨rfl, rfl, rfl, by decide +kernel, rfl, by decide +kernel, by decide +kernel⟩
theorem ok_is_prices (T : Txt P k ad ca ta K mg) : FnR P w K mg base (L2.CX P w) 3 (ad 80) (spD k K 3 d_is_prices) :=
  fnr_ok (N := ["value", "low", "high", "item"]) (ps := ["value", "low", "high"]) (lvl := 2) (m := b_is_prices) T.f_is_prices sc_is_prices (fun cdv A outer s H E hr =>
  (jb_one (js_ret (j_and (j_call (ok_is_row (P := P) (w := w) (base := base) T) (hr.mono (by decide)) pass_def rfl T.m_is_row T.f_is_row.kp (ja_cons (j_var 0) ja_nil)) (j_and (j_chain b_le b_le (j_var 1) (j_callB f_len rfl T.z_len (by decide +kernel) (ja_cons (j_var 0) ja_nil)) (j_var 2)) (j_one (j_callB (f_all rfl) rfl T.z_all (by decide +kernel) (ja_cons (j_comp (own := [("item", 3)]) (by decide) rfl sc_is_prices.nd (ji_seq (j_var 0)) (blkOk_by (N := ["value", "low", "high", "item"]) (sc := defScope s_is_prices) (by decide +kernel)) (fun _ _ _ _ _ => (jg_name 3 sc_is_prices.nd rfl (by first | exact Or.inl rfl | exact Or.inr rfl))) (fun _ _ _ _ _ => jts_nil) (fun _ _ _ _ _ => (j_call (ok_is_price (P := P) (w := w) (base := base) T) (hr.mono (by decide)) passL rfl T.m_is_price T.f_is_price.kp (ja_cons (j_var 3) ja_nil)))) ja_nil))))))))
theorem sc_Prices_init : FnScope ["self", "parts", "wholes", "opens", "value", "piece"] ["self", "parts", "wholes", "opens"] (defScope s_Prices_init) := ⟨rfl, rfl, rfl, by decide +kernel, rfl, by decide +kernel, by decide +kernel⟩
theorem ok_Prices_init (T : Txt P k ad ca ta K mg) : FnR P w K mg base (L2.CX P w) 4 (ad 81) (spD k K 4 d_Prices_init) :=
  fnr_ok (N := ["self", "parts", "wholes", "opens", "value", "piece"]) (ps := ["self", "parts", "wholes", "opens"]) (lvl := 3) (m := b_Prices_init) T.f_Prices_init sc_Prices_init (fun cdv A outer s H E hr =>
  (jb_cons (js_if (jt_w (jw_or (jt_not (jt_val (j_call (ok_is_row (P := P) (w := w) (base := base) T) (hr.mono (by decide)) pass_def rfl T.m_is_row T.f_is_row.kp (ja_cons (j_var 1) ja_nil)))) (jw_or1 (jt_not (jt_chain b_le b_le j_int (j_callB f_len rfl T.z_len (by decide +kernel) (ja_cons (j_var 1) ja_nil)) (j_globD T.g_MOST_PIECES rfl)))))) (jb_one (js_raise (lvl := 0) T.er_9.choose_spec T.xf_9 rfl take_def (hr.mono (by decide)) rfl T.ge_9 (j_var 1))) jb_nil)
  (jb_cons (js_if (jt_not (jt_val (j_callB (f_all rfl) rfl T.z_all (by decide +kernel) (ja_cons (j_comp (own := [("piece", 5)]) (by decide) rfl sc_Prices_init.nd (ji_seq (j_var 1)) (blkOk_by (N := ["self", "parts", "wholes", "opens", "value", "piece"]) (sc := defScope s_Prices_init) (by decide +kernel)) (fun _ _ _ _ _ => (jg_name 5 sc_Prices_init.nd rfl (by first | exact Or.inl rfl | exact Or.inr rfl))) (fun _ _ _ _ _ => jts_nil) (fun _ _ _ _ _ => (j_call (ok_is_prices (P := P) (w := w) (base := base) T) (hr.mono (by decide)) passL rfl T.m_is_prices T.f_is_prices.kp (ja_cons (j_var 5) (ja_cons j_int (ja_cons (j_globD T.g_MOST_PARTS rfl) ja_nil)))))) ja_nil)))) (jb_one (js_raise (lvl := 0) T.er_9.choose_spec T.xf_9 rfl take_def (hr.mono (by decide)) rfl T.ge_9 (j_var 1))) jb_nil)
  (jb_cons (js_for (passes_of rfl) rfl (ji_seq (j_tup (ja_cons (j_var 2) (ja_cons (j_var 3) ja_nil)))) (jg_name 4 sc_Prices_init.nd rfl (by first | exact Or.inl rfl | exact Or.inr rfl))
  (jb_one (js_if (jt_not (jt_val (j_call (ok_is_prices (P := P) (w := w) (base := base) T) (hr.mono (by decide)) pass_def rfl T.m_is_prices T.f_is_prices.kp (ja_cons (j_var 4) (ja_cons (j_callB f_len rfl T.z_len (by decide +kernel) (ja_cons (j_var 1) ja_nil)) (ja_cons (j_callB f_len rfl T.z_len (by decide +kernel) (ja_cons (j_var 1) ja_nil)) ja_nil)))))) (jb_one (js_raise (lvl := 0) T.er_9.choose_spec T.xf_9 rfl take_def (hr.mono (by decide)) rfl T.ge_9 (j_var 4))) jb_nil)))
  (jb_cons (js_attr (tab := [(4, 1)]) ⟨⟨T.cl_4, T.sl_4_part_prices⟩, trivial⟩ (j_var 0) (j_callTy f_tuple rfl T.z_tuple (by decide +kernel) (ja_cons (j_comp (own := [("piece", 5)]) (by decide) rfl sc_Prices_init.nd (ji_seq (j_var 1)) (blkOk_by (N := ["self", "parts", "wholes", "opens", "value", "piece"]) (sc := defScope s_Prices_init) (by decide +kernel)) (fun _ _ _ _ _ => (jg_name 5 sc_Prices_init.nd rfl (by first | exact Or.inl rfl | exact Or.inr rfl))) (fun _ _ _ _ _ => jts_nil) (fun _ _ _ _ _ => (j_callTy f_tuple rfl T.z_tuple (by decide +kernel) (ja_cons (j_var 5) ja_nil)))) ja_nil)))
  (jb_one (js_asg (j_tup (ja_cons (j_callTy f_tuple rfl T.z_tuple (by decide +kernel) (ja_cons (j_var 2) ja_nil)) (ja_cons (j_callTy f_tuple rfl T.z_tuple (by decide +kernel) (ja_cons (j_var 3) ja_nil)) ja_nil))) (jg_tup rfl (jgs_cons (jg_attr (tab := [(4, 2)]) ⟨⟨T.cl_4, T.sl_4_whole_prices⟩, trivial⟩ (j_var 0)) (jgs_cons (jg_attr (tab := [(4, 0)]) ⟨⟨T.cl_4, T.sl_4_open_prices⟩, trivial⟩ (j_var 0)) jgs_nil))))))))))
theorem sc_Prices_parts : FnScope ["self"] ["self"] (defScope s_Prices_parts) := ⟨rfl, rfl, rfl, by decide +kernel, rfl, by decide +kernel, by decide +kernel⟩
theorem ok_Prices_parts (T : Txt P k ad ca ta K mg) : FnR P w K mg base (L2.CX P w) 1 (ad 82) (spD k K 1 d_Prices_parts) :=
  fnr_ok (N := ["self"]) (ps := ["self"]) (lvl := 0) (m := b_Prices_parts) T.f_Prices_parts sc_Prices_parts (fun cdv A outer s H E hr =>
  (jb_one (js_ret (j_attr (tab := [(4, .slot 1)]) ⟨⟨T.cl_4, T.sl_4_part_prices⟩, trivial⟩ (j_var 0)))))
theorem sc_Prices_wholes : FnScope ["self"] ["self"] (defScope s_Prices_wholes) := ⟨rfl, rfl, rfl, by decide +kernel, rfl, by decide +kernel, by decide +kernel⟩
theorem ok_Prices_wholes (T : Txt P k ad ca ta K mg) : FnR P w K mg base (L2.CX P w) 1 (ad 83) (spD k K 1 d_Prices_wholes) :=
  fnr_ok (N := ["self"]) (ps := ["self"]) (lvl := 0) (m := b_Prices_wholes) T.f_Prices_wholes sc_Prices_wholes (fun cdv A outer s H E hr =>
  (jb_one (js_ret (j_attr (tab := [(4, .slot 2)]) ⟨⟨T.cl_4, T.sl_4_whole_prices⟩, trivial⟩ (j_var 0)))))
theorem sc_Prices_opens : FnScope ["self"] ["self"] (defScope s_Prices_opens) := ⟨rfl, rfl, rfl, by decide +kernel, rfl, by decide +kernel, by decide +kernel⟩
theorem ok_Prices_opens (T : Txt P k ad ca ta K mg) : FnR P w K mg base (L2.CX P w) 1 (ad 84) (spD k K 1 d_Prices_opens) :=
  fnr_ok (N := ["self"]) (ps := ["self"]) (lvl := 0) (m := b_Prices_opens) T.f_Prices_opens sc_Prices_opens (fun cdv A outer s H E hr =>
  (jb_one (js_ret (j_attr (tab := [(4, .slot 0)]) ⟨⟨T.cl_4, T.sl_4_open_prices⟩, trivial⟩ (j_var 0)))))
theorem sc_Prices_eq : FnScope ["self", "other"] ["self", "other"] (defScope s_Prices_eq) := ⟨rfl, rfl, rfl, by decide +kernel, rfl, by decide +kernel, by decide +kernel⟩
theorem ok_Prices_eq (T : Txt P k ad ca ta K mg) : FnR P w K mg base (L2.CX P w) 1 (ad 92) (spD k K 2 d_Prices_eq) :=
  fnr_ok (N := ["self", "other"]) (ps := ["self", "other"]) (lvl := 0) (m := b_Prices_eq) T.f_Prices_eq sc_Prices_eq (fun cdv A outer s H E hr =>
  (jb_one (js_ret (j_and (j_isi (cs := [0, 1, 2, 3, 4]) (t := .cls 4) (u := .ref (k.cl 4)) (c := .ref (k.cl 4)) (te := tC (.ref (k.cl 4))) ⟨(in_cons ⟨T.cl_0, T.is_0, T.ki_0_4⟩ (in_cons ⟨T.cl_1, T.is_1, T.ki_1_4⟩ (in_cons ⟨T.cl_2, T.is_2, T.ki_2_4⟩ (in_cons ⟨T.cl_3, T.is_3, T.ki_3_4⟩ (in_cons ⟨T.cl_4, T.is_4, T.ki_4_4⟩ in_nil))))), T.kb_4⟩ rfl (fun _ h => h) (.own _) rfl T.z_isinstance (j_var 1) (pe_glob rfl T.g_Prices rfl)) (j_and (j_cmp (b_eq hr.units) (j_attr (tab := [(4, .slot 1)]) ⟨⟨T.cl_4, T.sl_4_part_prices⟩, trivial⟩ (j_var 0)) (j_attr (tab := [(4, .slot 1)]) ⟨⟨T.cl_4, T.sl_4_part_prices⟩, trivial⟩ (j_var 1)) (nomark _)) (j_and (j_cmp (b_eq hr.units) (j_attr (tab := [(4, .slot 2)]) ⟨⟨T.cl_4, T.sl_4_whole_prices⟩, trivial⟩ (j_var 0)) (j_attr (tab := [(4, .slot 2)]) ⟨⟨T.cl_4, T.sl_4_whole_prices⟩, trivial⟩ (j_var 1)) (nomark _)) (j_one (j_cmp (b_eq hr.units) (j_attr (tab := [(4, .slot 0)]) ⟨⟨T.cl_4, T.sl_4_open_prices⟩, trivial⟩ (j_var 0)) (j_attr (tab := [(4, .slot 0)]) ⟨⟨T.cl_4, T.sl_4_open_prices⟩, trivial⟩ (j_var 1)) (nomark _)))))))))
theorem sc_Table_eq : FnScope ["self", "other"] ["self", "other"] (defScope s_Table_eq) := ⟨rfl, rfl, rfl, by decide +kernel, rfl, by decide +kernel, by decide +kernel⟩
theorem ok_Table_eq (T : Txt P k ad ca ta K mg) : FnR P w K mg base (L2.CX P w) 1 (ad 69) (spD k K 2 d_Table_eq) :=
  fnr_ok (N := ["self", "other"]) (ps := ["self", "other"]) (lvl := 0) (m := b_Table_eq) T.f_Table_eq sc_Table_eq (fun cdv A outer s H E hr =>
  (jb_one (js_ret (j_and (j_isi (cs := [0, 1, 2, 3, 4]) (t := .cls 3) (u := .ref (k.cl 3)) (c := .ref (k.cl 3)) (te := tC (.ref (k.cl 3))) ⟨(in_cons ⟨T.cl_0, T.is_0, T.ki_0_3⟩ (in_cons ⟨T.cl_1, T.is_1, T.ki_1_3⟩ (in_cons ⟨T.cl_2, T.is_2, T.ki_2_3⟩ (in_cons ⟨T.cl_3, T.is_3, T.ki_3_3⟩ (in_cons ⟨T.cl_4, T.is_4, T.ki_4_3⟩ in_nil))))), T.kb_3⟩ rfl (fun _ h => h) (.own _) rfl T.z_isinstance (j_var 1) (pe_glob rfl T.g_Table rfl)) (j_and (j_cmp (b_eq hr.units) (j_attr (tab := [(3, .slot 1)]) ⟨⟨T.cl_3, T.sl_3_own_prime⟩, trivial⟩ (j_var 0)) (j_attr (tab := [(0, .slot 0), (1, .slot 1), (3, .slot 1)]) ⟨⟨T.cl_0, T.sl_0_own_prime⟩, ⟨⟨T.cl_1, T.sl_1_own_prime⟩, ⟨⟨T.cl_3, T.sl_3_own_prime⟩, trivial⟩⟩⟩ (j_var 1)) (nomark _)) (j_one (j_cmp (b_eq hr.units) (j_attr (tab := [(3, .slot 0)]) ⟨⟨T.cl_3, T.sl_3_own_pieces⟩, trivial⟩ (j_var 0)) (j_attr (tab := [(2, .slot 0), (3, .slot 0)]) ⟨⟨T.cl_2, T.sl_2_own_pieces⟩, ⟨⟨T.cl_3, T.sl_3_own_pieces⟩, trivial⟩⟩ (j_var 1)) (nomark _))))))))
theorem sc_Stored_eq : FnScope ["self", "other"] ["self", "other"] (defScope s_Stored_eq) := ⟨rfl, rfl, rfl, by decide +kernel, rfl, by decide +kernel, by decide +kernel⟩
theorem ok_Stored_eq (T : Txt P k ad ca ta K mg) : FnR P w K mg base (L2.CX P w) 1 (ad 53) (spD k K 2 d_Stored_eq) :=
  fnr_ok (N := ["self", "other"]) (ps := ["self", "other"]) (lvl := 0) (m := b_Stored_eq) T.f_Stored_eq sc_Stored_eq (fun cdv A outer s H E hr =>
  (jb_one (js_ret (j_and (j_isi (cs := [0, 1, 2, 3, 4]) (t := .cls 2) (u := .ref (k.cl 2)) (c := .ref (k.cl 2)) (te := tC (.ref (k.cl 2))) ⟨(in_cons ⟨T.cl_0, T.is_0, T.ki_0_2⟩ (in_cons ⟨T.cl_1, T.is_1, T.ki_1_2⟩ (in_cons ⟨T.cl_2, T.is_2, T.ki_2_2⟩ (in_cons ⟨T.cl_3, T.is_3, T.ki_3_2⟩ (in_cons ⟨T.cl_4, T.is_4, T.ki_4_2⟩ in_nil))))), T.kb_2⟩ rfl (fun _ h => h) (.own _) rfl T.z_isinstance (j_var 1) (pe_glob rfl T.g_Stored rfl)) (j_one (j_cmp (b_eq hr.units) (j_attr (tab := [(2, .slot 0)]) ⟨⟨T.cl_2, T.sl_2_own_pieces⟩, trivial⟩ (j_var 0)) (j_attr (tab := [(2, .slot 0), (3, .slot 0)]) ⟨⟨T.cl_2, T.sl_2_own_pieces⟩, ⟨⟨T.cl_3, T.sl_3_own_pieces⟩, trivial⟩⟩ (j_var 1)) (nomark _)))))))
theorem sc_Space_eq : FnScope ["self", "other"] ["self", "other"] (defScope s_Space_eq) := ⟨rfl, rfl, rfl, by decide +kernel, rfl, by decide +kernel, by decide +kernel⟩
theorem ok_Space_eq (T : Txt P k ad ca ta K mg) : FnR P w K mg base (L2.CX P w) 1 (ad 37) (spD k K 2 d_Space_eq) :=
  fnr_ok (N := ["self", "other"]) (ps := ["self", "other"]) (lvl := 0) (m := b_Space_eq) T.f_Space_eq sc_Space_eq (fun cdv A outer s H E hr =>
  (jb_one (js_ret (j_and (j_isi (cs := [0, 1, 2, 3, 4]) (t := .cls 1) (u := .ref (k.cl 1)) (c := .ref (k.cl 1)) (te := tC (.ref (k.cl 1))) ⟨(in_cons ⟨T.cl_0, T.is_0, T.ki_0_1⟩ (in_cons ⟨T.cl_1, T.is_1, T.ki_1_1⟩ (in_cons ⟨T.cl_2, T.is_2, T.ki_2_1⟩ (in_cons ⟨T.cl_3, T.is_3, T.ki_3_1⟩ (in_cons ⟨T.cl_4, T.is_4, T.ki_4_1⟩ in_nil))))), T.kb_1⟩ rfl (fun _ h => h) (.own _) rfl T.z_isinstance (j_var 1) (pe_glob rfl T.g_Space rfl)) (j_and (j_cmp (b_eq hr.units) (j_attr (tab := [(1, .slot 1)]) ⟨⟨T.cl_1, T.sl_1_own_prime⟩, trivial⟩ (j_var 0)) (j_attr (tab := [(0, .slot 0), (1, .slot 1), (3, .slot 1)]) ⟨⟨T.cl_0, T.sl_0_own_prime⟩, ⟨⟨T.cl_1, T.sl_1_own_prime⟩, ⟨⟨T.cl_3, T.sl_3_own_prime⟩, trivial⟩⟩⟩ (j_var 1)) (nomark _)) (j_and (j_cmp (b_eq hr.units) (j_attr (tab := [(1, .slot 2)]) ⟨⟨T.cl_1, T.sl_1_own_size⟩, trivial⟩ (j_var 0)) (j_attr (tab := [(1, .slot 2), (3, .slot 2)]) ⟨⟨T.cl_1, T.sl_1_own_size⟩, ⟨⟨T.cl_3, T.sl_3_own_size⟩, trivial⟩⟩ (j_var 1)) (nomark _)) (j_one (j_cmp (b_eq hr.units) (j_attr (tab := [(1, .slot 3)]) ⟨⟨T.cl_1, T.sl_1_rows⟩, trivial⟩ (j_var 0)) (j_attr (tab := [(1, .slot 3)]) ⟨⟨T.cl_1, T.sl_1_rows⟩, trivial⟩ (j_var 1)) (nomark _)))))))))
theorem sc_Sum_eq : FnScope ["self", "other"] ["self", "other"] (defScope s_Sum_eq) := ⟨rfl, rfl, rfl, by decide +kernel, rfl, by decide +kernel, by decide +kernel⟩
theorem ok_Sum_eq (T : Txt P k ad ca ta K mg) : FnR P w K mg base (L2.CX P w) 1 (ad 27) (spD k K 2 d_Sum_eq) :=
  fnr_ok (N := ["self", "other"]) (ps := ["self", "other"]) (lvl := 0) (m := b_Sum_eq) T.f_Sum_eq sc_Sum_eq (fun cdv A outer s H E hr =>
  (jb_one (js_ret (j_and (j_isi (cs := [0, 1, 2, 3, 4]) (t := .cls 0) (u := .ref (k.cl 0)) (c := .ref (k.cl 0)) (te := tC (.ref (k.cl 0))) ⟨(in_cons ⟨T.cl_0, T.is_0, T.ki_0_0⟩ (in_cons ⟨T.cl_1, T.is_1, T.ki_1_0⟩ (in_cons ⟨T.cl_2, T.is_2, T.ki_2_0⟩ (in_cons ⟨T.cl_3, T.is_3, T.ki_3_0⟩ (in_cons ⟨T.cl_4, T.is_4, T.ki_4_0⟩ in_nil))))), T.kb_0⟩ rfl (fun _ h => h) (.own _) rfl T.z_isinstance (j_var 1) (pe_glob rfl T.g_Sum rfl)) (j_and (j_cmp (b_eq hr.units) (j_attr (tab := [(0, .slot 0)]) ⟨⟨T.cl_0, T.sl_0_own_prime⟩, trivial⟩ (j_var 0)) (j_attr (tab := [(0, .slot 0), (1, .slot 1), (3, .slot 1)]) ⟨⟨T.cl_0, T.sl_0_own_prime⟩, ⟨⟨T.cl_1, T.sl_1_own_prime⟩, ⟨⟨T.cl_3, T.sl_3_own_prime⟩, trivial⟩⟩⟩ (j_var 1)) (nomark _)) (j_one (j_cmp (b_eq hr.units) (j_attr (tab := [(0, .slot 1)]) ⟨⟨T.cl_0, T.sl_0_row⟩, trivial⟩ (j_var 0)) (j_attr (tab := [(0, .slot 1)]) ⟨⟨T.cl_0, T.sl_0_row⟩, trivial⟩ (j_var 1)) (nomark _))))))))
theorem sc_spots : FnScope ["_law_pieces_here", "_law_found", "_law_piece", "_law_part"] ["_law_pieces_here"] (defScope s_spots) := ⟨rfl, rfl, rfl, by decide +kernel, rfl, by decide +kernel, by decide +kernel⟩
theorem ok_spots (T : Txt P k ad ca ta K mg) : FnR P w K mg base (L2.CX P w) 1 (ad 101) (spD k K 1 d_spots) :=
  fnr_ok (N := ["_law_pieces_here", "_law_found", "_law_piece", "_law_part"]) (ps := ["_law_pieces_here"]) (lvl := 0) (m := b_spots) T.f_spots sc_spots (fun cdv A outer s H E hr =>
  (jb_cons (js_set 1 sc_spots.nd rfl (by first | exact Or.inl rfl | exact Or.inr rfl) (j_lst ja_nil))
  (jb_cons (js_for (passes_of rfl) rfl (ji_range1 rfl T.z_range (ja_cons (j_callB f_len rfl T.z_len (by decide +kernel) (ja_cons (j_var 0) ja_nil)) ja_nil)) (jg_name 2 sc_spots.nd rfl (by first | exact Or.inl rfl | exact Or.inr rfl))
  (jb_one (js_set 1 sc_spots.nd rfl (by first | exact Or.inl rfl | exact Or.inr rfl) (j_op b_add (j_var 1) (j_comp (own := [("_law_part", 3)]) (by decide) rfl sc_spots.nd (ji_range1 rfl T.z_range (ja_cons (j_callB f_len rfl T.z_len (by decide +kernel) (ja_cons (j_ix (j_var 0) (j_var 2) (fun _ _ => rfl)) ja_nil)) ja_nil)) (blkOk_by (N := ["_law_pieces_here", "_law_found", "_law_piece", "_law_part"]) (sc := defScope s_spots) (by decide +kernel)) (fun _ _ _ _ _ => (jg_name 3 sc_spots.nd rfl (by first | exact Or.inl rfl | exact Or.inr rfl))) (fun _ _ _ _ _ => jts_nil) (fun _ _ _ _ _ => (j_tup (ja_cons (j_var 2) (ja_cons (j_var 3) ja_nil)))))))))
  (jb_one (js_ret (j_var 1))))))
theorem sc_sets : FnScope ["_law_items", "_law_found", "_law_item", "_law_one"] ["_law_items"] (defScope s_sets) := ⟨rfl, rfl, rfl, by decide +kernel, rfl, by decide +kernel, by decide +kernel⟩
theorem ok_sets (T : Txt P k ad ca ta K mg) (TB : TBs ca ta base mg) : FnG P w K mg base 6 (ad 102) (spD k K 1 d_sets) :=
  fng_mk (N := ["_law_items", "_law_found", "_law_item", "_law_one"]) (ps := ["_law_items"]) (lvl := 5) (m := b_sets) T.fc_102 sc_sets (fun A outer s H E hgd hr =>
  (jb_cons (js_set 1 sc_sets.nd rfl (by first | exact Or.inl rfl | exact Or.inr rfl) (j_lst (ja_cons (j_tup ja_nil) ja_nil)))
  (jb_cons (js_for (passes_of rfl) rfl (ji_seq (j_var 0)) (jg_name 2 sc_sets.nd rfl (by first | exact Or.inl rfl | exact Or.inr rfl))
  (jb_one (js_set 1 sc_sets.nd rfl (by first | exact Or.inl rfl | exact Or.inr rfl) (j_op b_add (j_var 1) (j_comp (own := [("_law_one", 3)]) (by decide) rfl sc_sets.nd (ji_seq (j_var 1)) (blkOk_by (N := ["_law_items", "_law_found", "_law_item", "_law_one"]) (sc := defScope s_sets) (by decide +kernel)) (fun _ _ _ _ _ => (jg_name 3 sc_sets.nd rfl (by first | exact Or.inl rfl | exact Or.inr rfl))) (fun _ _ _ _ _ => jts_nil) (fun _ _ _ _ _ => (j_op b_add (j_var 3) (j_tup (ja_cons (j_var 2) ja_nil)))))))))
  (jb_one (js_ret (j_sortL (TB.2 102 (by decide)) rfl T.tm_102 T.tu_102 (hr.mono (by decide)) ⟨rfl, rfl, rfl, by decide +kernel, rfl, by decide +kernel, by decide +kernel⟩ rfl rfl (fun _ _ _ _ _ _ => rfl) rfl T.z_sorted T.z_len rfl rfl (by decide +kernel) (j_var 1)))))))
theorem sc_Prices_has_price : FnScope ["self", "spot"] ["self", "spot"] (defScope s_Prices_has_price) := ⟨rfl, rfl, rfl, by decide +kernel, rfl, by decide +kernel, by decide +kernel⟩
theorem ok_Prices_has_price (T : Txt P k ad ca ta K mg) : FnR P w K mg base (L2.CX P w) 2 (ad 87) (spD k K 2 d_Prices_has_price) :=
  fnr_ok (N := ["self", "spot"]) (ps := ["self", "spot"]) (lvl := 1) (m := b_Prices_has_price) T.f_Prices_has_price sc_Prices_has_price (fun cdv A outer s H E hr =>
  (jb_cons (js_if (jt_w (jw_or (jt_not (jt_val (j_isi (cs := [0, 1, 2, 3, 4]) (t := .tup) (u := .type "tuple") (c := .ty "tuple") (te := tC (.ty "tuple")) ⟨(in_cons ⟨T.cl_0, T.is_0, T.ki_0_tuple⟩ (in_cons ⟨T.cl_1, T.is_1, T.ki_1_tuple⟩ (in_cons ⟨T.cl_2, T.is_2, T.ki_2_tuple⟩ (in_cons ⟨T.cl_3, T.is_3, T.ki_3_tuple⟩ (in_cons ⟨T.cl_4, T.is_4, T.ki_4_tuple⟩ in_nil))))), kit_bu .tup (by simp)⟩ rfl (fun _ h => h) (.ty _) rfl T.z_isinstance (j_var 1) (pe_bltn rfl T.z_tuple (by decide +kernel) rfl)))) (jw_or (jt_cmp (b_ne hr.units) (j_callB f_len rfl T.z_len (by decide +kernel) (ja_cons (j_var 1) ja_nil)) j_int (nomark _)) (jw_or1 (jt_not (jt_val (j_call (ok_is_between (P := P) (w := w) (base := base) T) (hr.mono (by decide)) pass_def rfl T.m_is_between T.f_is_between.kp (ja_cons (j_ix (j_var 1) j_int (fun _ _ => rfl)) (ja_cons j_int (ja_cons (j_op b_sub (j_callB f_len rfl T.z_len (by decide +kernel) (ja_cons (j_attr (tab := [(4, .slot 1)]) ⟨⟨T.cl_4, T.sl_4_part_prices⟩, trivial⟩ (j_var 0)) ja_nil)) j_int) ja_nil)))))))))) (jb_one (js_ret j_bl)) jb_nil)
  (jb_one (js_ret (j_call (ok_is_between (P := P) (w := w) (base := base) T) (hr.mono (by decide)) pass_def rfl T.m_is_between T.f_is_between.kp (ja_cons (j_ix (j_var 1) j_int (fun _ _ => rfl)) (ja_cons j_int (ja_cons (j_op b_sub (j_callB f_len rfl T.z_len (by decide +kernel) (ja_cons (j_ix (j_attr (tab := [(4, .slot 1)]) ⟨⟨T.cl_4, T.sl_4_part_prices⟩, trivial⟩ (j_var 0)) (j_ix (j_var 1) j_int (fun _ _ => rfl)) (fun _ _ => rfl)) ja_nil)) j_int) ja_nil))))))))
theorem sc_Prices_require : FnScope ["self", "spots", "spot", "one", "other"] ["self", "spots"] (defScope s_Prices_require) := ⟨rfl, rfl, rfl, by decide +kernel, rfl, by decide +kernel, by decide +kernel⟩
theorem ok_Prices_require (T : Txt P k ad ca ta K mg) : FnR P w K mg base (L2.CX P w) 3 (ad 88) (spD k K 2 d_Prices_require) :=
  fnr_ok (N := ["self", "spots", "spot", "one", "other"]) (ps := ["self", "spots"]) (lvl := 2) (m := b_Prices_require) T.f_Prices_require sc_Prices_require (fun cdv A outer s H E hr =>
  (jb_cons (js_if (jt_w (jw_or (jt_not (jt_val (j_call (ok_is_row (P := P) (w := w) (base := base) T) (hr.mono (by decide)) pass_def rfl T.m_is_row T.f_is_row.kp (ja_cons (j_var 1) ja_nil)))) (jw_or1 (jt_not (jt_val (j_callB (f_all rfl) rfl T.z_all (by decide +kernel) (ja_cons (j_comp (own := [("spot", 2)]) (by decide) rfl sc_Prices_require.nd (ji_seq (j_var 1)) (blkOk_by (N := ["self", "spots", "spot", "one", "other"]) (sc := defScope s_Prices_require) (by decide +kernel)) (fun _ _ _ _ _ => (jg_name 2 sc_Prices_require.nd rfl (by first | exact Or.inl rfl | exact Or.inr rfl))) (fun _ _ _ _ _ => jts_nil) (fun _ _ _ _ _ => (j_meth (tab := [(4, 2, d_Prices_has_price)]) ⟨⟨T.cl_4, _, _, T.me_4_has_price, (ok_Prices_has_price (P := P) (w := w) (base := base) T), (hr.mono (by decide))⟩, trivial⟩ passL (j_var 0) (ja_cons (j_var 2) ja_nil)))) ja_nil))))))) (jb_one (js_raise (lvl := 0) T.er_8.choose_spec T.xf_8 rfl take_def (hr.mono (by decide)) rfl T.ge_8 (j_var 1))) jb_nil)
  (jb_one (js_if (jt_not (jt_val (j_callB (f_all rfl) rfl T.z_all (by decide +kernel) (ja_cons (j_comp (own := [("one", 3), ("other", 4)]) (by decide) rfl sc_Prices_require.nd (ji_zipK rfl T.z_zip (ja_cons (j_var 1) (ja_cons (j_slice (j_var 1) (jo_some j_int) jo_none) ja_nil))) (blkOk_by (N := ["self", "spots", "spot", "one", "other"]) (sc := defScope s_Prices_require) (by decide +kernel)) (fun _ _ _ _ _ => (jg_tup rfl (jgs_cons (jg_name 3 sc_Prices_require.nd rfl (by first | exact Or.inl rfl | exact Or.inr rfl)) (jgs_cons (jg_name 4 sc_Prices_require.nd rfl (by first | exact Or.inl rfl | exact Or.inr rfl)) jgs_nil)))) (fun _ _ _ _ _ => jts_nil) (fun _ _ _ _ _ => (j_cmp (b_lt hr.units0) (j_var 3) (j_var 4) (nomark _)))) ja_nil)))) (jb_one (js_raise (lvl := 0) T.er_8.choose_spec T.xf_8 rfl take_def (hr.mono (by decide)) rfl T.ge_8 (j_var 1))) jb_nil))))
theorem sc_Prices_bill : FnScope ["self", "spots", "found", "piece", "part"] ["self", "spots"] (defScope s_Prices_bill) := ⟨rfl, rfl, rfl, by decide +kernel, rfl, by decide +kernel, by decide +kernel⟩
theorem ok_Prices_bill (T : Txt P k ad ca ta K mg) : FnR P w K mg base (L2.CX P w) 1 (ad 89) (spD k K 2 d_Prices_bill) :=
  fnr_ok (N := ["self", "spots", "found", "piece", "part"]) (ps := ["self", "spots"]) (lvl := 0) (m := b_Prices_bill) T.f_Prices_bill sc_Prices_bill (fun cdv A outer s H E hr =>
  (jb_cons (js_set 2 sc_Prices_bill.nd rfl (by first | exact Or.inl rfl | exact Or.inr rfl) j_dnew)
  (jb_cons (js_for (passes_of rfl) rfl (ji_seq (j_var 1)) (jg_tup rfl (jgs_cons (jg_name 3 sc_Prices_bill.nd rfl (by first | exact Or.inl rfl | exact Or.inr rfl)) (jgs_cons (jg_name 4 sc_Prices_bill.nd rfl (by first | exact Or.inl rfl | exact Or.inr rfl)) jgs_nil)))
  (jb_one (js_setK (u1 hr.units) (j_op b_add (j_get2 (u1 hr.units) (j_var 2) (j_var 3) j_int) (j_ix (j_ix (j_attr (tab := [(4, .slot 1)]) ⟨⟨T.cl_4, T.sl_4_part_prices⟩, trivial⟩ (j_var 0)) (j_var 3) (fun _ _ => rfl)) (j_var 4) (fun _ _ => rfl))) (j_var 2) (j_var 3))))
  (jb_one (js_ret (j_frzK (j_var 2)))))))
theorem sc_Prices_call : FnScope ["self", "spots", "bill", "piece"] ["self", "spots"] (defScope s_Prices_call) := ⟨rfl, rfl, rfl, by decide +kernel, rfl, by decide +kernel, by decide +kernel⟩
theorem ok_Prices_call (T : Txt P k ad ca ta K mg) : FnR P w K mg base (L2.CX P w) 4 (ad 90) (spD k K 2 d_Prices_call) :=
  fnr_ok (N := ["self", "spots", "bill", "piece"]) (ps := ["self", "spots"]) (lvl := 3) (m := b_Prices_call) T.f_Prices_call sc_Prices_call (fun cdv A outer s H E hr =>
  (jb_cons (js_expr (j_meth (tab := [(4, 2, d_Prices_require)]) ⟨⟨T.cl_4, _, _, T.me_4_require, (ok_Prices_require (P := P) (w := w) (base := base) T), (hr.mono (by decide))⟩, trivial⟩ pass_def (j_var 0) (ja_cons (j_var 1) ja_nil)))
  (jb_cons (js_set 2 sc_Prices_call.nd rfl (by first | exact Or.inl rfl | exact Or.inr rfl) (j_meth (tab := [(4, 2, d_Prices_bill)]) ⟨⟨T.cl_4, _, _, T.me_4_bill, (ok_Prices_bill (P := P) (w := w) (base := base) T), (hr.mono (by decide))⟩, trivial⟩ pass_def (j_var 0) (ja_cons (j_var 1) ja_nil)))
  (jb_one (js_ret (j_callB (f_sum rfl) rfl T.z_sum (by decide +kernel) (ja_cons (j_comp (own := [("piece", 3)]) (by decide) rfl sc_Prices_call.nd (ji_keys (j_var 2)) (blkOk_by (N := ["self", "spots", "bill", "piece"]) (sc := defScope s_Prices_call) (by decide +kernel)) (fun _ _ _ _ _ => (jg_name 3 sc_Prices_call.nd rfl (by first | exact Or.inl rfl | exact Or.inr rfl))) (fun _ _ _ _ _ => jts_nil) (fun _ _ _ _ _ => (j_op b_add (j_ix (j_attr (tab := [(4, .slot 0)]) ⟨⟨T.cl_4, T.sl_4_open_prices⟩, trivial⟩ (j_var 0)) (j_var 3) (fun _ _ => rfl)) (j_callB (f_min rfl) rfl T.z_min (by decide +kernel) (ja_cons (j_ixK (u1 hr.units) (j_var 2) (j_var 3) (fun _ _ => rfl)) (ja_cons (j_ix (j_attr (tab := [(4, .slot 2)]) ⟨⟨T.cl_4, T.sl_4_whole_prices⟩, trivial⟩ (j_var 0)) (j_var 3) (fun _ _ => rfl)) ja_nil)))))) ja_nil)))))))
theorem sc_cost : FnScope ["_law_prices_here", "_law_spots_here", "_law_total", "_law_piece", "_law_bill", "_law_spot"] ["_law_prices_here", "_law_spots_here"] (defScope s_cost) := ⟨rfl, rfl, rfl, by decide +kernel, rfl, by decide +kernel, by decide +kernel⟩
theorem ok_cost (T : Txt P k ad ca ta K mg) : FnR P w K mg base (L2.CX P w) 1 (ad 108) (spD k K 2 d_cost) :=
  fnr_ok (N := ["_law_prices_here", "_law_spots_here", "_law_total", "_law_piece", "_law_bill", "_law_spot"]) (ps := ["_law_prices_here", "_law_spots_here"]) (lvl := 0) (m := b_cost) T.f_cost sc_cost (fun cdv A outer s H E hr =>
  (jb_cons (js_set 2 sc_cost.nd rfl (by first | exact Or.inl rfl | exact Or.inr rfl) j_int)
  (jb_cons (js_for (passes_of rfl) rfl (ji_range1 rfl T.z_range (ja_cons (j_callB f_len rfl T.z_len (by decide +kernel) (ja_cons (j_ix (j_var 0) j_int (fun _ _ => rfl)) ja_nil)) ja_nil)) (jg_name 3 sc_cost.nd rfl (by first | exact Or.inl rfl | exact Or.inr rfl))
  (jb_cons (js_setC (i := 4) (own := [("_law_spot", 5)]) fin_lst (by decide) rfl sc_cost.nd rfl rfl rfl (ji_seq (j_var 1)) (blkOk_by (N := ["_law_prices_here", "_law_spots_here", "_law_total", "_law_piece", "_law_bill", "_law_spot"]) (sc := defScope s_cost) (by decide +kernel)) (fun _ _ _ _ _ => (jg_name 5 sc_cost.nd rfl (by first | exact Or.inl rfl | exact Or.inr rfl))) (fun _ _ _ _ _ => (jts_one (jt_cmp (b_eq hr.units) (j_ix (j_var 5) j_int (fun _ _ => rfl)) (j_var 3) (nomark _)))) (fun _ _ _ _ _ => (j_ix (j_ix (j_ix (j_var 0) j_int (fun _ _ => rfl)) (j_var 3) (fun _ _ => rfl)) (j_ix (j_var 5) j_int (fun _ _ => rfl)) (fun _ _ => rfl))))
  (jb_one (js_if (jt_cmp (b_ne hr.units) (j_var 4) (j_lst ja_nil) (nomark _)) (jb_one (js_set 2 sc_cost.nd rfl (by first | exact Or.inl rfl | exact Or.inr rfl) (j_op b_add (j_op b_add (j_var 2) (j_ix (j_ix (j_var 0) j_int (fun _ _ => rfl)) (j_var 3) (fun _ _ => rfl))) (j_callB (f_min rfl) rfl T.z_min (by decide +kernel) (ja_cons (j_callB (f_sum rfl) rfl T.z_sum (by decide +kernel) (ja_cons (j_var 4) ja_nil)) (ja_cons (j_ix (j_ix (j_var 0) j_int (fun _ _ => rfl)) (j_var 3) (fun _ _ => rfl)) ja_nil)))))) jb_nil))))
  (jb_one (js_ret (j_var 2))))))
theorem sc_Prices_paid : FnScope ["self", "spots", "bill", "found", "piece", "prices", "part", "is_whole"] ["self", "spots"] (defScope s_Prices_paid) := ⟨rfl, rfl, rfl, by decide +kernel, rfl, by decide +kernel, by decide +kernel⟩
theorem ok_Prices_paid (T : Txt P k ad ca ta K mg) : FnR P w K mg base (L2.CX P w) 4 (ad 91) (spD k K 2 d_Prices_paid) :=
  fnr_ok (N := ["self", "spots", "bill", "found", "piece", "prices", "part", "is_whole"]) (ps := ["self", "spots"]) (lvl := 3) (m := b_Prices_paid) T.f_Prices_paid sc_Prices_paid (fun cdv A outer s H E hr =>
  (jb_cons (js_expr (j_meth (tab := [(4, 2, d_Prices_require)]) ⟨⟨T.cl_4, _, _, T.me_4_require, (ok_Prices_require (P := P) (w := w) (base := base) T), (hr.mono (by decide))⟩, trivial⟩ pass_def (j_var 0) (ja_cons (j_var 1) ja_nil)))
  (jb_cons (js_par 2 3 rfl sc_Prices_paid.nd rfl rfl (by decide) rfl rfl (ja_cons (j_meth (tab := [(4, 2, d_Prices_bill)]) ⟨⟨T.cl_4, _, _, T.me_4_bill, (ok_Prices_bill (P := P) (w := w) (base := base) T), (hr.mono (by decide))⟩, trivial⟩ pass_def (j_var 0) (ja_cons (j_var 1) ja_nil)) (ja_cons (j_lstM ja_nil) ja_nil)) rfl)
  (jb_cons (js_for (passes_of rfl) rfl (ji_enumK rfl T.z_enumerate (ja_cons (j_attr (tab := [(4, .slot 1)]) ⟨⟨T.cl_4, T.sl_4_part_prices⟩, trivial⟩ (j_var 0)) ja_nil)) (jg_tup rfl (jgs_cons (jg_name 4 sc_Prices_paid.nd rfl (by first | exact Or.inl rfl | exact Or.inr rfl)) (jgs_cons (jg_name 5 sc_Prices_paid.nd rfl (by first | exact Or.inl rfl | exact Or.inr rfl)) jgs_nil)))
  (jb_one (js_for (passes_of rfl) rfl (ji_range1 rfl T.z_range (ja_cons (j_callB f_len rfl T.z_len (by decide +kernel) (ja_cons (j_var 5) ja_nil)) ja_nil)) (jg_name 6 sc_Prices_paid.nd rfl (by first | exact Or.inl rfl | exact Or.inr rfl))
  (jb_cons (js_set 7 sc_Prices_paid.nd rfl (by first | exact Or.inl rfl | exact Or.inr rfl) (j_and (j_cmp (b_inK (u1 hr.units)) (j_var 4) (j_var 2) (by with_unfolding_all rfl)) (j_one (j_cmp b_le (j_ix (j_attr (tab := [(4, .slot 2)]) ⟨⟨T.cl_4, T.sl_4_whole_prices⟩, trivial⟩ (j_var 0)) (j_var 4) (fun _ _ => rfl)) (j_ixK (u1 hr.units) (j_var 2) (j_var 4) (fun _ _ => rfl)) (nomark _)))))
  (jb_one (js_if (jt_w (jw_or (jt_val (j_var 7)) (jw_or1 (jt_cmp (b_in (hr_un65 hr)) (j_tup (ja_cons (j_var 4) (ja_cons (j_var 6) ja_nil))) (j_var 1) (by with_unfolding_all rfl))))) (jb_one (js_expr (j_app (j_var 3) (j_tup (ja_cons (j_var 4) (ja_cons (j_var 6) ja_nil)))))) jb_nil))))))
  (jb_one (js_ret (j_callTy f_tuple rfl T.z_tuple (by decide +kernel) (ja_cons (j_var 3) ja_nil))))))))
theorem sc_paid : FnScope ["_law_prices_here", "_law_spots_here", "_law_found", "_law_piece", "_law_bill", "_law_is_whole", "_law_part", "_law_spot"] ["_law_prices_here", "_law_spots_here"] (defScope s_paid) := ⟨rfl, rfl, rfl, by decide +kernel, rfl, by decide +kernel, by decide +kernel⟩
theorem ok_paid (T : Txt P k ad ca ta K mg) : FnR P w K mg base (L2.CX P w) 1 (ad 109) (spD k K 2 d_paid) :=
  fnr_ok (N := ["_law_prices_here", "_law_spots_here", "_law_found", "_law_piece", "_law_bill", "_law_is_whole", "_law_part", "_law_spot"]) (ps := ["_law_prices_here", "_law_spots_here"]) (lvl := 0) (m := b_paid) T.f_paid sc_paid (fun cdv A outer s H E hr =>
  (jb_cons (js_set 2 sc_paid.nd rfl (by first | exact Or.inl rfl | exact Or.inr rfl) (j_lstM ja_nil))
  (jb_cons (js_for (passes_of rfl) rfl (ji_range1 rfl T.z_range (ja_cons (j_callB f_len rfl T.z_len (by decide +kernel) (ja_cons (j_ix (j_var 0) j_int (fun _ _ => rfl)) ja_nil)) ja_nil)) (jg_name 3 sc_paid.nd rfl (by first | exact Or.inl rfl | exact Or.inr rfl))
  (jb_cons (js_setC (i := 4) (own := [("_law_spot", 7)]) fin_lst (by decide) rfl sc_paid.nd rfl rfl rfl (ji_seq (j_var 1)) (blkOk_by (N := ["_law_prices_here", "_law_spots_here", "_law_found", "_law_piece", "_law_bill", "_law_is_whole", "_law_part", "_law_spot"]) (sc := defScope s_paid) (by decide +kernel)) (fun _ _ _ _ _ => (jg_name 7 sc_paid.nd rfl (by first | exact Or.inl rfl | exact Or.inr rfl))) (fun _ _ _ _ _ => (jts_one (jt_cmp (b_eq hr.units) (j_ix (j_var 7) j_int (fun _ _ => rfl)) (j_var 3) (nomark _)))) (fun _ _ _ _ _ => (j_ix (j_ix (j_ix (j_var 0) j_int (fun _ _ => rfl)) (j_var 3) (fun _ _ => rfl)) (j_ix (j_var 7) j_int (fun _ _ => rfl)) (fun _ _ => rfl))))
  (jb_cons (js_set 5 sc_paid.nd rfl (by first | exact Or.inl rfl | exact Or.inr rfl) (j_and (j_cmp (b_ne hr.units) (j_var 4) (j_lst ja_nil) (nomark _)) (j_one (j_cmp b_le (j_ix (j_ix (j_var 0) j_int (fun _ _ => rfl)) (j_var 3) (fun _ _ => rfl)) (j_callB (f_sum rfl) rfl T.z_sum (by decide +kernel) (ja_cons (j_var 4) ja_nil)) (nomark _)))))
  (jb_one (js_for (passes_of rfl) rfl (ji_range1 rfl T.z_range (ja_cons (j_callB f_len rfl T.z_len (by decide +kernel) (ja_cons (j_ix (j_ix (j_var 0) j_int (fun _ _ => rfl)) (j_var 3) (fun _ _ => rfl)) ja_nil)) ja_nil)) (jg_name 6 sc_paid.nd rfl (by first | exact Or.inl rfl | exact Or.inr rfl))
  (jb_one (js_if (jt_w (jw_or (jt_val (j_var 5)) (jw_or1 (jt_cmp (b_in (hr_un65 hr)) (j_tup (ja_cons (j_var 3) (ja_cons (j_var 6) ja_nil))) (j_var 1) (by with_unfolding_all rfl))))) (jb_one (js_expr (j_app (j_var 2) (j_tup (ja_cons (j_var 3) (ja_cons (j_var 6) ja_nil)))))) jb_nil)))))))
  (jb_one (js_ret (j_callTy f_tuple rfl T.z_tuple (by decide +kernel) (ja_cons (j_var 2) ja_nil)))))))
theorem sc_is_integer : FnScope ["value"] ["value"] (defScope s_is_integer) := ⟨rfl, rfl, rfl, by decide +kernel, rfl, by decide +kernel, by decide +kernel⟩
theorem ok_is_integer (T : Txt P k ad ca ta K mg) : FnR P w K mg base (L2.CX P w) 1 (ad 11) (spD k K 1 d_is_integer) :=
  fnr_ok (N := ["value"]) (ps := ["value"]) (lvl := 0) (m := b_is_integer) T.f_is_integer sc_is_integer (fun cdv A outer s H E hr =>
  (jb_one (js_ret (j_and (j_isi (cs := [0, 1, 2, 3, 4]) (t := .int) (u := .type "int") (c := .ty "int") (te := tC (.ty "int")) ⟨(in_cons ⟨T.cl_0, T.is_0, T.ki_0_int⟩ (in_cons ⟨T.cl_1, T.is_1, T.ki_1_int⟩ (in_cons ⟨T.cl_2, T.is_2, T.ki_2_int⟩ (in_cons ⟨T.cl_3, T.is_3, T.ki_3_int⟩ (in_cons ⟨T.cl_4, T.is_4, T.ki_4_int⟩ in_nil))))), kit_bu .int (by simp)⟩ rfl (fun _ h => h) (.ty _) rfl T.z_isinstance (j_var 0) (pe_bltn rfl T.z_int (by decide +kernel) rfl)) (j_one (j_not (j_isi (cs := [0, 1, 2, 3, 4]) (t := .bool) (u := .type "bool") (c := .ty "bool") (te := tC (.ty "bool")) ⟨(in_cons ⟨T.cl_0, T.is_0, T.ki_0_bool⟩ (in_cons ⟨T.cl_1, T.is_1, T.ki_1_bool⟩ (in_cons ⟨T.cl_2, T.is_2, T.ki_2_bool⟩ (in_cons ⟨T.cl_3, T.is_3, T.ki_3_bool⟩ (in_cons ⟨T.cl_4, T.is_4, T.ki_4_bool⟩ in_nil))))), kit_bu .bool (by simp)⟩ rfl (fun _ h => h) (.ty _) rfl T.z_isinstance (j_var 0) (pe_bltn rfl T.z_bool (by decide +kernel) rfl))))))))
theorem sc_is_prime : FnScope ["value"] ["value"] (defScope s_is_prime) := ⟨rfl, rfl, rfl, by decide +kernel, rfl, by decide +kernel, by decide +kernel⟩
theorem ok_is_prime (T : Txt P k ad ca ta K mg) : FnR P w K mg base (L2.CX P w) 2 (ad 12) (spD k K 1 d_is_prime) :=
  fnr_ok (N := ["value"]) (ps := ["value"]) (lvl := 1) (m := b_is_prime) T.f_is_prime sc_is_prime (fun cdv A outer s H E hr =>
  (jb_one (js_ret (j_and (j_call (ok_is_integer (P := P) (w := w) (base := base) T) (hr.mono (by decide)) pass_def rfl T.m_is_integer T.f_is_integer.kp (ja_cons (j_var 0) ja_nil)) (j_one (j_cmp (b_in (hr_un65 hr)) (j_var 0) (j_globD T.g_PRIMES rfl) (by with_unfolding_all rfl)))))))
theorem sc_power : FnScope ["base", "exponent", "found", "index"] ["base", "exponent"] (defScope s_power) := ⟨rfl, rfl, rfl, by decide +kernel, rfl, by decide +kernel, by decide +kernel⟩
theorem ok_power (T : Txt P k ad ca ta K mg) : FnR P w K mg base (L2.CX P w) 1 (ad 9) (spD k K 2 d_power) :=
  fnr_ok (N := ["base", "exponent", "found", "index"]) (ps := ["base", "exponent"]) (lvl := 0) (m := b_power) T.f_power sc_power (fun cdv A outer s H E hr =>
  (jb_cons (js_set 2 sc_power.nd rfl (by first | exact Or.inl rfl | exact Or.inr rfl) j_int)
  (jb_cons (js_for (passes_of rfl) rfl (ji_range1 rfl T.z_range (ja_cons (j_var 1) ja_nil)) (jg_name 3 sc_power.nd rfl (by first | exact Or.inl rfl | exact Or.inr rfl))
  (jb_one (js_set 2 sc_power.nd rfl (by first | exact Or.inl rfl | exact Or.inr rfl) (j_op b_mul (j_var 2) (j_var 0)))))
  (jb_one (js_ret (j_var 2))))))
theorem sc_is_size : FnScope ["prime", "value"] ["prime", "value"] (defScope s_is_size) := ⟨rfl, rfl, rfl, by decide +kernel, rfl, by decide +kernel, by decide +kernel⟩
theorem ok_is_size (T : Txt P k ad ca ta K mg) : FnR P w K mg base (L2.CX P w) 3 (ad 13) (spD k K 2 d_is_size) :=
  fnr_ok (N := ["prime", "value"]) (ps := ["prime", "value"]) (lvl := 2) (m := b_is_size) T.f_is_size sc_is_size (fun cdv A outer s H E hr =>
  (jb_one (js_ret (j_and (j_call (ok_is_prime (P := P) (w := w) (base := base) T) (hr.mono (by decide)) pass_def rfl T.m_is_prime T.f_is_prime.kp (ja_cons (j_var 0) ja_nil)) (j_and (j_call (ok_is_between (P := P) (w := w) (base := base) T) (hr.mono (by decide)) pass_def rfl T.m_is_between T.f_is_between.kp (ja_cons (j_var 1) (ja_cons j_int (ja_cons j_int ja_nil)))) (j_one (j_cmp b_le (j_call (ok_power (P := P) (w := w) (base := base) T) (hr.mono (by decide)) pass_def rfl T.m_power T.f_power.kp (ja_cons (j_var 0) (ja_cons (j_var 1) ja_nil))) (j_globD T.g_MOST_DATA rfl) (nomark _))))))))
theorem sc_is_data : FnScope ["prime", "size", "value", "number"] ["prime", "size", "value"] (defScope s_is_data) := ⟨rfl, rfl, rfl, by decide +kernel, rfl, by decide +kernel, by decide +kernel⟩
theorem ok_is_data (T : Txt P k ad ca ta K mg) : FnR P w K mg base (L2.CX P w) 4 (ad 14) (spD k K 3 d_is_data) :=
  fnr_ok (N := ["prime", "size", "value", "number"]) (ps := ["prime", "size", "value"]) (lvl := 3) (m := b_is_data) T.f_is_data sc_is_data (fun cdv A outer s H E hr =>
  (jb_cons (js_if (jt_w (jw_or (jt_not (jt_val (j_call (ok_is_size (P := P) (w := w) (base := base) T) (hr.mono (by decide)) pass_def rfl T.m_is_size T.f_is_size.kp (ja_cons (j_var 0) (ja_cons (j_var 1) ja_nil))))) (jw_or (jt_not (jt_val (j_isiS (cs := [0, 1, 2, 3, 4]) ⟨(in_cons ⟨T.cl_0, T.is_0, T.kas_0⟩ (in_cons ⟨T.cl_1, T.is_1, T.kas_1⟩ (in_cons ⟨T.cl_2, T.is_2, T.kas_2⟩ (in_cons ⟨T.cl_3, T.is_3, T.kas_3⟩ (in_cons ⟨T.cl_4, T.is_4, T.kas_4⟩ in_nil)))))⟩ rfl T.z_isinstance rfl T.z_list rfl T.z_tuple (j_var 2)))) (jw_or1 (jt_cmp (b_ne hr.units) (j_callB f_len rfl T.z_len (by decide +kernel) (ja_cons (j_var 2) ja_nil)) (j_var 1) (nomark _)))))) (jb_one (js_ret j_bl)) jb_nil)
  (jb_one (js_ret (j_callB (f_all rfl) rfl T.z_all (by decide +kernel) (ja_cons (j_comp (own := [("number", 3)]) (by decide) rfl sc_is_data.nd (ji_seq (j_var 2)) (blkOk_by (N := ["prime", "size", "value", "number"]) (sc := defScope s_is_data) (by decide +kernel)) (fun _ _ _ _ _ => (jg_name 3 sc_is_data.nd rfl (by first | exact Or.inl rfl | exact Or.inr rfl))) (fun _ _ _ _ _ => jts_nil) (fun _ _ _ _ _ => (j_call (ok_is_between (P := P) (w := w) (base := base) T) (hr.mono (by decide)) passL rfl T.m_is_between T.f_is_between.kp (ja_cons (j_var 3) (ja_cons j_int (ja_cons (j_op b_sub (j_var 0) j_int) ja_nil)))))) ja_nil))))))
theorem sc_require_pieces : FnScope ["prime", "size", "pieces", "index", "piece", "part", "factors"] ["prime", "size", "pieces"] (defScope s_require_pieces) := ⟨rfl, rfl, rfl, by decide +kernel, rfl, by decide +kernel, by decide +kernel⟩
theorem ok_require_pieces (T : Txt P k ad ca ta K mg) : FnR P w K mg base (L2.CX P w) 5 (ad 59) (spD k K 3 d_require_pieces) :=
  fnr_ok (N := ["prime", "size", "pieces", "index", "piece", "part", "factors"]) (ps := ["prime", "size", "pieces"]) (lvl := 4) (m := b_require_pieces) T.f_require_pieces sc_require_pieces (fun cdv A outer s H E hr =>
  (jb_cons (js_if (jt_w (jw_or (jt_not (jt_val (j_call (ok_is_row (P := P) (w := w) (base := base) T) (hr.mono (by decide)) pass_def rfl T.m_is_row T.f_is_row.kp (ja_cons (j_var 2) ja_nil)))) (jw_or1 (jt_not (jt_chain b_le b_le j_int (j_callB f_len rfl T.z_len (by decide +kernel) (ja_cons (j_var 2) ja_nil)) (j_globD T.g_MOST_PIECES rfl)))))) (jb_one (js_raise (lvl := 0) T.er_12.choose_spec T.xf_12 rfl take_def (hr.mono (by decide)) rfl T.ge_12 j_non)) jb_nil)
  (jb_cons (js_if (jt_cmp b_gt (j_callB (f_sum rfl) rfl T.z_sum (by decide +kernel) (ja_cons (j_comp (own := [("piece", 4)]) (by decide) rfl sc_require_pieces.nd (ji_seq (j_var 2)) (blkOk_by (N := ["prime", "size", "pieces", "index", "piece", "part", "factors"]) (sc := defScope s_require_pieces) (by decide +kernel)) (fun _ _ _ _ _ => (jg_name 4 sc_require_pieces.nd rfl (by first | exact Or.inl rfl | exact Or.inr rfl))) (fun _ _ _ _ _ => (jts_one (jt_val (j_call (ok_is_row (P := P) (w := w) (base := base) T) (hr.mono (by decide)) passL rfl T.m_is_row T.f_is_row.kp (ja_cons (j_var 4) ja_nil))))) (fun _ _ _ _ _ => (j_callB f_len rfl T.z_len (by decide +kernel) (ja_cons (j_var 4) ja_nil)))) ja_nil)) (j_globD T.g_MOST_SPOTS rfl) (nomark _)) (jb_one (js_raise (lvl := 0) T.er_12.choose_spec T.xf_12 rfl take_def (hr.mono (by decide)) rfl T.ge_12 j_non)) jb_nil)
  (jb_one (js_for (passes_of rfl) rfl (ji_enumK rfl T.z_enumerate (ja_cons (j_var 2) ja_nil)) (jg_tup rfl (jgs_cons (jg_name 3 sc_require_pieces.nd rfl (by first | exact Or.inl rfl | exact Or.inr rfl)) (jgs_cons (jg_name 4 sc_require_pieces.nd rfl (by first | exact Or.inl rfl | exact Or.inr rfl)) jgs_nil)))
  (jb_cons (js_if (jt_w (jw_or (jt_not (jt_val (j_call (ok_is_row (P := P) (w := w) (base := base) T) (hr.mono (by decide)) pass_def rfl T.m_is_row T.f_is_row.kp (ja_cons (j_var 4) ja_nil)))) (jw_or1 (jt_not (jt_chain b_le b_le j_int (j_callB f_len rfl T.z_len (by decide +kernel) (ja_cons (j_var 4) ja_nil)) (j_globD T.g_MOST_PARTS rfl)))))) (jb_one (js_raise (lvl := 0) T.er_12.choose_spec T.xf_12 rfl take_def (hr.mono (by decide)) rfl T.ge_12 (j_tup (ja_cons (j_var 3) ja_nil)))) jb_nil)
  (jb_one (js_for (passes_of rfl) rfl (ji_enumK rfl T.z_enumerate (ja_cons (j_var 4) ja_nil)) (jg_tup rfl (jgs_cons (jg_name 5 sc_require_pieces.nd rfl (by first | exact Or.inl rfl | exact Or.inr rfl)) (jgs_cons (jg_name 6 sc_require_pieces.nd rfl (by first | exact Or.inl rfl | exact Or.inr rfl)) jgs_nil)))
  (jb_one (js_if (jt_not (jt_val (j_call (ok_is_data (P := P) (w := w) (base := base) T) (hr.mono (by decide)) pass_def rfl T.m_is_data T.f_is_data.kp (ja_cons (j_var 0) (ja_cons (j_var 1) (ja_cons (j_var 6) ja_nil)))))) (jb_one (js_raise (lvl := 0) T.er_12.choose_spec T.xf_12 rfl take_def (hr.mono (by decide)) rfl T.ge_12 (j_tup (ja_cons (j_var 3) (ja_cons (j_var 5) ja_nil))))) jb_nil))))))))))
theorem sc_Table_init : FnScope ["self", "prime", "size", "pieces", "spots", "index", "piece", "part", "factors"] ["self", "prime", "size", "pieces"] (defScope s_Table_init) := ⟨rfl, rfl, rfl, by decide +kernel, rfl, by decide +kernel, by decide +kernel⟩
theorem ok_Table_init (T : Txt P k ad ca ta K mg) : FnR P w K mg base (L2.CX P w) 6 (ad 60) (spD k K 4 d_Table_init) :=
  fnr_ok (N := ["self", "prime", "size", "pieces", "spots", "index", "piece", "part", "factors"]) (ps := ["self", "prime", "size", "pieces"]) (lvl := 5) (m := b_Table_init) T.f_Table_init sc_Table_init (fun cdv A outer s H E hr =>
  (jb_cons (js_if (jt_not (jt_val (j_call (ok_is_prime (P := P) (w := w) (base := base) T) (hr.mono (by decide)) pass_def rfl T.m_is_prime T.f_is_prime.kp (ja_cons (j_var 1) ja_nil)))) (jb_one (js_raise (lvl := 0) T.er_11.choose_spec T.xf_11 rfl take_def (hr.mono (by decide)) rfl T.ge_11 (j_var 1))) jb_nil)
  (jb_cons (js_if (jt_not (jt_val (j_call (ok_is_size (P := P) (w := w) (base := base) T) (hr.mono (by decide)) pass_def rfl T.m_is_size T.f_is_size.kp (ja_cons (j_var 1) (ja_cons (j_var 2) ja_nil))))) (jb_one (js_raise (lvl := 0) T.er_11.choose_spec T.xf_11 rfl take_def (hr.mono (by decide)) rfl T.ge_11 (j_var 2))) jb_nil)
  (jb_cons (js_expr (j_call (ok_require_pieces (P := P) (w := w) (base := base) T) (hr.mono (by decide)) pass_def rfl T.m_require_pieces T.f_require_pieces.kp (ja_cons (j_var 1) (ja_cons (j_var 2) (ja_cons (j_var 3) ja_nil)))))
  (jb_cons (js_asg (j_tup (ja_cons (j_var 1) (ja_cons (j_var 2) ja_nil))) (jg_tup rfl (jgs_cons (jg_attr (tab := [(3, 1)]) ⟨⟨T.cl_3, T.sl_3_own_prime⟩, trivial⟩ (j_var 0)) (jgs_cons (jg_attr (tab := [(3, 2)]) ⟨⟨T.cl_3, T.sl_3_own_size⟩, trivial⟩ (j_var 0)) jgs_nil))))
  (jb_cons (js_attr (tab := [(3, 0)]) ⟨⟨T.cl_3, T.sl_3_own_pieces⟩, trivial⟩ (j_var 0) (j_callTy f_tuple rfl T.z_tuple (by decide +kernel) (ja_cons (j_comp (own := [("piece", 6)]) (by decide) rfl sc_Table_init.nd (ji_seq (j_var 3)) (blkOk_by (N := ["self", "prime", "size", "pieces", "spots", "index", "piece", "part", "factors"]) (sc := defScope s_Table_init) (by decide +kernel)) (fun _ _ _ _ _ => (jg_name 6 sc_Table_init.nd rfl (by first | exact Or.inl rfl | exact Or.inr rfl))) (fun _ _ _ _ _ => jts_nil) (fun _ _ _ _ _ => (j_callTy f_tuple rfl T.z_tuple (by decide +kernel) (ja_cons (j_comp (own := [("factors", 8)]) (by decide) rfl sc_Table_init.nd (ji_seq (j_var 6)) (blkOk_nest (N := ["self", "prime", "size", "pieces", "spots", "index", "piece", "part", "factors"]) (by decide +kernel)) (fun _ _ _ _ _ => (jg_name 8 sc_Table_init.nd rfl (by first | exact Or.inl rfl | exact Or.inr rfl))) (fun _ _ _ _ _ => jts_nil) (fun _ _ _ _ _ => (j_callTy f_tuple rfl T.z_tuple (by decide +kernel) (ja_cons (j_var 8) ja_nil)))) ja_nil)))) ja_nil)))
  (jb_cons (js_set 4 sc_Table_init.nd rfl (by first | exact Or.inl rfl | exact Or.inr rfl) (j_lstM ja_nil))
  (jb_cons (js_fz 4 (js_for (passes_of rfl) rfl (ji_enumK rfl T.z_enumerate (ja_cons (j_attr (tab := [(3, .slot 0)]) ⟨⟨T.cl_3, T.sl_3_own_pieces⟩, trivial⟩ (j_var 0)) ja_nil)) (jg_tup rfl (jgs_cons (jg_name 5 sc_Table_init.nd rfl (by first | exact Or.inl rfl | exact Or.inr rfl)) (jgs_cons (jg_name 6 sc_Table_init.nd rfl (by first | exact Or.inl rfl | exact Or.inr rfl)) jgs_nil)))
  (jb_one (js_expr (j_ext (own := [("part", 7)]) (j_var 4) (by decide) rfl sc_Table_init.nd (ji_range1 rfl T.z_range (ja_cons (j_callB f_len rfl T.z_len (by decide +kernel) (ja_cons (j_var 6) ja_nil)) ja_nil)) (blkOk_by (N := ["self", "prime", "size", "pieces", "spots", "index", "piece", "part", "factors"]) (sc := defScope s_Table_init) (by decide +kernel)) (fun _ _ _ _ _ => (jg_name 7 sc_Table_init.nd rfl (by first | exact Or.inl rfl | exact Or.inr rfl))) (fun _ _ _ _ _ => jts_nil) (fun _ _ _ _ _ => (j_tup (ja_cons (j_var 5) (ja_cons (j_var 7) ja_nil)))))))))
  (jb_one (js_attr (tab := [(3, 3)]) ⟨⟨T.cl_3, T.sl_3_own_spots⟩, trivial⟩ (j_var 0) (j_var 4)))))))))))
theorem sc_Table_pieces : FnScope ["self"] ["self"] (defScope s_Table_pieces) := ⟨rfl, rfl, rfl, by decide +kernel, rfl, by decide +kernel, by decide +kernel⟩
theorem ok_Table_pieces (T : Txt P k ad ca ta K mg) : FnR P w K mg base (L2.CX P w) 1 (ad 63) (spD k K 1 d_Table_pieces) :=
  fnr_ok (N := ["self"]) (ps := ["self"]) (lvl := 0) (m := b_Table_pieces) T.f_Table_pieces sc_Table_pieces (fun cdv A outer s H E hr =>
  (jb_one (js_ret (j_attr (tab := [(3, .slot 0)]) ⟨⟨T.cl_3, T.sl_3_own_pieces⟩, trivial⟩ (j_var 0)))))
theorem sc_Stored_pieces : FnScope ["self"] ["self"] (defScope s_Stored_pieces) := ⟨rfl, rfl, rfl, by decide +kernel, rfl, by decide +kernel, by decide +kernel⟩
theorem ok_Stored_pieces (T : Txt P k ad ca ta K mg) : FnR P w K mg base (L2.CX P w) 1 (ad 47) (spD k K 1 d_Stored_pieces) :=
  fnr_ok (N := ["self"]) (ps := ["self"]) (lvl := 0) (m := b_Stored_pieces) T.f_Stored_pieces sc_Stored_pieces (fun cdv A outer s H E hr =>
  (jb_one (js_ret (j_attr (tab := [(2, .slot 0)]) ⟨⟨T.cl_2, T.sl_2_own_pieces⟩, trivial⟩ (j_var 0)))))
theorem sc_Prices_fits : FnScope ["self", "table", "piece"] ["self", "table"] (defScope s_Prices_fits) := ⟨rfl, rfl, rfl, by decide +kernel, rfl, by decide +kernel, by decide +kernel⟩
theorem ok_Prices_fits (T : Txt P k ad ca ta K mg) : FnR P w K mg base (L2.CX P w) 3 (ad 86) (spD k K 2 d_Prices_fits) :=
  fnr_ok (N := ["self", "table", "piece"]) (ps := ["self", "table"]) (lvl := 2) (m := b_Prices_fits) T.f_Prices_fits sc_Prices_fits (fun cdv A outer s H E hr =>
  (jb_cons (js_if (jt_not (jt_val (j_isi (cs := [0, 1, 2, 3, 4]) (t := .cls 3) (u := .ref (k.cl 3)) (c := .ref (k.cl 3)) (te := tC (.ref (k.cl 3))) ⟨(in_cons ⟨T.cl_0, T.is_0, T.ki_0_3⟩ (in_cons ⟨T.cl_1, T.is_1, T.ki_1_3⟩ (in_cons ⟨T.cl_2, T.is_2, T.ki_2_3⟩ (in_cons ⟨T.cl_3, T.is_3, T.ki_3_3⟩ (in_cons ⟨T.cl_4, T.is_4, T.ki_4_3⟩ in_nil))))), T.kb_3⟩ rfl (fun _ h => h) (.own _) rfl T.z_isinstance (j_var 1) (pe_glob rfl T.g_Table rfl)))) (jb_one (js_ret j_bl)) jb_nil)
  (jb_one (js_ret (j_cmp (b_eq hr.units) (j_comp (own := [("piece", 2)]) (by decide) rfl sc_Prices_fits.nd (ji_seq (j_attr (tab := [(2, .prop d_Stored_pieces), (3, .prop d_Table_pieces)]) ⟨prop_at (T.cl_2) T.pr_2_pieces (ok_Stored_pieces (P := P) (w := w) (base := base) T) (hr.mono (by decide)), ⟨prop_at (T.cl_3) T.pr_3_pieces (ok_Table_pieces (P := P) (w := w) (base := base) T) (hr.mono (by decide)), trivial⟩⟩ (j_var 1))) (blkOk_by (N := ["self", "table", "piece"]) (sc := defScope s_Prices_fits) (by decide +kernel)) (fun _ _ _ _ _ => (jg_name 2 sc_Prices_fits.nd rfl (by first | exact Or.inl rfl | exact Or.inr rfl))) (fun _ _ _ _ _ => jts_nil) (fun _ _ _ _ _ => (j_callB f_len rfl T.z_len (by decide +kernel) (ja_cons (j_var 2) ja_nil)))) (j_comp (own := [("piece", 2)]) (by decide) rfl sc_Prices_fits.nd (ji_seq (j_attr (tab := [(4, .slot 1)]) ⟨⟨T.cl_4, T.sl_4_part_prices⟩, trivial⟩ (j_var 0))) (blkOk_by (N := ["self", "table", "piece"]) (sc := defScope s_Prices_fits) (by decide +kernel)) (fun _ _ _ _ _ => (jg_name 2 sc_Prices_fits.nd rfl (by first | exact Or.inl rfl | exact Or.inr rfl))) (fun _ _ _ _ _ => jts_nil) (fun _ _ _ _ _ => (j_callB f_len rfl T.z_len (by decide +kernel) (ja_cons (j_var 2) ja_nil)))) (nomark _))))))
theorem sc_Table_prime : FnScope ["self"] ["self"] (defScope s_Table_prime) := ⟨rfl, rfl, rfl, by decide +kernel, rfl, by decide +kernel, by decide +kernel⟩
theorem ok_Table_prime (T : Txt P k ad ca ta K mg) : FnR P w K mg base (L2.CX P w) 1 (ad 61) (spD k K 1 d_Table_prime) :=
  fnr_ok (N := ["self"]) (ps := ["self"]) (lvl := 0) (m := b_Table_prime) T.f_Table_prime sc_Table_prime (fun cdv A outer s H E hr =>
  (jb_one (js_ret (j_attr (tab := [(3, .slot 1)]) ⟨⟨T.cl_3, T.sl_3_own_prime⟩, trivial⟩ (j_var 0)))))
theorem sc_Space_prime : FnScope ["self"] ["self"] (defScope s_Space_prime) := ⟨rfl, rfl, rfl, by decide +kernel, rfl, by decide +kernel, by decide +kernel⟩
theorem ok_Space_prime (T : Txt P k ad ca ta K mg) : FnR P w K mg base (L2.CX P w) 1 (ad 30) (spD k K 1 d_Space_prime) :=
  fnr_ok (N := ["self"]) (ps := ["self"]) (lvl := 0) (m := b_Space_prime) T.f_Space_prime sc_Space_prime (fun cdv A outer s H E hr =>
  (jb_one (js_ret (j_attr (tab := [(1, .slot 1)]) ⟨⟨T.cl_1, T.sl_1_own_prime⟩, trivial⟩ (j_var 0)))))
theorem sc_Sum_prime : FnScope ["self"] ["self"] (defScope s_Sum_prime) := ⟨rfl, rfl, rfl, by decide +kernel, rfl, by decide +kernel, by decide +kernel⟩
theorem ok_Sum_prime (T : Txt P k ad ca ta K mg) : FnR P w K mg base (L2.CX P w) 1 (ad 17) (spD k K 1 d_Sum_prime) :=
  fnr_ok (N := ["self"]) (ps := ["self"]) (lvl := 0) (m := b_Sum_prime) T.f_Sum_prime sc_Sum_prime (fun cdv A outer s H E hr =>
  (jb_one (js_ret (j_attr (tab := [(0, .slot 0)]) ⟨⟨T.cl_0, T.sl_0_own_prime⟩, trivial⟩ (j_var 0)))))
theorem sc_Stored_fits : FnScope ["self", "table", "piece", "parts"] ["self", "table"] (defScope s_Stored_fits) := ⟨rfl, rfl, rfl, by decide +kernel, rfl, by decide +kernel, by decide +kernel⟩
theorem ok_Stored_fits (T : Txt P k ad ca ta K mg) : FnR P w K mg base (L2.CX P w) 3 (ad 56) (spD k K 2 d_Stored_fits) :=
  fnr_ok (N := ["self", "table", "piece", "parts"]) (ps := ["self", "table"]) (lvl := 2) (m := b_Stored_fits) T.f_Stored_fits sc_Stored_fits (fun cdv A outer s H E hr =>
  (jb_cons (js_if (jt_cmp (b_ne hr.units) (j_callB f_len rfl T.z_len (by decide +kernel) (ja_cons (j_var 1) ja_nil)) (j_callB f_len rfl T.z_len (by decide +kernel) (ja_cons (j_attr (tab := [(2, .slot 0)]) ⟨⟨T.cl_2, T.sl_2_own_pieces⟩, trivial⟩ (j_var 0)) ja_nil)) (nomark _)) (jb_one (js_ret j_bl)) jb_nil)
  (jb_cons (js_for (passes_of rfl) rfl (ji_zipK rfl T.z_zip (ja_cons (j_attr (tab := [(2, .slot 0)]) ⟨⟨T.cl_2, T.sl_2_own_pieces⟩, trivial⟩ (j_var 0)) (ja_cons (j_attr (tab := [(2, .prop d_Stored_pieces), (3, .prop d_Table_pieces)]) ⟨prop_at (T.cl_2) T.pr_2_pieces (ok_Stored_pieces (P := P) (w := w) (base := base) T) (hr.mono (by decide)), ⟨prop_at (T.cl_3) T.pr_3_pieces (ok_Table_pieces (P := P) (w := w) (base := base) T) (hr.mono (by decide)), trivial⟩⟩ (j_var 1)) ja_nil))) (jg_tup rfl (jgs_cons (jg_name 2 sc_Stored_fits.nd rfl (by first | exact Or.inl rfl | exact Or.inr rfl)) (jgs_cons (jg_name 3 sc_Stored_fits.nd rfl (by first | exact Or.inl rfl | exact Or.inr rfl)) jgs_nil)))
  (jb_one (js_if (jt_w (jw_and (jt_cmp b_isnot (j_var 2) j_non (nomark _)) (jw_and1 (jt_w (jw_or (jt_cmp (b_ne hr.units) (j_callB f_len rfl T.z_len (by decide +kernel) (ja_cons (j_var 2) ja_nil)) (j_callB f_len rfl T.z_len (by decide +kernel) (ja_cons (j_var 3) ja_nil)) (nomark _)) (jw_or1 (jt_cmp b_ge (j_callB (f_mx rfl hr.units) rfl T.z_max (by decide +kernel) (ja_cons (j_var 2) ja_nil)) (j_attr (tab := [(0, .prop d_Sum_prime), (1, .prop d_Space_prime), (3, .prop d_Table_prime)]) ⟨prop_at (T.cl_0) T.pr_0_prime (ok_Sum_prime (P := P) (w := w) (base := base) T) (hr.mono (by decide)), ⟨prop_at (T.cl_1) T.pr_1_prime (ok_Space_prime (P := P) (w := w) (base := base) T) (hr.mono (by decide)), ⟨prop_at (T.cl_3) T.pr_3_prime (ok_Table_prime (P := P) (w := w) (base := base) T) (hr.mono (by decide)), trivial⟩⟩⟩ (j_var 1)) (nomark _)))))))) (jb_one (js_ret j_bl)) jb_nil)))
  (jb_one (js_ret j_bl)))))
theorem sc_fits_right : FnScope ["_law_prime", "_law_size", "_law_pieces_here", "_law_paying", "_law_table", "_law_others", "_law_other", "_law_odd"] ["_law_prime", "_law_size", "_law_pieces_here", "_law_paying"] (defScope s_fits_right) := ⟨rfl, rfl, rfl, by decide +kernel, rfl, by decide +kernel, by decide +kernel⟩
theorem ok_fits_right (T : Txt P k ad ca ta K mg) : FnR P w K mg base (L2.CX P w) 8 (ad 111) (spD k K 4 d_fits_right) :=
  fnr_ok (N := ["_law_prime", "_law_size", "_law_pieces_here", "_law_paying", "_law_table", "_law_others", "_law_other", "_law_odd"]) (ps := ["_law_prime", "_law_size", "_law_pieces_here", "_law_paying"]) (lvl := 7) (m := b_fits_right) T.f_fits_right sc_fits_right (fun cdv A outer s H E hr =>
  (jb_cons (js_set 4 sc_fits_right.nd rfl (by first | exact Or.inl rfl | exact Or.inr rfl) (j_make T.mk_3 (ok_Table_init (P := P) (w := w) (base := base) T) (hr.mono (by decide)) pass_def rfl T.g_Table (ja_cons (j_var 0) (ja_cons (j_var 1) (ja_cons (j_var 2) ja_nil)))))
  (jb_cons (js_set 5 sc_fits_right.nd rfl (by first | exact Or.inl rfl | exact Or.inr rfl) (j_lstM (ja_cons (j_make T.mk_3 (ok_Table_init (P := P) (w := w) (base := base) T) (hr.mono (by decide)) pass_def rfl T.g_Table (ja_cons (j_var 0) (ja_cons (j_var 1) (ja_cons (j_op b_add (j_var 2) (j_slice (j_var 2) jo_none (jo_some j_int))) ja_nil)))) ja_nil)))
  (jb_cons (js_fz 5 (js_expr (j_app (j_var 5) (j_make T.mk_3 (ok_Table_init (P := P) (w := w) (base := base) T) (hr.mono (by decide)) pass_def rfl T.g_Table (ja_cons (j_var 0) (ja_cons (j_var 1) (ja_cons (j_op b_add (j_lst (ja_cons (j_op b_add (j_ix (j_var 2) j_int (fun _ _ => rfl)) (j_slice (j_ix (j_var 2) j_int (fun _ _ => rfl)) jo_none (jo_some j_int))) ja_nil)) (j_callTy f_list rfl T.z_list (by decide +kernel) (ja_cons (j_slice (j_var 2) (jo_some j_int) jo_none) ja_nil))) ja_nil)))))))
  (jb_cons (js_if (jt_w (jw_or (jt_not (jt_val (j_meth (tab := [(2, 2, d_Stored_fits), (4, 2, d_Prices_fits)]) ⟨⟨T.cl_2, _, _, T.me_2_fits, (ok_Stored_fits (P := P) (w := w) (base := base) T), (hr.mono (by decide))⟩, ⟨⟨T.cl_4, _, _, T.me_4_fits, (ok_Prices_fits (P := P) (w := w) (base := base) T), (hr.mono (by decide))⟩, trivial⟩⟩ pass_def (j_var 3) (ja_cons (j_var 4) ja_nil)))) (jw_or1 (jt_val (j_callB (f_any rfl) rfl T.z_any (by decide +kernel) (ja_cons (j_comp (own := [("_law_other", 6)]) (by decide) rfl sc_fits_right.nd (ji_seq (j_var 5)) (blkOk_by (N := ["_law_prime", "_law_size", "_law_pieces_here", "_law_paying", "_law_table", "_law_others", "_law_other", "_law_odd"]) (sc := defScope s_fits_right) (by decide +kernel)) (fun _ _ _ _ _ => (jg_name 6 sc_fits_right.nd rfl (by first | exact Or.inl rfl | exact Or.inr rfl))) (fun _ _ _ _ _ => jts_nil) (fun _ _ _ _ _ => (j_meth (tab := [(2, 2, d_Stored_fits), (4, 2, d_Prices_fits)]) ⟨⟨T.cl_2, _, _, T.me_2_fits, (ok_Stored_fits (P := P) (w := w) (base := base) T), (hr.mono (by decide))⟩, ⟨⟨T.cl_4, _, _, T.me_4_fits, (ok_Prices_fits (P := P) (w := w) (base := base) T), (hr.mono (by decide))⟩, trivial⟩⟩ passL (j_var 3) (ja_cons (j_var 6) ja_nil)))) ja_nil)))))) (jb_one (js_ret j_bl)) jb_nil)
  (jb_one (js_ret (j_not (j_callB (f_any rfl) rfl T.z_any (by decide +kernel) (ja_cons (j_comp (own := [("_law_odd", 7)]) (by decide) rfl sc_fits_right.nd (ji_seq (j_lst (ja_cons j_non (ja_cons j_int (ja_cons (j_var 2) (ja_cons (j_var 3) (ja_cons (j_lst (ja_cons (j_var 4) ja_nil)) ja_nil))))))) (blkOk_by (N := ["_law_prime", "_law_size", "_law_pieces_here", "_law_paying", "_law_table", "_law_others", "_law_other", "_law_odd"]) (sc := defScope s_fits_right) (by decide +kernel)) (fun _ _ _ _ _ => (jg_name 7 sc_fits_right.nd rfl (by first | exact Or.inl rfl | exact Or.inr rfl))) (fun _ _ _ _ _ => jts_nil) (fun _ _ _ _ _ => (j_meth (tab := [(2, 2, d_Stored_fits), (4, 2, d_Prices_fits)]) ⟨⟨T.cl_2, _, _, T.me_2_fits, (ok_Stored_fits (P := P) (w := w) (base := base) T), (hr.mono (by decide))⟩, ⟨⟨T.cl_4, _, _, T.me_4_fits, (ok_Prices_fits (P := P) (w := w) (base := base) T), (hr.mono (by decide))⟩, trivial⟩⟩ passL (j_var 3) (ja_cons (j_var 7) ja_nil)))) ja_nil))))))))))
theorem sc_law : FnScope ["_law_script", "_law_turn", "_law_source_here", "_law_pieces_here", "_law_paying", "_law_chosen", "_law_prime", "_law_size", "_law_prices_here", "_law_others", "_law_piece"] ["_law_script"] (defScope s_law) := ⟨rfl, rfl, rfl, by decide +kernel, rfl, by decide +kernel, by decide +kernel⟩
theorem ok_law (T : Txt P k ad ca ta K mg) (TB : TBs ca ta base mg) : FnG P w K mg base 9 (ad 112) (spD k K 1 d_law) :=
  fng_any (N := ["_law_script", "_law_turn", "_law_source_here", "_law_pieces_here", "_law_paying", "_law_chosen", "_law_prime", "_law_size", "_law_prices_here", "_law_others", "_law_piece"]) (ps := ["_law_script"]) (lvl := 8) (m := b_law) T.f_law sc_law (fun cdv A outer s H E hgd hr =>
  (jb_cons (js_for (passes_of rfl) rfl (ji_range1 rfl T.z_range (ja_cons (j_callB (f_max rfl) rfl T.z_max (by decide +kernel) (ja_cons j_int (ja_cons (j_callB (f_min rfl) rfl T.z_min (by decide +kernel) (ja_cons (j_callB f_len rfl T.z_len (by decide +kernel) (ja_cons (j_var 0) ja_nil)) (ja_cons j_int ja_nil))) ja_nil))) ja_nil)) (jg_name 1 sc_law.nd rfl (by first | exact Or.inl rfl | exact Or.inr rfl))
  (jb_cons (js_set 2 sc_law.nd rfl (by first | exact Or.inl rfl | exact Or.inr rfl) (j_call (ok_source (P := P) (w := w) (base := base) T) (hr.mono (by decide)) pass_def rfl T.m_source T.f_source.kp (ja_cons (j_var 0) (ja_cons (j_var 1) ja_nil))))
  (jb_cons (js_asg (j_call (ok_form (P := P) (w := w) (base := base) T) (hr.mono (by decide)) pass_def rfl T.m_form T.f_form.kp (ja_cons (j_var 2) ja_nil)) (jg_tup rfl (jgs_cons (jg_name 6 sc_law.nd rfl (by first | exact Or.inl rfl | exact Or.inr rfl)) (jgs_cons (jg_name 7 sc_law.nd rfl (by first | exact Or.inl rfl | exact Or.inr rfl)) jgs_nil))))
  (jb_cons (js_set 3 sc_law.nd rfl (by first | exact Or.inl rfl | exact Or.inr rfl) (j_call (ok_pieces (P := P) (w := w) (base := base) T) (hr.mono (by decide)) pass_def rfl T.m_pieces T.f_pieces.kp (ja_cons (j_var 2) (ja_cons (j_var 6) (ja_cons (j_var 7) (ja_cons j_int ja_nil))))))
  (jb_cons (js_par 8 9 rfl sc_law.nd rfl rfl (by decide) rfl rfl (ja_cons (j_call (ok_prices (P := P) (w := w) (base := base) T) (hr.mono (by decide)) pass_def rfl T.m_prices T.f_prices.kp (ja_cons (j_var 2) (ja_cons (j_var 3) ja_nil))) (ja_cons (j_call (ok_prices (P := P) (w := w) (base := base) T) (hr.mono (by decide)) pass_def rfl T.m_prices T.f_prices.kp (ja_cons (j_var 2) (ja_cons (j_var 3) ja_nil))) ja_nil)) rfl)
  (jb_cons (js_set 4 sc_law.nd rfl (by first | exact Or.inl rfl | exact Or.inr rfl) (j_make T.mk_4 (ok_Prices_init (P := P) (w := w) (base := base) T) (hr.mono (by decide)) pass_def rfl T.g_Prices (ja_cons (j_comp (own := [("_law_piece", 10)]) (by decide) rfl sc_law.nd (ji_seq (j_ix (j_var 8) j_int (fun _ _ => rfl))) (blkOk_by (N := ["_law_script", "_law_turn", "_law_source_here", "_law_pieces_here", "_law_paying", "_law_chosen", "_law_prime", "_law_size", "_law_prices_here", "_law_others", "_law_piece"]) (sc := defScope s_law) (by decide +kernel)) (fun _ _ _ _ _ => (jg_name 10 sc_law.nd rfl (by first | exact Or.inl rfl | exact Or.inr rfl))) (fun _ _ _ _ _ => jts_nil) (fun _ _ _ _ _ => (j_callTy f_list rfl T.z_list (by decide +kernel) (ja_cons (j_var 10) ja_nil)))) (ja_cons (j_callTy f_list rfl T.z_list (by decide +kernel) (ja_cons (j_ix (j_var 8) j_int (fun _ _ => rfl)) ja_nil)) (ja_cons (j_ix (j_var 8) j_int (fun _ _ => rfl)) ja_nil)))))
  (jb_cons (js_if (jt_cmp (b_neO (tab := [(0, 2, d_Sum_eq), (1, 2, d_Space_eq), (2, 2, d_Stored_eq), (3, 2, d_Table_eq), (4, 2, d_Prices_eq)]) (cs := [0, 1, 2, 3, 4]) ⟨⟨⟨_, _, T.me_0_eq.at_, T.me_0_eq.fn, (ok_Sum_eq (P := P) (w := w) (base := base) T), (hr.mono (by decide))⟩, T.ne_0, T.is_0.cm, T.nb_0, (in_cons T.nf_0_0 (in_cons T.nf_0_1 (in_cons T.nf_0_2 (in_cons T.nf_0_3 (in_cons T.nf_0_4 in_nil)))))⟩, ⟨⟨⟨_, _, T.me_1_eq.at_, T.me_1_eq.fn, (ok_Space_eq (P := P) (w := w) (base := base) T), (hr.mono (by decide))⟩, T.ne_1, T.is_1.cm, T.nb_1, (in_cons T.nf_1_0 (in_cons T.nf_1_1 (in_cons T.nf_1_2 (in_cons T.nf_1_3 (in_cons T.nf_1_4 in_nil)))))⟩, ⟨⟨⟨_, _, T.me_2_eq.at_, T.me_2_eq.fn, (ok_Stored_eq (P := P) (w := w) (base := base) T), (hr.mono (by decide))⟩, T.ne_2, T.is_2.cm, T.nb_2, (in_cons T.nf_2_0 (in_cons T.nf_2_1 (in_cons T.nf_2_2 (in_cons T.nf_2_3 (in_cons T.nf_2_4 in_nil)))))⟩, ⟨⟨⟨_, _, T.me_3_eq.at_, T.me_3_eq.fn, (ok_Table_eq (P := P) (w := w) (base := base) T), (hr.mono (by decide))⟩, T.ne_3, T.is_3.cm, T.nb_3, (in_cons T.nf_3_0 (in_cons T.nf_3_1 (in_cons T.nf_3_2 (in_cons T.nf_3_3 (in_cons T.nf_3_4 in_nil)))))⟩, ⟨⟨⟨_, _, T.me_4_eq.at_, T.me_4_eq.fn, (ok_Prices_eq (P := P) (w := w) (base := base) T), (hr.mono (by decide))⟩, T.ne_4, T.is_4.cm, T.nb_4, (in_cons T.nf_4_0 (in_cons T.nf_4_1 (in_cons T.nf_4_2 (in_cons T.nf_4_3 (in_cons T.nf_4_4 in_nil)))))⟩, trivial⟩⟩⟩⟩⟩ pass_def hr.units) (j_lst (ja_cons (j_attr (tab := [(4, .prop d_Prices_parts)]) ⟨prop_at (T.cl_4) T.pr_4_parts (ok_Prices_parts (P := P) (w := w) (base := base) T) (hr.mono (by decide)), trivial⟩ (j_var 4)) (ja_cons (j_attr (tab := [(4, .prop d_Prices_wholes)]) ⟨prop_at (T.cl_4) T.pr_4_wholes (ok_Prices_wholes (P := P) (w := w) (base := base) T) (hr.mono (by decide)), trivial⟩ (j_var 4)) (ja_cons (j_attr (tab := [(4, .prop d_Prices_opens)]) ⟨prop_at (T.cl_4) T.pr_4_opens (ok_Prices_opens (P := P) (w := w) (base := base) T) (hr.mono (by decide)), trivial⟩ (j_var 4)) ja_nil)))) (j_callTy f_list rfl T.z_list (by decide +kernel) (ja_cons (j_var 8) ja_nil)) (nomark _)) (jb_one (js_ret j_bl)) jb_nil)
  (jb_cons (js_for (passes_of rfl) rfl (ji_seq (j_callG (ok_sets (P := P) (w := w) (base := base) T TB) hgd (hr.mono (by decide)) pass_def rfl T.m_sets T.f_sets.kp (ja_cons (j_call (ok_spots (P := P) (w := w) (base := base) T) (hr.mono (by decide)) pass_def rfl T.m_spots T.f_spots.kp (ja_cons (j_var 3) ja_nil)) ja_nil))) (jg_name 5 sc_law.nd rfl (by first | exact Or.inl rfl | exact Or.inr rfl))
  (jb_cons (js_if (jt_w (jw_or (jt_cmp (b_neO (tab := [(0, 2, d_Sum_eq), (1, 2, d_Space_eq), (2, 2, d_Stored_eq), (3, 2, d_Table_eq), (4, 2, d_Prices_eq)]) (cs := [0, 1, 2, 3, 4]) ⟨⟨⟨_, _, T.me_0_eq.at_, T.me_0_eq.fn, (ok_Sum_eq (P := P) (w := w) (base := base) T), (hr.mono (by decide))⟩, T.ne_0, T.is_0.cm, T.nb_0, (in_cons T.nf_0_0 (in_cons T.nf_0_1 (in_cons T.nf_0_2 (in_cons T.nf_0_3 (in_cons T.nf_0_4 in_nil)))))⟩, ⟨⟨⟨_, _, T.me_1_eq.at_, T.me_1_eq.fn, (ok_Space_eq (P := P) (w := w) (base := base) T), (hr.mono (by decide))⟩, T.ne_1, T.is_1.cm, T.nb_1, (in_cons T.nf_1_0 (in_cons T.nf_1_1 (in_cons T.nf_1_2 (in_cons T.nf_1_3 (in_cons T.nf_1_4 in_nil)))))⟩, ⟨⟨⟨_, _, T.me_2_eq.at_, T.me_2_eq.fn, (ok_Stored_eq (P := P) (w := w) (base := base) T), (hr.mono (by decide))⟩, T.ne_2, T.is_2.cm, T.nb_2, (in_cons T.nf_2_0 (in_cons T.nf_2_1 (in_cons T.nf_2_2 (in_cons T.nf_2_3 (in_cons T.nf_2_4 in_nil)))))⟩, ⟨⟨⟨_, _, T.me_3_eq.at_, T.me_3_eq.fn, (ok_Table_eq (P := P) (w := w) (base := base) T), (hr.mono (by decide))⟩, T.ne_3, T.is_3.cm, T.nb_3, (in_cons T.nf_3_0 (in_cons T.nf_3_1 (in_cons T.nf_3_2 (in_cons T.nf_3_3 (in_cons T.nf_3_4 in_nil)))))⟩, ⟨⟨⟨_, _, T.me_4_eq.at_, T.me_4_eq.fn, (ok_Prices_eq (P := P) (w := w) (base := base) T), (hr.mono (by decide))⟩, T.ne_4, T.is_4.cm, T.nb_4, (in_cons T.nf_4_0 (in_cons T.nf_4_1 (in_cons T.nf_4_2 (in_cons T.nf_4_3 (in_cons T.nf_4_4 in_nil)))))⟩, trivial⟩⟩⟩⟩⟩ pass_def hr.units) (j_callO (j_var 4) T.co_4 (ok_Prices_call (P := P) (w := w) (base := base) T) (hr.mono (by decide)) pass_def (ja_cons (j_var 5) ja_nil)) (j_call (ok_cost (P := P) (w := w) (base := base) T) (hr.mono (by decide)) pass_def rfl T.m_cost T.f_cost.kp (ja_cons (j_var 8) (ja_cons (j_var 5) ja_nil))) (nomark _)) (jw_or1 (jt_cmp (b_neO (tab := [(0, 2, d_Sum_eq), (1, 2, d_Space_eq), (2, 2, d_Stored_eq), (3, 2, d_Table_eq), (4, 2, d_Prices_eq)]) (cs := [0, 1, 2, 3, 4]) ⟨⟨⟨_, _, T.me_0_eq.at_, T.me_0_eq.fn, (ok_Sum_eq (P := P) (w := w) (base := base) T), (hr.mono (by decide))⟩, T.ne_0, T.is_0.cm, T.nb_0, (in_cons T.nf_0_0 (in_cons T.nf_0_1 (in_cons T.nf_0_2 (in_cons T.nf_0_3 (in_cons T.nf_0_4 in_nil)))))⟩, ⟨⟨⟨_, _, T.me_1_eq.at_, T.me_1_eq.fn, (ok_Space_eq (P := P) (w := w) (base := base) T), (hr.mono (by decide))⟩, T.ne_1, T.is_1.cm, T.nb_1, (in_cons T.nf_1_0 (in_cons T.nf_1_1 (in_cons T.nf_1_2 (in_cons T.nf_1_3 (in_cons T.nf_1_4 in_nil)))))⟩, ⟨⟨⟨_, _, T.me_2_eq.at_, T.me_2_eq.fn, (ok_Stored_eq (P := P) (w := w) (base := base) T), (hr.mono (by decide))⟩, T.ne_2, T.is_2.cm, T.nb_2, (in_cons T.nf_2_0 (in_cons T.nf_2_1 (in_cons T.nf_2_2 (in_cons T.nf_2_3 (in_cons T.nf_2_4 in_nil)))))⟩, ⟨⟨⟨_, _, T.me_3_eq.at_, T.me_3_eq.fn, (ok_Table_eq (P := P) (w := w) (base := base) T), (hr.mono (by decide))⟩, T.ne_3, T.is_3.cm, T.nb_3, (in_cons T.nf_3_0 (in_cons T.nf_3_1 (in_cons T.nf_3_2 (in_cons T.nf_3_3 (in_cons T.nf_3_4 in_nil)))))⟩, ⟨⟨⟨_, _, T.me_4_eq.at_, T.me_4_eq.fn, (ok_Prices_eq (P := P) (w := w) (base := base) T), (hr.mono (by decide))⟩, T.ne_4, T.is_4.cm, T.nb_4, (in_cons T.nf_4_0 (in_cons T.nf_4_1 (in_cons T.nf_4_2 (in_cons T.nf_4_3 (in_cons T.nf_4_4 in_nil)))))⟩, trivial⟩⟩⟩⟩⟩ pass_def hr.units) (j_callO (j_var 4) T.co_4 (ok_Prices_call (P := P) (w := w) (base := base) T) (hr.mono (by decide)) pass_def (ja_cons (j_callTy f_list rfl T.z_list (by decide +kernel) (ja_cons (j_var 5) ja_nil)) ja_nil)) (j_callO (j_var 4) T.co_4 (ok_Prices_call (P := P) (w := w) (base := base) T) (hr.mono (by decide)) pass_def (ja_cons (j_var 5) ja_nil)) (nomark _))))) (jb_one (js_ret j_bl)) jb_nil)
  (jb_one (js_if (jt_w (jw_or (jt_cmp (b_neO (tab := [(0, 2, d_Sum_eq), (1, 2, d_Space_eq), (2, 2, d_Stored_eq), (3, 2, d_Table_eq), (4, 2, d_Prices_eq)]) (cs := [0, 1, 2, 3, 4]) ⟨⟨⟨_, _, T.me_0_eq.at_, T.me_0_eq.fn, (ok_Sum_eq (P := P) (w := w) (base := base) T), (hr.mono (by decide))⟩, T.ne_0, T.is_0.cm, T.nb_0, (in_cons T.nf_0_0 (in_cons T.nf_0_1 (in_cons T.nf_0_2 (in_cons T.nf_0_3 (in_cons T.nf_0_4 in_nil)))))⟩, ⟨⟨⟨_, _, T.me_1_eq.at_, T.me_1_eq.fn, (ok_Space_eq (P := P) (w := w) (base := base) T), (hr.mono (by decide))⟩, T.ne_1, T.is_1.cm, T.nb_1, (in_cons T.nf_1_0 (in_cons T.nf_1_1 (in_cons T.nf_1_2 (in_cons T.nf_1_3 (in_cons T.nf_1_4 in_nil)))))⟩, ⟨⟨⟨_, _, T.me_2_eq.at_, T.me_2_eq.fn, (ok_Stored_eq (P := P) (w := w) (base := base) T), (hr.mono (by decide))⟩, T.ne_2, T.is_2.cm, T.nb_2, (in_cons T.nf_2_0 (in_cons T.nf_2_1 (in_cons T.nf_2_2 (in_cons T.nf_2_3 (in_cons T.nf_2_4 in_nil)))))⟩, ⟨⟨⟨_, _, T.me_3_eq.at_, T.me_3_eq.fn, (ok_Table_eq (P := P) (w := w) (base := base) T), (hr.mono (by decide))⟩, T.ne_3, T.is_3.cm, T.nb_3, (in_cons T.nf_3_0 (in_cons T.nf_3_1 (in_cons T.nf_3_2 (in_cons T.nf_3_3 (in_cons T.nf_3_4 in_nil)))))⟩, ⟨⟨⟨_, _, T.me_4_eq.at_, T.me_4_eq.fn, (ok_Prices_eq (P := P) (w := w) (base := base) T), (hr.mono (by decide))⟩, T.ne_4, T.is_4.cm, T.nb_4, (in_cons T.nf_4_0 (in_cons T.nf_4_1 (in_cons T.nf_4_2 (in_cons T.nf_4_3 (in_cons T.nf_4_4 in_nil)))))⟩, trivial⟩⟩⟩⟩⟩ pass_def hr.units) (j_meth (tab := [(4, 2, d_Prices_paid)]) ⟨⟨T.cl_4, _, _, T.me_4_paid, (ok_Prices_paid (P := P) (w := w) (base := base) T), (hr.mono (by decide))⟩, trivial⟩ pass_def (j_var 4) (ja_cons (j_var 5) ja_nil)) (j_call (ok_paid (P := P) (w := w) (base := base) T) (hr.mono (by decide)) pass_def rfl T.m_paid T.f_paid.kp (ja_cons (j_var 8) (ja_cons (j_var 5) ja_nil))) (nomark _)) (jw_or1 (jt_cmp b_gt (j_callO (j_var 4) T.co_4 (ok_Prices_call (P := P) (w := w) (base := base) T) (hr.mono (by decide)) pass_def (ja_cons (j_var 5) ja_nil)) (j_callO (j_var 4) T.co_4 (ok_Prices_call (P := P) (w := w) (base := base) T) (hr.mono (by decide)) pass_def (ja_cons (j_meth (tab := [(4, 2, d_Prices_paid)]) ⟨⟨T.cl_4, _, _, T.me_4_paid, (ok_Prices_paid (P := P) (w := w) (base := base) T), (hr.mono (by decide))⟩, trivial⟩ pass_def (j_var 4) (ja_cons (j_var 5) ja_nil)) ja_nil)) (nomark _))))) (jb_one (js_ret j_bl)) jb_nil))))
  (jb_cons (js_if (jt_w (jw_or (jt_cmp (b_neO (tab := [(0, 2, d_Sum_eq), (1, 2, d_Space_eq), (2, 2, d_Stored_eq), (3, 2, d_Table_eq), (4, 2, d_Prices_eq)]) (cs := [0, 1, 2, 3, 4]) ⟨⟨⟨_, _, T.me_0_eq.at_, T.me_0_eq.fn, (ok_Sum_eq (P := P) (w := w) (base := base) T), (hr.mono (by decide))⟩, T.ne_0, T.is_0.cm, T.nb_0, (in_cons T.nf_0_0 (in_cons T.nf_0_1 (in_cons T.nf_0_2 (in_cons T.nf_0_3 (in_cons T.nf_0_4 in_nil)))))⟩, ⟨⟨⟨_, _, T.me_1_eq.at_, T.me_1_eq.fn, (ok_Space_eq (P := P) (w := w) (base := base) T), (hr.mono (by decide))⟩, T.ne_1, T.is_1.cm, T.nb_1, (in_cons T.nf_1_0 (in_cons T.nf_1_1 (in_cons T.nf_1_2 (in_cons T.nf_1_3 (in_cons T.nf_1_4 in_nil)))))⟩, ⟨⟨⟨_, _, T.me_2_eq.at_, T.me_2_eq.fn, (ok_Stored_eq (P := P) (w := w) (base := base) T), (hr.mono (by decide))⟩, T.ne_2, T.is_2.cm, T.nb_2, (in_cons T.nf_2_0 (in_cons T.nf_2_1 (in_cons T.nf_2_2 (in_cons T.nf_2_3 (in_cons T.nf_2_4 in_nil)))))⟩, ⟨⟨⟨_, _, T.me_3_eq.at_, T.me_3_eq.fn, (ok_Table_eq (P := P) (w := w) (base := base) T), (hr.mono (by decide))⟩, T.ne_3, T.is_3.cm, T.nb_3, (in_cons T.nf_3_0 (in_cons T.nf_3_1 (in_cons T.nf_3_2 (in_cons T.nf_3_3 (in_cons T.nf_3_4 in_nil)))))⟩, ⟨⟨⟨_, _, T.me_4_eq.at_, T.me_4_eq.fn, (ok_Prices_eq (P := P) (w := w) (base := base) T), (hr.mono (by decide))⟩, T.ne_4, T.is_4.cm, T.nb_4, (in_cons T.nf_4_0 (in_cons T.nf_4_1 (in_cons T.nf_4_2 (in_cons T.nf_4_3 (in_cons T.nf_4_4 in_nil)))))⟩, trivial⟩⟩⟩⟩⟩ pass_def hr.units) (j_var 4) (j_make T.mk_4 (ok_Prices_init (P := P) (w := w) (base := base) T) (hr.mono (by decide)) pass_def rfl T.g_Prices (ja_cons (j_ix (j_var 8) j_int (fun _ _ => rfl)) (ja_cons (j_ix (j_var 8) j_int (fun _ _ => rfl)) (ja_cons (j_ix (j_var 8) j_int (fun _ _ => rfl)) ja_nil)))) (nomark _)) (jw_or1 (jt_cmp (b_eqO (tab := [(0, 2, d_Sum_eq), (1, 2, d_Space_eq), (2, 2, d_Stored_eq), (3, 2, d_Table_eq), (4, 2, d_Prices_eq)]) (cs := [0, 1, 2, 3, 4]) ⟨⟨⟨_, _, T.me_0_eq.at_, T.me_0_eq.fn, (ok_Sum_eq (P := P) (w := w) (base := base) T), (hr.mono (by decide))⟩, T.ne_0, T.is_0.cm, T.nb_0, (in_cons T.nf_0_0 (in_cons T.nf_0_1 (in_cons T.nf_0_2 (in_cons T.nf_0_3 (in_cons T.nf_0_4 in_nil)))))⟩, ⟨⟨⟨_, _, T.me_1_eq.at_, T.me_1_eq.fn, (ok_Space_eq (P := P) (w := w) (base := base) T), (hr.mono (by decide))⟩, T.ne_1, T.is_1.cm, T.nb_1, (in_cons T.nf_1_0 (in_cons T.nf_1_1 (in_cons T.nf_1_2 (in_cons T.nf_1_3 (in_cons T.nf_1_4 in_nil)))))⟩, ⟨⟨⟨_, _, T.me_2_eq.at_, T.me_2_eq.fn, (ok_Stored_eq (P := P) (w := w) (base := base) T), (hr.mono (by decide))⟩, T.ne_2, T.is_2.cm, T.nb_2, (in_cons T.nf_2_0 (in_cons T.nf_2_1 (in_cons T.nf_2_2 (in_cons T.nf_2_3 (in_cons T.nf_2_4 in_nil)))))⟩, ⟨⟨⟨_, _, T.me_3_eq.at_, T.me_3_eq.fn, (ok_Table_eq (P := P) (w := w) (base := base) T), (hr.mono (by decide))⟩, T.ne_3, T.is_3.cm, T.nb_3, (in_cons T.nf_3_0 (in_cons T.nf_3_1 (in_cons T.nf_3_2 (in_cons T.nf_3_3 (in_cons T.nf_3_4 in_nil)))))⟩, ⟨⟨⟨_, _, T.me_4_eq.at_, T.me_4_eq.fn, (ok_Prices_eq (P := P) (w := w) (base := base) T), (hr.mono (by decide))⟩, T.ne_4, T.is_4.cm, T.nb_4, (in_cons T.nf_4_0 (in_cons T.nf_4_1 (in_cons T.nf_4_2 (in_cons T.nf_4_3 (in_cons T.nf_4_4 in_nil)))))⟩, trivial⟩⟩⟩⟩⟩ pass_def hr.units) (j_var 4) (j_var 8) (nomark _))))) (jb_one (js_ret j_bl)) jb_nil)
  (jb_cons (js_if (jt_cmp (b_neO (tab := [(0, 2, d_Sum_eq), (1, 2, d_Space_eq), (2, 2, d_Stored_eq), (3, 2, d_Table_eq), (4, 2, d_Prices_eq)]) (cs := [0, 1, 2, 3, 4]) ⟨⟨⟨_, _, T.me_0_eq.at_, T.me_0_eq.fn, (ok_Sum_eq (P := P) (w := w) (base := base) T), (hr.mono (by decide))⟩, T.ne_0, T.is_0.cm, T.nb_0, (in_cons T.nf_0_0 (in_cons T.nf_0_1 (in_cons T.nf_0_2 (in_cons T.nf_0_3 (in_cons T.nf_0_4 in_nil)))))⟩, ⟨⟨⟨_, _, T.me_1_eq.at_, T.me_1_eq.fn, (ok_Space_eq (P := P) (w := w) (base := base) T), (hr.mono (by decide))⟩, T.ne_1, T.is_1.cm, T.nb_1, (in_cons T.nf_1_0 (in_cons T.nf_1_1 (in_cons T.nf_1_2 (in_cons T.nf_1_3 (in_cons T.nf_1_4 in_nil)))))⟩, ⟨⟨⟨_, _, T.me_2_eq.at_, T.me_2_eq.fn, (ok_Stored_eq (P := P) (w := w) (base := base) T), (hr.mono (by decide))⟩, T.ne_2, T.is_2.cm, T.nb_2, (in_cons T.nf_2_0 (in_cons T.nf_2_1 (in_cons T.nf_2_2 (in_cons T.nf_2_3 (in_cons T.nf_2_4 in_nil)))))⟩, ⟨⟨⟨_, _, T.me_3_eq.at_, T.me_3_eq.fn, (ok_Table_eq (P := P) (w := w) (base := base) T), (hr.mono (by decide))⟩, T.ne_3, T.is_3.cm, T.nb_3, (in_cons T.nf_3_0 (in_cons T.nf_3_1 (in_cons T.nf_3_2 (in_cons T.nf_3_3 (in_cons T.nf_3_4 in_nil)))))⟩, ⟨⟨⟨_, _, T.me_4_eq.at_, T.me_4_eq.fn, (ok_Prices_eq (P := P) (w := w) (base := base) T), (hr.mono (by decide))⟩, T.ne_4, T.is_4.cm, T.nb_4, (in_cons T.nf_4_0 (in_cons T.nf_4_1 (in_cons T.nf_4_2 (in_cons T.nf_4_3 (in_cons T.nf_4_4 in_nil)))))⟩, trivial⟩⟩⟩⟩⟩ pass_def hr.units) (j_cmp (b_eqO (tab := [(0, 2, d_Sum_eq), (1, 2, d_Space_eq), (2, 2, d_Stored_eq), (3, 2, d_Table_eq), (4, 2, d_Prices_eq)]) (cs := [0, 1, 2, 3, 4]) ⟨⟨⟨_, _, T.me_0_eq.at_, T.me_0_eq.fn, (ok_Sum_eq (P := P) (w := w) (base := base) T), (hr.mono (by decide))⟩, T.ne_0, T.is_0.cm, T.nb_0, (in_cons T.nf_0_0 (in_cons T.nf_0_1 (in_cons T.nf_0_2 (in_cons T.nf_0_3 (in_cons T.nf_0_4 in_nil)))))⟩, ⟨⟨⟨_, _, T.me_1_eq.at_, T.me_1_eq.fn, (ok_Space_eq (P := P) (w := w) (base := base) T), (hr.mono (by decide))⟩, T.ne_1, T.is_1.cm, T.nb_1, (in_cons T.nf_1_0 (in_cons T.nf_1_1 (in_cons T.nf_1_2 (in_cons T.nf_1_3 (in_cons T.nf_1_4 in_nil)))))⟩, ⟨⟨⟨_, _, T.me_2_eq.at_, T.me_2_eq.fn, (ok_Stored_eq (P := P) (w := w) (base := base) T), (hr.mono (by decide))⟩, T.ne_2, T.is_2.cm, T.nb_2, (in_cons T.nf_2_0 (in_cons T.nf_2_1 (in_cons T.nf_2_2 (in_cons T.nf_2_3 (in_cons T.nf_2_4 in_nil)))))⟩, ⟨⟨⟨_, _, T.me_3_eq.at_, T.me_3_eq.fn, (ok_Table_eq (P := P) (w := w) (base := base) T), (hr.mono (by decide))⟩, T.ne_3, T.is_3.cm, T.nb_3, (in_cons T.nf_3_0 (in_cons T.nf_3_1 (in_cons T.nf_3_2 (in_cons T.nf_3_3 (in_cons T.nf_3_4 in_nil)))))⟩, ⟨⟨⟨_, _, T.me_4_eq.at_, T.me_4_eq.fn, (ok_Prices_eq (P := P) (w := w) (base := base) T), (hr.mono (by decide))⟩, T.ne_4, T.is_4.cm, T.nb_4, (in_cons T.nf_4_0 (in_cons T.nf_4_1 (in_cons T.nf_4_2 (in_cons T.nf_4_3 (in_cons T.nf_4_4 in_nil)))))⟩, trivial⟩⟩⟩⟩⟩ pass_def hr.units) (j_var 4) (j_make T.mk_4 (ok_Prices_init (P := P) (w := w) (base := base) T) (hr.mono (by decide)) pass_def rfl T.g_Prices (ja_cons (j_ix (j_var 9) j_int (fun _ _ => rfl)) (ja_cons (j_ix (j_var 9) j_int (fun _ _ => rfl)) (ja_cons (j_ix (j_var 9) j_int (fun _ _ => rfl)) ja_nil)))) (nomark _)) (j_cmp (b_eqO (tab := [(0, 2, d_Sum_eq), (1, 2, d_Space_eq), (2, 2, d_Stored_eq), (3, 2, d_Table_eq), (4, 2, d_Prices_eq)]) (cs := [0, 1, 2, 3, 4]) ⟨⟨⟨_, _, T.me_0_eq.at_, T.me_0_eq.fn, (ok_Sum_eq (P := P) (w := w) (base := base) T), (hr.mono (by decide))⟩, T.ne_0, T.is_0.cm, T.nb_0, (in_cons T.nf_0_0 (in_cons T.nf_0_1 (in_cons T.nf_0_2 (in_cons T.nf_0_3 (in_cons T.nf_0_4 in_nil)))))⟩, ⟨⟨⟨_, _, T.me_1_eq.at_, T.me_1_eq.fn, (ok_Space_eq (P := P) (w := w) (base := base) T), (hr.mono (by decide))⟩, T.ne_1, T.is_1.cm, T.nb_1, (in_cons T.nf_1_0 (in_cons T.nf_1_1 (in_cons T.nf_1_2 (in_cons T.nf_1_3 (in_cons T.nf_1_4 in_nil)))))⟩, ⟨⟨⟨_, _, T.me_2_eq.at_, T.me_2_eq.fn, (ok_Stored_eq (P := P) (w := w) (base := base) T), (hr.mono (by decide))⟩, T.ne_2, T.is_2.cm, T.nb_2, (in_cons T.nf_2_0 (in_cons T.nf_2_1 (in_cons T.nf_2_2 (in_cons T.nf_2_3 (in_cons T.nf_2_4 in_nil)))))⟩, ⟨⟨⟨_, _, T.me_3_eq.at_, T.me_3_eq.fn, (ok_Table_eq (P := P) (w := w) (base := base) T), (hr.mono (by decide))⟩, T.ne_3, T.is_3.cm, T.nb_3, (in_cons T.nf_3_0 (in_cons T.nf_3_1 (in_cons T.nf_3_2 (in_cons T.nf_3_3 (in_cons T.nf_3_4 in_nil)))))⟩, ⟨⟨⟨_, _, T.me_4_eq.at_, T.me_4_eq.fn, (ok_Prices_eq (P := P) (w := w) (base := base) T), (hr.mono (by decide))⟩, T.ne_4, T.is_4.cm, T.nb_4, (in_cons T.nf_4_0 (in_cons T.nf_4_1 (in_cons T.nf_4_2 (in_cons T.nf_4_3 (in_cons T.nf_4_4 in_nil)))))⟩, trivial⟩⟩⟩⟩⟩ pass_def hr.units) (j_var 8) (j_var 9) (nomark _)) (nomark _)) (jb_one (js_ret j_bl)) jb_nil)
  (jb_one (js_if (jt_not (jt_val (j_call (ok_fits_right (P := P) (w := w) (base := base) T) (hr.mono (by decide)) pass_def rfl T.m_fits_right T.f_fits_right.kp (ja_cons (j_var 6) (ja_cons (j_var 7) (ja_cons (j_var 3) (ja_cons (j_var 4) ja_nil))))))) (jb_one (js_ret j_bl)) jb_nil))))))))))))
  (jb_one (js_ret j_bl))))
end
def kOf (cs : List Addr) (tb : List (Addr × Str)) : Kx := ⟨fun n => cs.getD n 0, fun n => ([[], [], [], [], [], [], ["value"], ["value"], ["value"], ["value"], ["value"], ["value"], ["place"], ["other"]] : List (List Str)).getD n [], tb⟩
def adOf (fs : List Addr) : Nat → Addr := fun n => fs.getD n 0
abbrev taOf := adOf
theorem all_mk {l : PySem.W.OpenLaw} {w : World} {K : PySem.W.Frag} {h : Heap} {mg : Str → Option Value} {fa : Addr} {C0 : Addr} {C1 : Addr} {C2 : Addr} {C3 : Addr} {C4 : Addr} {f93 : Addr} {oc93 : Value} {kV93 : Value} {dc93 : Value} {pm93 : Value} {cd93 : Value} {ct93 : Value} {od93 : Option Addr} {an93 : Option Addr} {sl93 : Array (Option Value)} {f94 : Addr} {oc94 : Value} {kV94 : Value} {dc94 : Value} {pm94 : Value} {cd94 : Value} {ct94 : Value} {od94 : Option Addr} {an94 : Option Addr} {sl94 : Array (Option Value)} {f95 : Addr} {oc95 : Value} {kV95 : Value} {dc95 : Value} {pm95 : Value} {cd95 : Value} {ct95 : Value} {od95 : Option Addr} {an95 : Option Addr} {sl95 : Array (Option Value)} {f99 : Addr} {oc99 : Value} {kV99 : Value} {dc99 : Value} {pm99 : Value} {cd99 : Value} {ct99 : Value} {od99 : Option Addr} {an99 : Option Addr} {sl99 : Array (Option Value)} {f98 : Addr} {oc98 : Value} {kV98 : Value} {dc98 : Value} {pm98 : Value} {cd98 : Value} {ct98 : Value} {od98 : Option Addr} {an98 : Option Addr} {sl98 : Array (Option Value)} {f100 : Addr} {oc100 : Value} {kV100 : Value} {dc100 : Value} {pm100 : Value} {cd100 : Value} {ct100 : Value} {od100 : Option Addr} {an100 : Option Addr} {sl100 : Array (Option Value)} {f107 : Addr} {oc107 : Value} {kV107 : Value} {dc107 : Value} {pm107 : Value} {cd107 : Value} {ct107 : Value} {od107 : Option Addr} {an107 : Option Addr} {sl107 : Array (Option Value)} {f58 : Addr} {oc58 : Value} {kV58 : Value} {dc58 : Value} {pm58 : Value} {cd58 : Value} {ct58 : Value} {od58 : Option Addr} {an58 : Option Addr} {sl58 : Array (Option Value)} {f10 : Addr} {oc10 : Value} {kV10 : Value} {dc10 : Value} {pm10 : Value} {cd10 : Value} {ct10 : Value} {od10 : Option Addr} {an10 : Option Addr} {sl10 : Array (Option Value)} {f79 : Addr} {oc79 : Value} {kV79 : Value} {dc79 : Value} {pm79 : Value} {cd79 : Value} {ct79 : Value} {od79 : Option Addr} {an79 : Option Addr} {sl79 : Array (Option Value)} {f80 : Addr} {oc80 : Value} {kV80 : Value} {dc80 : Value} {pm80 : Value} {cd80 : Value} {ct80 : Value} {od80 : Option Addr} {an80 : Option Addr} {sl80 : Array (Option Value)} {f81 : Addr} {oc81 : Value} {kV81 : Value} {dc81 : Value} {pm81 : Value} {cd81 : Value} {ct81 : Value} {od81 : Option Addr} {an81 : Option Addr} {sl81 : Array (Option Value)} {f82 : Addr} {p82 : Addr} {r82 : List Value} {oc82 : Value} {kV82 : Value} {dc82 : Value} {pm82 : Value} {cd82 : Value} {ct82 : Value} {od82 : Option Addr} {an82 : Option Addr} {sl82 : Array (Option Value)} {f83 : Addr} {p83 : Addr} {r83 : List Value} {oc83 : Value} {kV83 : Value} {dc83 : Value} {pm83 : Value} {cd83 : Value} {ct83 : Value} {od83 : Option Addr} {an83 : Option Addr} {sl83 : Array (Option Value)} {f84 : Addr} {p84 : Addr} {r84 : List Value} {oc84 : Value} {kV84 : Value} {dc84 : Value} {pm84 : Value} {cd84 : Value} {ct84 : Value} {od84 : Option Addr} {an84 : Option Addr} {sl84 : Array (Option Value)} {f92 : Addr} {oc92 : Value} {kV92 : Value} {dc92 : Value} {pm92 : Value} {cd92 : Value} {ct92 : Value} {od92 : Option Addr} {an92 : Option Addr} {sl92 : Array (Option Value)} {f69 : Addr} {oc69 : Value} {kV69 : Value} {dc69 : Value} {pm69 : Value} {cd69 : Value} {ct69 : Value} {od69 : Option Addr} {an69 : Option Addr} {sl69 : Array (Option Value)} {f53 : Addr} {oc53 : Value} {kV53 : Value} {dc53 : Value} {pm53 : Value} {cd53 : Value} {ct53 : Value} {od53 : Option Addr} {an53 : Option Addr} {sl53 : Array (Option Value)} {f37 : Addr} {oc37 : Value} {kV37 : Value} {dc37 : Value} {pm37 : Value} {cd37 : Value} {ct37 : Value} {od37 : Option Addr} {an37 : Option Addr} {sl37 : Array (Option Value)} {f27 : Addr} {oc27 : Value} {kV27 : Value} {dc27 : Value} {pm27 : Value} {cd27 : Value} {ct27 : Value} {od27 : Option Addr} {an27 : Option Addr} {sl27 : Array (Option Value)} {f101 : Addr} {oc101 : Value} {kV101 : Value} {dc101 : Value} {pm101 : Value} {cd101 : Value} {ct101 : Value} {od101 : Option Addr} {an101 : Option Addr} {sl101 : Array (Option Value)} {f102 : Addr} {oc102 : Value} {kV102 : Value} {dc102 : Value} {pm102 : Value} {ct102 : Value} {cm102 : Addr} {od102 : Option Addr} {an102 : Option Addr} {sl102 : Array (Option Value)} {m1_102 : Value} {m2_102 : Option Addr} {mv102 : Array Value} {m3_102 : Array (Option Value)} {mP102 : Addr} {f87 : Addr} {oc87 : Value} {kV87 : Value} {dc87 : Value} {pm87 : Value} {cd87 : Value} {ct87 : Value} {od87 : Option Addr} {an87 : Option Addr} {sl87 : Array (Option Value)} {f88 : Addr} {oc88 : Value} {kV88 : Value} {dc88 : Value} {pm88 : Value} {cd88 : Value} {ct88 : Value} {od88 : Option Addr} {an88 : Option Addr} {sl88 : Array (Option Value)} {f89 : Addr} {oc89 : Value} {kV89 : Value} {dc89 : Value} {pm89 : Value} {cd89 : Value} {ct89 : Value} {od89 : Option Addr} {an89 : Option Addr} {sl89 : Array (Option Value)} {f90 : Addr} {oc90 : Value} {kV90 : Value} {dc90 : Value} {pm90 : Value} {cd90 : Value} {ct90 : Value} {od90 : Option Addr} {an90 : Option Addr} {sl90 : Array (Option Value)} {f108 : Addr} {oc108 : Value} {kV108 : Value} {dc108 : Value} {pm108 : Value} {cd108 : Value} {ct108 : Value} {od108 : Option Addr} {an108 : Option Addr} {sl108 : Array (Option Value)} {f91 : Addr} {oc91 : Value} {kV91 : Value} {dc91 : Value} {pm91 : Value} {cd91 : Value} {ct91 : Value} {od91 : Option Addr} {an91 : Option Addr} {sl91 : Array (Option Value)} {f109 : Addr} {oc109 : Value} {kV109 : Value} {dc109 : Value} {pm109 : Value} {cd109 : Value} {ct109 : Value} {od109 : Option Addr} {an109 : Option Addr} {sl109 : Array (Option Value)} {f11 : Addr} {oc11 : Value} {kV11 : Value} {dc11 : Value} {pm11 : Value} {cd11 : Value} {ct11 : Value} {od11 : Option Addr} {an11 : Option Addr} {sl11 : Array (Option Value)} {f12 : Addr} {oc12 : Value} {kV12 : Value} {dc12 : Value} {pm12 : Value} {cd12 : Value} {ct12 : Value} {od12 : Option Addr} {an12 : Option Addr} {sl12 : Array (Option Value)} {f9 : Addr} {oc9 : Value} {kV9 : Value} {dc9 : Value} {pm9 : Value} {cd9 : Value} {ct9 : Value} {od9 : Option Addr} {an9 : Option Addr} {sl9 : Array (Option Value)} {f13 : Addr} {oc13 : Value} {kV13 : Value} {dc13 : Value} {pm13 : Value} {cd13 : Value} {ct13 : Value} {od13 : Option Addr} {an13 : Option Addr} {sl13 : Array (Option Value)} {f14 : Addr} {oc14 : Value} {kV14 : Value} {dc14 : Value} {pm14 : Value} {cd14 : Value} {ct14 : Value} {od14 : Option Addr} {an14 : Option Addr} {sl14 : Array (Option Value)} {f59 : Addr} {oc59 : Value} {kV59 : Value} {dc59 : Value} {pm59 : Value} {cd59 : Value} {ct59 : Value} {od59 : Option Addr} {an59 : Option Addr} {sl59 : Array (Option Value)} {f60 : Addr} {oc60 : Value} {kV60 : Value} {dc60 : Value} {pm60 : Value} {cd60 : Value} {ct60 : Value} {od60 : Option Addr} {an60 : Option Addr} {sl60 : Array (Option Value)} {f63 : Addr} {p63 : Addr} {r63 : List Value} {oc63 : Value} {kV63 : Value} {dc63 : Value} {pm63 : Value} {cd63 : Value} {ct63 : Value} {od63 : Option Addr} {an63 : Option Addr} {sl63 : Array (Option Value)} {f47 : Addr} {p47 : Addr} {r47 : List Value} {oc47 : Value} {kV47 : Value} {dc47 : Value} {pm47 : Value} {cd47 : Value} {ct47 : Value} {od47 : Option Addr} {an47 : Option Addr} {sl47 : Array (Option Value)} {f86 : Addr} {oc86 : Value} {kV86 : Value} {dc86 : Value} {pm86 : Value} {cd86 : Value} {ct86 : Value} {od86 : Option Addr} {an86 : Option Addr} {sl86 : Array (Option Value)} {f61 : Addr} {p61 : Addr} {r61 : List Value} {oc61 : Value} {kV61 : Value} {dc61 : Value} {pm61 : Value} {cd61 : Value} {ct61 : Value} {od61 : Option Addr} {an61 : Option Addr} {sl61 : Array (Option Value)} {f30 : Addr} {p30 : Addr} {r30 : List Value} {oc30 : Value} {kV30 : Value} {dc30 : Value} {pm30 : Value} {cd30 : Value} {ct30 : Value} {od30 : Option Addr} {an30 : Option Addr} {sl30 : Array (Option Value)} {f17 : Addr} {p17 : Addr} {r17 : List Value} {oc17 : Value} {kV17 : Value} {dc17 : Value} {pm17 : Value} {cd17 : Value} {ct17 : Value} {od17 : Option Addr} {an17 : Option Addr} {sl17 : Array (Option Value)} {f56 : Addr} {oc56 : Value} {kV56 : Value} {dc56 : Value} {pm56 : Value} {cd56 : Value} {ct56 : Value} {od56 : Option Addr} {an56 : Option Addr} {sl56 : Array (Option Value)} {f111 : Addr} {oc111 : Value} {kV111 : Value} {dc111 : Value} {pm111 : Value} {cd111 : Value} {ct111 : Value} {od111 : Option Addr} {an111 : Option Addr} {sl111 : Array (Option Value)} {f112 : Addr} {oc112 : Value} {kV112 : Value} {dc112 : Value} {pm112 : Value} {cd112 : Value} {ct112 : Value} {od112 : Option Addr} {an112 : Option Addr} {sl112 : Array (Option Value)} {C8 : Addr} {ef8 : Addr} {ecd8 : Addr} {ecc8 : Addr} {eoc8 : Value} {ekV8 : Value} {edc8 : Value} {epm8 : Value} {ect8 : Value} {e1_8 : Value} {x1_8 : Value} {eod8 : Option Addr} {ean8 : Option Addr} {e2_8 : Option Addr} {x2_8 : Option Addr} {eosl8 : Array (Option Value)} {e3_8 : Array (Option Value)} {x3_8 : Array (Option Value)} {evs8 : Array Value} {efl8 : Str} {etk8 : Tok} {C9 : Addr} {ef9 : Addr} {ecd9 : Addr} {ecc9 : Addr} {eoc9 : Value} {ekV9 : Value} {edc9 : Value} {epm9 : Value} {ect9 : Value} {e1_9 : Value} {x1_9 : Value} {eod9 : Option Addr} {ean9 : Option Addr} {e2_9 : Option Addr} {x2_9 : Option Addr} {eosl9 : Array (Option Value)} {e3_9 : Array (Option Value)} {x3_9 : Array (Option Value)} {evs9 : Array Value} {efl9 : Str} {etk9 : Tok} {C11 : Addr} {ef11 : Addr} {ecd11 : Addr} {ecc11 : Addr} {eoc11 : Value} {ekV11 : Value} {edc11 : Value} {epm11 : Value} {ect11 : Value} {e1_11 : Value} {x1_11 : Value} {eod11 : Option Addr} {ean11 : Option Addr} {e2_11 : Option Addr} {x2_11 : Option Addr} {eosl11 : Array (Option Value)} {e3_11 : Array (Option Value)} {x3_11 : Array (Option Value)} {evs11 : Array Value} {efl11 : Str} {etk11 : Tok} {C12 : Addr} {ef12 : Addr} {ecd12 : Addr} {ecc12 : Addr} {eoc12 : Value} {ekV12 : Value} {edc12 : Value} {epm12 : Value} {ect12 : Value} {e1_12 : Value} {x1_12 : Value} {eod12 : Option Addr} {ean12 : Option Addr} {e2_12 : Option Addr} {x2_12 : Option Addr} {eosl12 : Array (Option Value)} {e3_12 : Array (Option Value)} {x3_12 : Array (Option Value)} {evs12 : Array Value} {efl12 : Str} {etk12 : Tok} {tk_MOST_DATA : Tok} {tk_MOST_PARTS : Tok} {tk_MOST_PIECES : Tok} {tk_MOST_PRICE : Tok} {tk_MOST_SPOTS : Tok} {ga_PRIMES : Addr} {go_PRIMES : Option Addr} {gi_PRIMES : Array Value} {gn_PRIMES : Nat} {gs_PRIMES : Array (Option Value)} {sp0_own_prime : Addr} {sp0_row : Addr} {sp1_own_prime : Addr} {sp1_own_size : Addr} {sp1_rows : Addr} {sp2_own_pieces : Addr} {sp3_own_pieces : Addr} {sp3_own_prime : Addr} {sp3_own_size : Addr} {sp3_own_spots : Addr} {sp4_open_prices : Addr} {sp4_part_prices : Addr} {sp4_whole_prices : Addr}
    (X : K.In h) (G : h.Ns mainGlobals mg) (hfa : mg "law" = some (.ref fa))
    (aC0 : PySem.W.nsIn K mainGlobals "Sum" = some (some (.ref C0)))
    (aC1 : PySem.W.nsIn K mainGlobals "Space" = some (some (.ref C1)))
    (aC2 : PySem.W.nsIn K mainGlobals "Stored" = some (some (.ref C2)))
    (aC3 : PySem.W.nsIn K mainGlobals "Table" = some (some (.ref C3)))
    (aC4 : PySem.W.nsIn K mainGlobals "Prices" = some (some (.ref C4)))
    (a93 : PySem.W.nsIn K mainGlobals "_law_source" = some (some (.ref f93)))
    (l93 : K.lookup f93 = some ⟨oc93, od93, .func (PySem.W.fnOf "_law_source" "_law_source" (defArgs s_source) (defBody s_source) (defScope s_source) .none kV93 dc93 pm93 an93 cd93 ct93), sl93⟩)
    (c93 : PySem.W.codeIn K cd93 "_law_source" = true)
    (k93 : PySem.W.keepIn K (.ref f93) = true)
    (a94 : PySem.W.nsIn K mainGlobals "_law_draw" = some (some (.ref f94)))
    (l94 : K.lookup f94 = some ⟨oc94, od94, .func (PySem.W.fnOf "_law_draw" "_law_draw" (defArgs s_draw) (defBody s_draw) (defScope s_draw) .none kV94 dc94 pm94 an94 cd94 ct94), sl94⟩)
    (c94 : PySem.W.codeIn K cd94 "_law_draw" = true)
    (k94 : PySem.W.keepIn K (.ref f94) = true)
    (a95 : PySem.W.nsIn K mainGlobals "_law_pick" = some (some (.ref f95)))
    (l95 : K.lookup f95 = some ⟨oc95, od95, .func (PySem.W.fnOf "_law_pick" "_law_pick" (defArgs s_pick) (defBody s_pick) (defScope s_pick) .none kV95 dc95 pm95 an95 cd95 ct95), sl95⟩)
    (c95 : PySem.W.codeIn K cd95 "_law_pick" = true)
    (k95 : PySem.W.keepIn K (.ref f95) = true)
    (a99 : PySem.W.nsIn K mainGlobals "_law_form" = some (some (.ref f99)))
    (l99 : K.lookup f99 = some ⟨oc99, od99, .func (PySem.W.fnOf "_law_form" "_law_form" (defArgs s_form) (defBody s_form) (defScope s_form) .none kV99 dc99 pm99 an99 cd99 ct99), sl99⟩)
    (c99 : PySem.W.codeIn K cd99 "_law_form" = true)
    (k99 : PySem.W.keepIn K (.ref f99) = true)
    (a98 : PySem.W.nsIn K mainGlobals "_law_factors" = some (some (.ref f98)))
    (l98 : K.lookup f98 = some ⟨oc98, od98, .func (PySem.W.fnOf "_law_factors" "_law_factors" (defArgs s_factors) (defBody s_factors) (defScope s_factors) .none kV98 dc98 pm98 an98 cd98 ct98), sl98⟩)
    (c98 : PySem.W.codeIn K cd98 "_law_factors" = true)
    (k98 : PySem.W.keepIn K (.ref f98) = true)
    (a100 : PySem.W.nsIn K mainGlobals "_law_pieces" = some (some (.ref f100)))
    (l100 : K.lookup f100 = some ⟨oc100, od100, .func (PySem.W.fnOf "_law_pieces" "_law_pieces" (defArgs s_pieces) (defBody s_pieces) (defScope s_pieces) .none kV100 dc100 pm100 an100 cd100 ct100), sl100⟩)
    (c100 : PySem.W.codeIn K cd100 "_law_pieces" = true)
    (k100 : PySem.W.keepIn K (.ref f100) = true)
    (a107 : PySem.W.nsIn K mainGlobals "_law_prices" = some (some (.ref f107)))
    (l107 : K.lookup f107 = some ⟨oc107, od107, .func (PySem.W.fnOf "_law_prices" "_law_prices" (defArgs s_prices) (defBody s_prices) (defScope s_prices) .none kV107 dc107 pm107 an107 cd107 ct107), sl107⟩)
    (c107 : PySem.W.codeIn K cd107 "_law_prices" = true)
    (k107 : PySem.W.keepIn K (.ref f107) = true)
    (a58 : PySem.W.nsIn K mainGlobals "is_row" = some (some (.ref f58)))
    (l58 : K.lookup f58 = some ⟨oc58, od58, .func (PySem.W.fnOf "is_row" "is_row" (defArgs s_is_row) (defBody s_is_row) (defScope s_is_row) .none kV58 dc58 pm58 an58 cd58 ct58), sl58⟩)
    (c58 : PySem.W.codeIn K cd58 "is_row" = true)
    (k58 : PySem.W.keepIn K (.ref f58) = true)
    (a10 : PySem.W.nsIn K mainGlobals "is_between" = some (some (.ref f10)))
    (l10 : K.lookup f10 = some ⟨oc10, od10, .func (PySem.W.fnOf "is_between" "is_between" (defArgs s_is_between) (defBody s_is_between) (defScope s_is_between) .none kV10 dc10 pm10 an10 cd10 ct10), sl10⟩)
    (c10 : PySem.W.codeIn K cd10 "is_between" = true)
    (k10 : PySem.W.keepIn K (.ref f10) = true)
    (a79 : PySem.W.nsIn K mainGlobals "is_price" = some (some (.ref f79)))
    (l79 : K.lookup f79 = some ⟨oc79, od79, .func (PySem.W.fnOf "is_price" "is_price" (defArgs s_is_price) (defBody s_is_price) (defScope s_is_price) .none kV79 dc79 pm79 an79 cd79 ct79), sl79⟩)
    (c79 : PySem.W.codeIn K cd79 "is_price" = true)
    (k79 : PySem.W.keepIn K (.ref f79) = true)
    (a80 : PySem.W.nsIn K mainGlobals "is_prices" = some (some (.ref f80)))
    (l80 : K.lookup f80 = some ⟨oc80, od80, .func (PySem.W.fnOf "is_prices" "is_prices" (defArgs s_is_prices) (defBody s_is_prices) (defScope s_is_prices) .none kV80 dc80 pm80 an80 cd80 ct80), sl80⟩)
    (c80 : PySem.W.codeIn K cd80 "is_prices" = true)
    (k80 : PySem.W.keepIn K (.ref f80) = true)
    (a81 : PySem.W.findIn K (.ref C4) "__init__" = some (some (.ref f81)))
    (i81 : PySem.W.isFn K (.ref f81) = true)
    (l81 : K.lookup f81 = some ⟨oc81, od81, .func (PySem.W.fnOf "__init__" "Prices.__init__" (defArgs s_Prices_init) (defBody s_Prices_init) (defScope s_Prices_init) .none kV81 dc81 pm81 an81 cd81 ct81), sl81⟩)
    (c81 : PySem.W.codeIn K cd81 "Prices.__init__" = true)
    (k81 : PySem.W.keepIn K (.ref f81) = true)
    (a82 : PySem.W.findIn K (.ref C4) "parts" = some (some (.ref p82)))
    (x82 : PySem.W.specialIn K (.ref p82) "__get__" = some (some (.builtin "property.__get__")))
    (t82 : PySem.W.takesIn K (.ref p82) = some true)
    (q82 : PySem.W.recIn K p82 "property" = some (.ref f82 :: r82))
    (l82 : K.lookup f82 = some ⟨oc82, od82, .func (PySem.W.fnOf "parts" "Prices.parts" (defArgs s_Prices_parts) (defBody s_Prices_parts) (defScope s_Prices_parts) .none kV82 dc82 pm82 an82 cd82 ct82), sl82⟩)
    (c82 : PySem.W.codeIn K cd82 "Prices.parts" = true)
    (k82 : PySem.W.keepIn K (.ref f82) = true)
    (a83 : PySem.W.findIn K (.ref C4) "wholes" = some (some (.ref p83)))
    (x83 : PySem.W.specialIn K (.ref p83) "__get__" = some (some (.builtin "property.__get__")))
    (t83 : PySem.W.takesIn K (.ref p83) = some true)
    (q83 : PySem.W.recIn K p83 "property" = some (.ref f83 :: r83))
    (l83 : K.lookup f83 = some ⟨oc83, od83, .func (PySem.W.fnOf "wholes" "Prices.wholes" (defArgs s_Prices_wholes) (defBody s_Prices_wholes) (defScope s_Prices_wholes) .none kV83 dc83 pm83 an83 cd83 ct83), sl83⟩)
    (c83 : PySem.W.codeIn K cd83 "Prices.wholes" = true)
    (k83 : PySem.W.keepIn K (.ref f83) = true)
    (a84 : PySem.W.findIn K (.ref C4) "opens" = some (some (.ref p84)))
    (x84 : PySem.W.specialIn K (.ref p84) "__get__" = some (some (.builtin "property.__get__")))
    (t84 : PySem.W.takesIn K (.ref p84) = some true)
    (q84 : PySem.W.recIn K p84 "property" = some (.ref f84 :: r84))
    (l84 : K.lookup f84 = some ⟨oc84, od84, .func (PySem.W.fnOf "opens" "Prices.opens" (defArgs s_Prices_opens) (defBody s_Prices_opens) (defScope s_Prices_opens) .none kV84 dc84 pm84 an84 cd84 ct84), sl84⟩)
    (c84 : PySem.W.codeIn K cd84 "Prices.opens" = true)
    (k84 : PySem.W.keepIn K (.ref f84) = true)
    (a92 : PySem.W.findIn K (.ref C4) "__eq__" = some (some (.ref f92)))
    (i92 : PySem.W.isFn K (.ref f92) = true)
    (l92 : K.lookup f92 = some ⟨oc92, od92, .func (PySem.W.fnOf "__eq__" "Prices.__eq__" (defArgs s_Prices_eq) (defBody s_Prices_eq) (defScope s_Prices_eq) .none kV92 dc92 pm92 an92 cd92 ct92), sl92⟩)
    (c92 : PySem.W.codeIn K cd92 "Prices.__eq__" = true)
    (k92 : PySem.W.keepIn K (.ref f92) = true)
    (a69 : PySem.W.findIn K (.ref C3) "__eq__" = some (some (.ref f69)))
    (i69 : PySem.W.isFn K (.ref f69) = true)
    (l69 : K.lookup f69 = some ⟨oc69, od69, .func (PySem.W.fnOf "__eq__" "Table.__eq__" (defArgs s_Table_eq) (defBody s_Table_eq) (defScope s_Table_eq) .none kV69 dc69 pm69 an69 cd69 ct69), sl69⟩)
    (c69 : PySem.W.codeIn K cd69 "Table.__eq__" = true)
    (k69 : PySem.W.keepIn K (.ref f69) = true)
    (a53 : PySem.W.findIn K (.ref C2) "__eq__" = some (some (.ref f53)))
    (i53 : PySem.W.isFn K (.ref f53) = true)
    (l53 : K.lookup f53 = some ⟨oc53, od53, .func (PySem.W.fnOf "__eq__" "Stored.__eq__" (defArgs s_Stored_eq) (defBody s_Stored_eq) (defScope s_Stored_eq) .none kV53 dc53 pm53 an53 cd53 ct53), sl53⟩)
    (c53 : PySem.W.codeIn K cd53 "Stored.__eq__" = true)
    (k53 : PySem.W.keepIn K (.ref f53) = true)
    (a37 : PySem.W.findIn K (.ref C1) "__eq__" = some (some (.ref f37)))
    (i37 : PySem.W.isFn K (.ref f37) = true)
    (l37 : K.lookup f37 = some ⟨oc37, od37, .func (PySem.W.fnOf "__eq__" "Space.__eq__" (defArgs s_Space_eq) (defBody s_Space_eq) (defScope s_Space_eq) .none kV37 dc37 pm37 an37 cd37 ct37), sl37⟩)
    (c37 : PySem.W.codeIn K cd37 "Space.__eq__" = true)
    (k37 : PySem.W.keepIn K (.ref f37) = true)
    (a27 : PySem.W.findIn K (.ref C0) "__eq__" = some (some (.ref f27)))
    (i27 : PySem.W.isFn K (.ref f27) = true)
    (l27 : K.lookup f27 = some ⟨oc27, od27, .func (PySem.W.fnOf "__eq__" "Sum.__eq__" (defArgs s_Sum_eq) (defBody s_Sum_eq) (defScope s_Sum_eq) .none kV27 dc27 pm27 an27 cd27 ct27), sl27⟩)
    (c27 : PySem.W.codeIn K cd27 "Sum.__eq__" = true)
    (k27 : PySem.W.keepIn K (.ref f27) = true)
    (a101 : PySem.W.nsIn K mainGlobals "_law_spots" = some (some (.ref f101)))
    (l101 : K.lookup f101 = some ⟨oc101, od101, .func (PySem.W.fnOf "_law_spots" "_law_spots" (defArgs s_spots) (defBody s_spots) (defScope s_spots) .none kV101 dc101 pm101 an101 cd101 ct101), sl101⟩)
    (c101 : PySem.W.codeIn K cd101 "_law_spots" = true)
    (k101 : PySem.W.keepIn K (.ref f101) = true)
    (a102 : PySem.W.nsIn K mainGlobals "_law_sets" = some (some (.ref f102)))
    (l102 : K.lookup f102 = some ⟨oc102, od102, .func (PySem.W.fnOf "_law_sets" "_law_sets" (defArgs s_sets) (defBody s_sets) (defScope s_sets) .none kV102 dc102 pm102 an102 (.ref cm102) ct102), sl102⟩)
    (c102 : PySem.W.codeIn K (.ref cm102) "_law_sets" = true)
    (k102 : PySem.W.keepIn K (.ref f102) = true)
    (lc102 : K.lookup cm102 = some ⟨m1_102, m2_102, .fields mv102, m3_102⟩)
    (vp102 : mv102[11]? = some (.ref mP102))
    (a87 : PySem.W.findIn K (.ref C4) "has_price" = some (some (.ref f87)))
    (i87 : PySem.W.isFn K (.ref f87) = true)
    (l87 : K.lookup f87 = some ⟨oc87, od87, .func (PySem.W.fnOf "has_price" "Prices.has_price" (defArgs s_Prices_has_price) (defBody s_Prices_has_price) (defScope s_Prices_has_price) .none kV87 dc87 pm87 an87 cd87 ct87), sl87⟩)
    (c87 : PySem.W.codeIn K cd87 "Prices.has_price" = true)
    (k87 : PySem.W.keepIn K (.ref f87) = true)
    (a88 : PySem.W.findIn K (.ref C4) "require" = some (some (.ref f88)))
    (i88 : PySem.W.isFn K (.ref f88) = true)
    (l88 : K.lookup f88 = some ⟨oc88, od88, .func (PySem.W.fnOf "require" "Prices.require" (defArgs s_Prices_require) (defBody s_Prices_require) (defScope s_Prices_require) .none kV88 dc88 pm88 an88 cd88 ct88), sl88⟩)
    (c88 : PySem.W.codeIn K cd88 "Prices.require" = true)
    (k88 : PySem.W.keepIn K (.ref f88) = true)
    (a89 : PySem.W.findIn K (.ref C4) "bill" = some (some (.ref f89)))
    (i89 : PySem.W.isFn K (.ref f89) = true)
    (l89 : K.lookup f89 = some ⟨oc89, od89, .func (PySem.W.fnOf "bill" "Prices.bill" (defArgs s_Prices_bill) (defBody s_Prices_bill) (defScope s_Prices_bill) .none kV89 dc89 pm89 an89 cd89 ct89), sl89⟩)
    (c89 : PySem.W.codeIn K cd89 "Prices.bill" = true)
    (k89 : PySem.W.keepIn K (.ref f89) = true)
    (a90 : PySem.W.findIn K (.ref C4) "__call__" = some (some (.ref f90)))
    (i90 : PySem.W.isFn K (.ref f90) = true)
    (l90 : K.lookup f90 = some ⟨oc90, od90, .func (PySem.W.fnOf "__call__" "Prices.__call__" (defArgs s_Prices_call) (defBody s_Prices_call) (defScope s_Prices_call) .none kV90 dc90 pm90 an90 cd90 ct90), sl90⟩)
    (c90 : PySem.W.codeIn K cd90 "Prices.__call__" = true)
    (k90 : PySem.W.keepIn K (.ref f90) = true)
    (a108 : PySem.W.nsIn K mainGlobals "_law_cost" = some (some (.ref f108)))
    (l108 : K.lookup f108 = some ⟨oc108, od108, .func (PySem.W.fnOf "_law_cost" "_law_cost" (defArgs s_cost) (defBody s_cost) (defScope s_cost) .none kV108 dc108 pm108 an108 cd108 ct108), sl108⟩)
    (c108 : PySem.W.codeIn K cd108 "_law_cost" = true)
    (k108 : PySem.W.keepIn K (.ref f108) = true)
    (a91 : PySem.W.findIn K (.ref C4) "paid" = some (some (.ref f91)))
    (i91 : PySem.W.isFn K (.ref f91) = true)
    (l91 : K.lookup f91 = some ⟨oc91, od91, .func (PySem.W.fnOf "paid" "Prices.paid" (defArgs s_Prices_paid) (defBody s_Prices_paid) (defScope s_Prices_paid) .none kV91 dc91 pm91 an91 cd91 ct91), sl91⟩)
    (c91 : PySem.W.codeIn K cd91 "Prices.paid" = true)
    (k91 : PySem.W.keepIn K (.ref f91) = true)
    (a109 : PySem.W.nsIn K mainGlobals "_law_paid" = some (some (.ref f109)))
    (l109 : K.lookup f109 = some ⟨oc109, od109, .func (PySem.W.fnOf "_law_paid" "_law_paid" (defArgs s_paid) (defBody s_paid) (defScope s_paid) .none kV109 dc109 pm109 an109 cd109 ct109), sl109⟩)
    (c109 : PySem.W.codeIn K cd109 "_law_paid" = true)
    (k109 : PySem.W.keepIn K (.ref f109) = true)
    (a11 : PySem.W.nsIn K mainGlobals "is_integer" = some (some (.ref f11)))
    (l11 : K.lookup f11 = some ⟨oc11, od11, .func (PySem.W.fnOf "is_integer" "is_integer" (defArgs s_is_integer) (defBody s_is_integer) (defScope s_is_integer) .none kV11 dc11 pm11 an11 cd11 ct11), sl11⟩)
    (c11 : PySem.W.codeIn K cd11 "is_integer" = true)
    (k11 : PySem.W.keepIn K (.ref f11) = true)
    (a12 : PySem.W.nsIn K mainGlobals "is_prime" = some (some (.ref f12)))
    (l12 : K.lookup f12 = some ⟨oc12, od12, .func (PySem.W.fnOf "is_prime" "is_prime" (defArgs s_is_prime) (defBody s_is_prime) (defScope s_is_prime) .none kV12 dc12 pm12 an12 cd12 ct12), sl12⟩)
    (c12 : PySem.W.codeIn K cd12 "is_prime" = true)
    (k12 : PySem.W.keepIn K (.ref f12) = true)
    (a9 : PySem.W.nsIn K mainGlobals "power" = some (some (.ref f9)))
    (l9 : K.lookup f9 = some ⟨oc9, od9, .func (PySem.W.fnOf "power" "power" (defArgs s_power) (defBody s_power) (defScope s_power) .none kV9 dc9 pm9 an9 cd9 ct9), sl9⟩)
    (c9 : PySem.W.codeIn K cd9 "power" = true)
    (k9 : PySem.W.keepIn K (.ref f9) = true)
    (a13 : PySem.W.nsIn K mainGlobals "is_size" = some (some (.ref f13)))
    (l13 : K.lookup f13 = some ⟨oc13, od13, .func (PySem.W.fnOf "is_size" "is_size" (defArgs s_is_size) (defBody s_is_size) (defScope s_is_size) .none kV13 dc13 pm13 an13 cd13 ct13), sl13⟩)
    (c13 : PySem.W.codeIn K cd13 "is_size" = true)
    (k13 : PySem.W.keepIn K (.ref f13) = true)
    (a14 : PySem.W.nsIn K mainGlobals "is_data" = some (some (.ref f14)))
    (l14 : K.lookup f14 = some ⟨oc14, od14, .func (PySem.W.fnOf "is_data" "is_data" (defArgs s_is_data) (defBody s_is_data) (defScope s_is_data) .none kV14 dc14 pm14 an14 cd14 ct14), sl14⟩)
    (c14 : PySem.W.codeIn K cd14 "is_data" = true)
    (k14 : PySem.W.keepIn K (.ref f14) = true)
    (a59 : PySem.W.nsIn K mainGlobals "require_pieces" = some (some (.ref f59)))
    (l59 : K.lookup f59 = some ⟨oc59, od59, .func (PySem.W.fnOf "require_pieces" "require_pieces" (defArgs s_require_pieces) (defBody s_require_pieces) (defScope s_require_pieces) .none kV59 dc59 pm59 an59 cd59 ct59), sl59⟩)
    (c59 : PySem.W.codeIn K cd59 "require_pieces" = true)
    (k59 : PySem.W.keepIn K (.ref f59) = true)
    (a60 : PySem.W.findIn K (.ref C3) "__init__" = some (some (.ref f60)))
    (i60 : PySem.W.isFn K (.ref f60) = true)
    (l60 : K.lookup f60 = some ⟨oc60, od60, .func (PySem.W.fnOf "__init__" "Table.__init__" (defArgs s_Table_init) (defBody s_Table_init) (defScope s_Table_init) .none kV60 dc60 pm60 an60 cd60 ct60), sl60⟩)
    (c60 : PySem.W.codeIn K cd60 "Table.__init__" = true)
    (k60 : PySem.W.keepIn K (.ref f60) = true)
    (a63 : PySem.W.findIn K (.ref C3) "pieces" = some (some (.ref p63)))
    (x63 : PySem.W.specialIn K (.ref p63) "__get__" = some (some (.builtin "property.__get__")))
    (t63 : PySem.W.takesIn K (.ref p63) = some true)
    (q63 : PySem.W.recIn K p63 "property" = some (.ref f63 :: r63))
    (l63 : K.lookup f63 = some ⟨oc63, od63, .func (PySem.W.fnOf "pieces" "Table.pieces" (defArgs s_Table_pieces) (defBody s_Table_pieces) (defScope s_Table_pieces) .none kV63 dc63 pm63 an63 cd63 ct63), sl63⟩)
    (c63 : PySem.W.codeIn K cd63 "Table.pieces" = true)
    (k63 : PySem.W.keepIn K (.ref f63) = true)
    (a47 : PySem.W.findIn K (.ref C2) "pieces" = some (some (.ref p47)))
    (x47 : PySem.W.specialIn K (.ref p47) "__get__" = some (some (.builtin "property.__get__")))
    (t47 : PySem.W.takesIn K (.ref p47) = some true)
    (q47 : PySem.W.recIn K p47 "property" = some (.ref f47 :: r47))
    (l47 : K.lookup f47 = some ⟨oc47, od47, .func (PySem.W.fnOf "pieces" "Stored.pieces" (defArgs s_Stored_pieces) (defBody s_Stored_pieces) (defScope s_Stored_pieces) .none kV47 dc47 pm47 an47 cd47 ct47), sl47⟩)
    (c47 : PySem.W.codeIn K cd47 "Stored.pieces" = true)
    (k47 : PySem.W.keepIn K (.ref f47) = true)
    (a86 : PySem.W.findIn K (.ref C4) "fits" = some (some (.ref f86)))
    (i86 : PySem.W.isFn K (.ref f86) = true)
    (l86 : K.lookup f86 = some ⟨oc86, od86, .func (PySem.W.fnOf "fits" "Prices.fits" (defArgs s_Prices_fits) (defBody s_Prices_fits) (defScope s_Prices_fits) .none kV86 dc86 pm86 an86 cd86 ct86), sl86⟩)
    (c86 : PySem.W.codeIn K cd86 "Prices.fits" = true)
    (k86 : PySem.W.keepIn K (.ref f86) = true)
    (a61 : PySem.W.findIn K (.ref C3) "prime" = some (some (.ref p61)))
    (x61 : PySem.W.specialIn K (.ref p61) "__get__" = some (some (.builtin "property.__get__")))
    (t61 : PySem.W.takesIn K (.ref p61) = some true)
    (q61 : PySem.W.recIn K p61 "property" = some (.ref f61 :: r61))
    (l61 : K.lookup f61 = some ⟨oc61, od61, .func (PySem.W.fnOf "prime" "Table.prime" (defArgs s_Table_prime) (defBody s_Table_prime) (defScope s_Table_prime) .none kV61 dc61 pm61 an61 cd61 ct61), sl61⟩)
    (c61 : PySem.W.codeIn K cd61 "Table.prime" = true)
    (k61 : PySem.W.keepIn K (.ref f61) = true)
    (a30 : PySem.W.findIn K (.ref C1) "prime" = some (some (.ref p30)))
    (x30 : PySem.W.specialIn K (.ref p30) "__get__" = some (some (.builtin "property.__get__")))
    (t30 : PySem.W.takesIn K (.ref p30) = some true)
    (q30 : PySem.W.recIn K p30 "property" = some (.ref f30 :: r30))
    (l30 : K.lookup f30 = some ⟨oc30, od30, .func (PySem.W.fnOf "prime" "Space.prime" (defArgs s_Space_prime) (defBody s_Space_prime) (defScope s_Space_prime) .none kV30 dc30 pm30 an30 cd30 ct30), sl30⟩)
    (c30 : PySem.W.codeIn K cd30 "Space.prime" = true)
    (k30 : PySem.W.keepIn K (.ref f30) = true)
    (a17 : PySem.W.findIn K (.ref C0) "prime" = some (some (.ref p17)))
    (x17 : PySem.W.specialIn K (.ref p17) "__get__" = some (some (.builtin "property.__get__")))
    (t17 : PySem.W.takesIn K (.ref p17) = some true)
    (q17 : PySem.W.recIn K p17 "property" = some (.ref f17 :: r17))
    (l17 : K.lookup f17 = some ⟨oc17, od17, .func (PySem.W.fnOf "prime" "Sum.prime" (defArgs s_Sum_prime) (defBody s_Sum_prime) (defScope s_Sum_prime) .none kV17 dc17 pm17 an17 cd17 ct17), sl17⟩)
    (c17 : PySem.W.codeIn K cd17 "Sum.prime" = true)
    (k17 : PySem.W.keepIn K (.ref f17) = true)
    (a56 : PySem.W.findIn K (.ref C2) "fits" = some (some (.ref f56)))
    (i56 : PySem.W.isFn K (.ref f56) = true)
    (l56 : K.lookup f56 = some ⟨oc56, od56, .func (PySem.W.fnOf "fits" "Stored.fits" (defArgs s_Stored_fits) (defBody s_Stored_fits) (defScope s_Stored_fits) .none kV56 dc56 pm56 an56 cd56 ct56), sl56⟩)
    (c56 : PySem.W.codeIn K cd56 "Stored.fits" = true)
    (k56 : PySem.W.keepIn K (.ref f56) = true)
    (a111 : PySem.W.nsIn K mainGlobals "_law_fits_right" = some (some (.ref f111)))
    (l111 : K.lookup f111 = some ⟨oc111, od111, .func (PySem.W.fnOf "_law_fits_right" "_law_fits_right" (defArgs s_fits_right) (defBody s_fits_right) (defScope s_fits_right) .none kV111 dc111 pm111 an111 cd111 ct111), sl111⟩)
    (c111 : PySem.W.codeIn K cd111 "_law_fits_right" = true)
    (k111 : PySem.W.keepIn K (.ref f111) = true)
    (a112 : PySem.W.nsIn K mainGlobals "law" = some (some (.ref f112)))
    (l112 : K.lookup f112 = some ⟨oc112, od112, .func (PySem.W.fnOf "law" "law" (defArgs s_law) (defBody s_law) (defScope s_law) .none kV112 dc112 pm112 an112 cd112 ct112), sl112⟩)
    (c112 : PySem.W.codeIn K cd112 "law" = true)
    (k112 : PySem.W.keepIn K (.ref f112) = true)
    (z_super : PySem.W.nsIn K mainGlobals "super" = some none)
    (etp : (l.prog.main.scope.names.lookup ("super" : Str)).isSome = false)
    (eop : PySem.W.nsIn K cStatics "thirdparty.any" = some none)
    (aE8 : PySem.W.nsIn K mainGlobals "InvalidSpots" = some (some (.ref C8)))
    (eq8 : PySem.W.excInitIn K C8 ESX.exTail "Exception.__new__" = true)
    (eo8 : PySem.W.excOver K C8 ESX.exTail = true)
    (ei8 : PySem.W.findIn K (.ref C8) "__init__" = some (some (.ref ef8)))
    (et8 : PySem.W.typeIn K (.ref ef8) = some (.type "function"))
    (el8 : K.lookup ef8 = some ⟨eoc8, eod8, .func (PySem.W.ksFn "__init__" "InvalidSpots.__init__" (defArgs s_E8) (defBody s_E8) (defScope s_E8) .none ekV8 edc8 epm8 ean8 (.ref ecd8) ect8 ecc8), eosl8⟩)
    (ec8 : PySem.W.codeIn K (.ref ecd8) "InvalidSpots.__init__" = true)
    (ed8 : K.lookup ecd8 = some ⟨e1_8, e2_8, .fields evs8, e3_8⟩)
    (ev8 : evs8[2]? = some (.str efl8 etk8))
    (ew8 : ((l.prog.main.file : Str) == efl8) = true)
    (ex8 : K.lookup ecc8 = some ⟨x1_8, x2_8, .cell (some (.ref C8)), x3_8⟩)
    (es8 : PySem.W.ks_superIn K C8 C8 "__init__" = some (some (.builtin "Exception.__init__")))
    (eb8 : PySem.W.subIn K (.ref C8) (.type "Exception") = some true)
    (em8 : PySem.W.mroIn K C8 (.ref C8) = some true)
    (ea8 : PySem.W.findIn K (.ref C8) "__setattr__" = some (some (.builtin "object.__setattr__")))
    (en8 : PySem.W.findIn K (.ref C8) "value" = some none)
    (ek8 : PySem.W.keepIn K (.ref C8) = true)
    (ey8 : PySem.W.typeIn K (.ref C8) = some (.type "type"))
    (xga8 : PySem.W.findIn K (.ref C8) "__getattribute__" = some (some (.builtin "BaseException.__getattribute__")))
    (xgg8 : PySem.W.findIn K (.ref C8) "__getattr__" = some none)
    (xex8 : PySem.W.subIn K (.ref C8) (.type "BaseException") = some true)
    (xhd8 : PySem.W.hasDictIn K C8 = true)
    (aE9 : PySem.W.nsIn K mainGlobals "InvalidCost" = some (some (.ref C9)))
    (eq9 : PySem.W.excInitIn K C9 ESX.exTail "Exception.__new__" = true)
    (eo9 : PySem.W.excOver K C9 ESX.exTail = true)
    (ei9 : PySem.W.findIn K (.ref C9) "__init__" = some (some (.ref ef9)))
    (et9 : PySem.W.typeIn K (.ref ef9) = some (.type "function"))
    (el9 : K.lookup ef9 = some ⟨eoc9, eod9, .func (PySem.W.ksFn "__init__" "InvalidCost.__init__" (defArgs s_E9) (defBody s_E9) (defScope s_E9) .none ekV9 edc9 epm9 ean9 (.ref ecd9) ect9 ecc9), eosl9⟩)
    (ec9 : PySem.W.codeIn K (.ref ecd9) "InvalidCost.__init__" = true)
    (ed9 : K.lookup ecd9 = some ⟨e1_9, e2_9, .fields evs9, e3_9⟩)
    (ev9 : evs9[2]? = some (.str efl9 etk9))
    (ew9 : ((l.prog.main.file : Str) == efl9) = true)
    (ex9 : K.lookup ecc9 = some ⟨x1_9, x2_9, .cell (some (.ref C9)), x3_9⟩)
    (es9 : PySem.W.ks_superIn K C9 C9 "__init__" = some (some (.builtin "Exception.__init__")))
    (eb9 : PySem.W.subIn K (.ref C9) (.type "Exception") = some true)
    (em9 : PySem.W.mroIn K C9 (.ref C9) = some true)
    (ea9 : PySem.W.findIn K (.ref C9) "__setattr__" = some (some (.builtin "object.__setattr__")))
    (en9 : PySem.W.findIn K (.ref C9) "value" = some none)
    (ek9 : PySem.W.keepIn K (.ref C9) = true)
    (ey9 : PySem.W.typeIn K (.ref C9) = some (.type "type"))
    (xga9 : PySem.W.findIn K (.ref C9) "__getattribute__" = some (some (.builtin "BaseException.__getattribute__")))
    (xgg9 : PySem.W.findIn K (.ref C9) "__getattr__" = some none)
    (xex9 : PySem.W.subIn K (.ref C9) (.type "BaseException") = some true)
    (xhd9 : PySem.W.hasDictIn K C9 = true)
    (aE11 : PySem.W.nsIn K mainGlobals "InvalidNumber" = some (some (.ref C11)))
    (eq11 : PySem.W.excInitIn K C11 ESX.exTail "Exception.__new__" = true)
    (eo11 : PySem.W.excOver K C11 ESX.exTail = true)
    (ei11 : PySem.W.findIn K (.ref C11) "__init__" = some (some (.ref ef11)))
    (et11 : PySem.W.typeIn K (.ref ef11) = some (.type "function"))
    (el11 : K.lookup ef11 = some ⟨eoc11, eod11, .func (PySem.W.ksFn "__init__" "InvalidNumber.__init__" (defArgs s_E11) (defBody s_E11) (defScope s_E11) .none ekV11 edc11 epm11 ean11 (.ref ecd11) ect11 ecc11), eosl11⟩)
    (ec11 : PySem.W.codeIn K (.ref ecd11) "InvalidNumber.__init__" = true)
    (ed11 : K.lookup ecd11 = some ⟨e1_11, e2_11, .fields evs11, e3_11⟩)
    (ev11 : evs11[2]? = some (.str efl11 etk11))
    (ew11 : ((l.prog.main.file : Str) == efl11) = true)
    (ex11 : K.lookup ecc11 = some ⟨x1_11, x2_11, .cell (some (.ref C11)), x3_11⟩)
    (es11 : PySem.W.ks_superIn K C11 C11 "__init__" = some (some (.builtin "Exception.__init__")))
    (eb11 : PySem.W.subIn K (.ref C11) (.type "Exception") = some true)
    (em11 : PySem.W.mroIn K C11 (.ref C11) = some true)
    (ea11 : PySem.W.findIn K (.ref C11) "__setattr__" = some (some (.builtin "object.__setattr__")))
    (en11 : PySem.W.findIn K (.ref C11) "value" = some none)
    (ek11 : PySem.W.keepIn K (.ref C11) = true)
    (ey11 : PySem.W.typeIn K (.ref C11) = some (.type "type"))
    (xga11 : PySem.W.findIn K (.ref C11) "__getattribute__" = some (some (.builtin "BaseException.__getattribute__")))
    (xgg11 : PySem.W.findIn K (.ref C11) "__getattr__" = some none)
    (xex11 : PySem.W.subIn K (.ref C11) (.type "BaseException") = some true)
    (xhd11 : PySem.W.hasDictIn K C11 = true)
    (aE12 : PySem.W.nsIn K mainGlobals "InvalidTable" = some (some (.ref C12)))
    (eq12 : PySem.W.excInitIn K C12 ESX.exTail "Exception.__new__" = true)
    (eo12 : PySem.W.excOver K C12 ESX.exTail = true)
    (ei12 : PySem.W.findIn K (.ref C12) "__init__" = some (some (.ref ef12)))
    (et12 : PySem.W.typeIn K (.ref ef12) = some (.type "function"))
    (el12 : K.lookup ef12 = some ⟨eoc12, eod12, .func (PySem.W.ksFn "__init__" "InvalidTable.__init__" (defArgs s_E12) (defBody s_E12) (defScope s_E12) .none ekV12 edc12 epm12 ean12 (.ref ecd12) ect12 ecc12), eosl12⟩)
    (ec12 : PySem.W.codeIn K (.ref ecd12) "InvalidTable.__init__" = true)
    (ed12 : K.lookup ecd12 = some ⟨e1_12, e2_12, .fields evs12, e3_12⟩)
    (ev12 : evs12[2]? = some (.str efl12 etk12))
    (ew12 : ((l.prog.main.file : Str) == efl12) = true)
    (ex12 : K.lookup ecc12 = some ⟨x1_12, x2_12, .cell (some (.ref C12)), x3_12⟩)
    (es12 : PySem.W.ks_superIn K C12 C12 "__init__" = some (some (.builtin "Exception.__init__")))
    (eb12 : PySem.W.subIn K (.ref C12) (.type "Exception") = some true)
    (em12 : PySem.W.mroIn K C12 (.ref C12) = some true)
    (ea12 : PySem.W.findIn K (.ref C12) "__setattr__" = some (some (.builtin "object.__setattr__")))
    (en12 : PySem.W.findIn K (.ref C12) "place" = some none)
    (ek12 : PySem.W.keepIn K (.ref C12) = true)
    (ey12 : PySem.W.typeIn K (.ref C12) = some (.type "type"))
    (xga12 : PySem.W.findIn K (.ref C12) "__getattribute__" = some (some (.builtin "BaseException.__getattribute__")))
    (xgg12 : PySem.W.findIn K (.ref C12) "__getattr__" = some none)
    (xex12 : PySem.W.subIn K (.ref C12) (.type "BaseException") = some true)
    (xhd12 : PySem.W.hasDictIn K C12 = true)
    (pg0 : PySem.W.plainGet K C0 Str.empty = true)
    (ic0 : PySem.W.isClsIn K C0 = true)
    (po0 : PySem.W.plainOver K C0 = true)
    (sa0 : PySem.W.findIn K (.ref C0) "__setattr__" = some (some (.builtin "object.__setattr__")))
    (pg1 : PySem.W.plainGet K C1 Str.empty = true)
    (ic1 : PySem.W.isClsIn K C1 = true)
    (po1 : PySem.W.plainOver K C1 = true)
    (sa1 : PySem.W.findIn K (.ref C1) "__setattr__" = some (some (.builtin "object.__setattr__")))
    (pg2 : PySem.W.plainGet K C2 Str.empty = true)
    (ic2 : PySem.W.isClsIn K C2 = true)
    (po2 : PySem.W.plainOver K C2 = true)
    (sa2 : PySem.W.findIn K (.ref C2) "__setattr__" = some (some (.builtin "object.__setattr__")))
    (pg3 : PySem.W.plainGet K C3 Str.empty = true)
    (ic3 : PySem.W.isClsIn K C3 = true)
    (po3 : PySem.W.plainOver K C3 = true)
    (sa3 : PySem.W.findIn K (.ref C3) "__setattr__" = some (some (.builtin "object.__setattr__")))
    (pg4 : PySem.W.plainGet K C4 Str.empty = true)
    (ic4 : PySem.W.isClsIn K C4 = true)
    (po4 : PySem.W.plainOver K C4 = true)
    (sa4 : PySem.W.findIn K (.ref C4) "__setattr__" = some (some (.builtin "object.__setattr__")))
    (fi90 : PySem.W.fnIn K f90 = true)
    (g_MOST_DATA : PySem.W.nsIn K mainGlobals "MOST_DATA" = some (some (.int 4096 tk_MOST_DATA)))
    (g_MOST_PARTS : PySem.W.nsIn K mainGlobals "MOST_PARTS" = some (some (.int 3 tk_MOST_PARTS)))
    (g_MOST_PIECES : PySem.W.nsIn K mainGlobals "MOST_PIECES" = some (some (.int 6 tk_MOST_PIECES)))
    (g_MOST_PRICE : PySem.W.nsIn K mainGlobals "MOST_PRICE" = some (some (.int 1000 tk_MOST_PRICE)))
    (g_MOST_SPOTS : PySem.W.nsIn K mainGlobals "MOST_SPOTS" = some (some (.int 10 tk_MOST_SPOTS)))
    (g_PRIMES : PySem.W.nsIn K mainGlobals "PRIMES" = some (some (.ref ga_PRIMES)))
    (gl_PRIMES : K.lookup ga_PRIMES = some ⟨.type "tuple", go_PRIMES, .seq gi_PRIMES gn_PRIMES, gs_PRIMES⟩)
    (gz_PRIMES : gi_PRIMES.size ≤ sizeLine)
    (gv_PRIMES : gi_PRIMES.toList.map isIntV = ([2, 3, 5, 7] : List Int).map some)
    (ca0 : PySem.W.findIn K (.ref C0) "__class__" = some (some (.builtin "object.__class__")))
    (cn0 : PySem.W.specialIn K (.builtin "object.__class__") "__get__" = some (some (.builtin "getset_descriptor.__get__")))
    (cT0 : PySem.W.takesIn K (.builtin "object.__class__") = some true)
    (cM0 : PySem.W.mroIn K C0 (.type "object") = some true)
    (ca1 : PySem.W.findIn K (.ref C1) "__class__" = some (some (.builtin "object.__class__")))
    (cn1 : PySem.W.specialIn K (.builtin "object.__class__") "__get__" = some (some (.builtin "getset_descriptor.__get__")))
    (cT1 : PySem.W.takesIn K (.builtin "object.__class__") = some true)
    (cM1 : PySem.W.mroIn K C1 (.type "object") = some true)
    (ca2 : PySem.W.findIn K (.ref C2) "__class__" = some (some (.builtin "object.__class__")))
    (cn2 : PySem.W.specialIn K (.builtin "object.__class__") "__get__" = some (some (.builtin "getset_descriptor.__get__")))
    (cT2 : PySem.W.takesIn K (.builtin "object.__class__") = some true)
    (cM2 : PySem.W.mroIn K C2 (.type "object") = some true)
    (ca3 : PySem.W.findIn K (.ref C3) "__class__" = some (some (.builtin "object.__class__")))
    (cn3 : PySem.W.specialIn K (.builtin "object.__class__") "__get__" = some (some (.builtin "getset_descriptor.__get__")))
    (cT3 : PySem.W.takesIn K (.builtin "object.__class__") = some true)
    (cM3 : PySem.W.mroIn K C3 (.type "object") = some true)
    (ca4 : PySem.W.findIn K (.ref C4) "__class__" = some (some (.builtin "object.__class__")))
    (cn4 : PySem.W.specialIn K (.builtin "object.__class__") "__get__" = some (some (.builtin "getset_descriptor.__get__")))
    (cT4 : PySem.W.takesIn K (.builtin "object.__class__") = some true)
    (cM4 : PySem.W.mroIn K C4 (.type "object") = some true)
    (kas_0l : PySem.W.mroIn K C0 (.type "list") = some false)
    (kas_0t : PySem.W.mroIn K C0 (.type "tuple") = some false)
    (kas_1l : PySem.W.mroIn K C1 (.type "list") = some false)
    (kas_1t : PySem.W.mroIn K C1 (.type "tuple") = some false)
    (kas_2l : PySem.W.mroIn K C2 (.type "list") = some false)
    (kas_2t : PySem.W.mroIn K C2 (.type "tuple") = some false)
    (kas_3l : PySem.W.mroIn K C3 (.type "list") = some false)
    (kas_3t : PySem.W.mroIn K C3 (.type "tuple") = some false)
    (kas_4l : PySem.W.mroIn K C4 (.type "list") = some false)
    (kas_4t : PySem.W.mroIn K C4 (.type "tuple") = some false)
    (kb_0c : PySem.W.isClsIn K C0 = true)
    (kb_0y : PySem.W.typeIn K (.ref C0) = some (.type "type"))
    (kb_0_NoneType : PySem.W.subIn K (.type "NoneType") (.ref C0) = some false)
    (kb_0_bool : PySem.W.subIn K (.type "bool") (.ref C0) = some false)
    (kb_0_int : PySem.W.subIn K (.type "int") (.ref C0) = some false)
    (kb_0_str : PySem.W.subIn K (.type "str") (.ref C0) = some false)
    (kb_0_list : PySem.W.subIn K (.type "list") (.ref C0) = some false)
    (kb_0_tuple : PySem.W.subIn K (.type "tuple") (.ref C0) = some false)
    (kb_0_dict : PySem.W.subIn K (.type "dict") (.ref C0) = some false)
    (kb_1c : PySem.W.isClsIn K C1 = true)
    (kb_1y : PySem.W.typeIn K (.ref C1) = some (.type "type"))
    (kb_1_NoneType : PySem.W.subIn K (.type "NoneType") (.ref C1) = some false)
    (kb_1_bool : PySem.W.subIn K (.type "bool") (.ref C1) = some false)
    (kb_1_int : PySem.W.subIn K (.type "int") (.ref C1) = some false)
    (kb_1_str : PySem.W.subIn K (.type "str") (.ref C1) = some false)
    (kb_1_list : PySem.W.subIn K (.type "list") (.ref C1) = some false)
    (kb_1_tuple : PySem.W.subIn K (.type "tuple") (.ref C1) = some false)
    (kb_1_dict : PySem.W.subIn K (.type "dict") (.ref C1) = some false)
    (kb_2c : PySem.W.isClsIn K C2 = true)
    (kb_2y : PySem.W.typeIn K (.ref C2) = some (.type "type"))
    (kb_2_NoneType : PySem.W.subIn K (.type "NoneType") (.ref C2) = some false)
    (kb_2_bool : PySem.W.subIn K (.type "bool") (.ref C2) = some false)
    (kb_2_int : PySem.W.subIn K (.type "int") (.ref C2) = some false)
    (kb_2_str : PySem.W.subIn K (.type "str") (.ref C2) = some false)
    (kb_2_list : PySem.W.subIn K (.type "list") (.ref C2) = some false)
    (kb_2_tuple : PySem.W.subIn K (.type "tuple") (.ref C2) = some false)
    (kb_2_dict : PySem.W.subIn K (.type "dict") (.ref C2) = some false)
    (kb_3c : PySem.W.isClsIn K C3 = true)
    (kb_3y : PySem.W.typeIn K (.ref C3) = some (.type "type"))
    (kb_3_NoneType : PySem.W.subIn K (.type "NoneType") (.ref C3) = some false)
    (kb_3_bool : PySem.W.subIn K (.type "bool") (.ref C3) = some false)
    (kb_3_int : PySem.W.subIn K (.type "int") (.ref C3) = some false)
    (kb_3_str : PySem.W.subIn K (.type "str") (.ref C3) = some false)
    (kb_3_list : PySem.W.subIn K (.type "list") (.ref C3) = some false)
    (kb_3_tuple : PySem.W.subIn K (.type "tuple") (.ref C3) = some false)
    (kb_3_dict : PySem.W.subIn K (.type "dict") (.ref C3) = some false)
    (kb_4c : PySem.W.isClsIn K C4 = true)
    (kb_4y : PySem.W.typeIn K (.ref C4) = some (.type "type"))
    (kb_4_NoneType : PySem.W.subIn K (.type "NoneType") (.ref C4) = some false)
    (kb_4_bool : PySem.W.subIn K (.type "bool") (.ref C4) = some false)
    (kb_4_int : PySem.W.subIn K (.type "int") (.ref C4) = some false)
    (kb_4_str : PySem.W.subIn K (.type "str") (.ref C4) = some false)
    (kb_4_list : PySem.W.subIn K (.type "list") (.ref C4) = some false)
    (kb_4_tuple : PySem.W.subIn K (.type "tuple") (.ref C4) = some false)
    (kb_4_dict : PySem.W.subIn K (.type "dict") (.ref C4) = some false)
    (ki_0_1 : PySem.W.kitOne K (.ref C0) (.ref C1) = some false)
    (ki_0_2 : PySem.W.kitOne K (.ref C0) (.ref C2) = some false)
    (ki_0_3 : PySem.W.kitOne K (.ref C0) (.ref C3) = some false)
    (ki_0_4 : PySem.W.kitOne K (.ref C0) (.ref C4) = some false)
    (ki_0_bool : PySem.W.mroIn K C0 (.type "bool") = some false)
    (ki_0_int : PySem.W.mroIn K C0 (.type "int") = some false)
    (ki_0_tuple : PySem.W.mroIn K C0 (.type "tuple") = some false)
    (ki_1_0 : PySem.W.kitOne K (.ref C1) (.ref C0) = some false)
    (ki_1_2 : PySem.W.kitOne K (.ref C1) (.ref C2) = some false)
    (ki_1_3 : PySem.W.kitOne K (.ref C1) (.ref C3) = some false)
    (ki_1_4 : PySem.W.kitOne K (.ref C1) (.ref C4) = some false)
    (ki_1_bool : PySem.W.mroIn K C1 (.type "bool") = some false)
    (ki_1_int : PySem.W.mroIn K C1 (.type "int") = some false)
    (ki_1_tuple : PySem.W.mroIn K C1 (.type "tuple") = some false)
    (ki_2_0 : PySem.W.kitOne K (.ref C2) (.ref C0) = some false)
    (ki_2_1 : PySem.W.kitOne K (.ref C2) (.ref C1) = some false)
    (ki_2_3 : PySem.W.kitOne K (.ref C2) (.ref C3) = some false)
    (ki_2_4 : PySem.W.kitOne K (.ref C2) (.ref C4) = some false)
    (ki_2_bool : PySem.W.mroIn K C2 (.type "bool") = some false)
    (ki_2_int : PySem.W.mroIn K C2 (.type "int") = some false)
    (ki_2_tuple : PySem.W.mroIn K C2 (.type "tuple") = some false)
    (ki_3_0 : PySem.W.kitOne K (.ref C3) (.ref C0) = some false)
    (ki_3_1 : PySem.W.kitOne K (.ref C3) (.ref C1) = some false)
    (ki_3_2 : PySem.W.kitOne K (.ref C3) (.ref C2) = some false)
    (ki_3_4 : PySem.W.kitOne K (.ref C3) (.ref C4) = some false)
    (ki_3_bool : PySem.W.mroIn K C3 (.type "bool") = some false)
    (ki_3_int : PySem.W.mroIn K C3 (.type "int") = some false)
    (ki_3_tuple : PySem.W.mroIn K C3 (.type "tuple") = some false)
    (ki_4_0 : PySem.W.kitOne K (.ref C4) (.ref C0) = some false)
    (ki_4_1 : PySem.W.kitOne K (.ref C4) (.ref C1) = some false)
    (ki_4_2 : PySem.W.kitOne K (.ref C4) (.ref C2) = some false)
    (ki_4_3 : PySem.W.kitOne K (.ref C4) (.ref C3) = some false)
    (ki_4_bool : PySem.W.mroIn K C4 (.type "bool") = some false)
    (ki_4_int : PySem.W.mroIn K C4 (.type "int") = some false)
    (ki_4_tuple : PySem.W.mroIn K C4 (.type "tuple") = some false)
    (mk3 : PySem.W.makesIn K C3 = true)
    (kc3 : PySem.W.keepIn K (.ref C3) = true)
    (mk4 : PySem.W.makesIn K C4 = true)
    (kc4 : PySem.W.keepIn K (.ref C4) = true)
    (nb_0_NoneType : PySem.W.notFirst K C0 (.type "NoneType") = true)
    (nb_0_bool : PySem.W.notFirst K C0 (.type "bool") = true)
    (nb_0_int : PySem.W.notFirst K C0 (.type "int") = true)
    (nb_0_str : PySem.W.notFirst K C0 (.type "str") = true)
    (nb_0_list : PySem.W.notFirst K C0 (.type "list") = true)
    (nb_0_tuple : PySem.W.notFirst K C0 (.type "tuple") = true)
    (nb_0_dict : PySem.W.notFirst K C0 (.type "dict") = true)
    (nb_1_NoneType : PySem.W.notFirst K C1 (.type "NoneType") = true)
    (nb_1_bool : PySem.W.notFirst K C1 (.type "bool") = true)
    (nb_1_int : PySem.W.notFirst K C1 (.type "int") = true)
    (nb_1_str : PySem.W.notFirst K C1 (.type "str") = true)
    (nb_1_list : PySem.W.notFirst K C1 (.type "list") = true)
    (nb_1_tuple : PySem.W.notFirst K C1 (.type "tuple") = true)
    (nb_1_dict : PySem.W.notFirst K C1 (.type "dict") = true)
    (nb_2_NoneType : PySem.W.notFirst K C2 (.type "NoneType") = true)
    (nb_2_bool : PySem.W.notFirst K C2 (.type "bool") = true)
    (nb_2_int : PySem.W.notFirst K C2 (.type "int") = true)
    (nb_2_str : PySem.W.notFirst K C2 (.type "str") = true)
    (nb_2_list : PySem.W.notFirst K C2 (.type "list") = true)
    (nb_2_tuple : PySem.W.notFirst K C2 (.type "tuple") = true)
    (nb_2_dict : PySem.W.notFirst K C2 (.type "dict") = true)
    (nb_3_NoneType : PySem.W.notFirst K C3 (.type "NoneType") = true)
    (nb_3_bool : PySem.W.notFirst K C3 (.type "bool") = true)
    (nb_3_int : PySem.W.notFirst K C3 (.type "int") = true)
    (nb_3_str : PySem.W.notFirst K C3 (.type "str") = true)
    (nb_3_list : PySem.W.notFirst K C3 (.type "list") = true)
    (nb_3_tuple : PySem.W.notFirst K C3 (.type "tuple") = true)
    (nb_3_dict : PySem.W.notFirst K C3 (.type "dict") = true)
    (nb_4_NoneType : PySem.W.notFirst K C4 (.type "NoneType") = true)
    (nb_4_bool : PySem.W.notFirst K C4 (.type "bool") = true)
    (nb_4_int : PySem.W.notFirst K C4 (.type "int") = true)
    (nb_4_str : PySem.W.notFirst K C4 (.type "str") = true)
    (nb_4_list : PySem.W.notFirst K C4 (.type "list") = true)
    (nb_4_tuple : PySem.W.notFirst K C4 (.type "tuple") = true)
    (nb_4_dict : PySem.W.notFirst K C4 (.type "dict") = true)
    (ne_0 : PySem.W.findIn K (.ref C0) "__ne__" = some (some (.builtin "object.__ne__")))
    (ne_1 : PySem.W.findIn K (.ref C1) "__ne__" = some (some (.builtin "object.__ne__")))
    (ne_2 : PySem.W.findIn K (.ref C2) "__ne__" = some (some (.builtin "object.__ne__")))
    (ne_3 : PySem.W.findIn K (.ref C3) "__ne__" = some (some (.builtin "object.__ne__")))
    (ne_4 : PySem.W.findIn K (.ref C4) "__ne__" = some (some (.builtin "object.__ne__")))
    (nf_0_0 : PySem.W.notFirst K C0 (.ref C0) = true)
    (nf_0_1 : PySem.W.notFirst K C0 (.ref C1) = true)
    (nf_0_2 : PySem.W.notFirst K C0 (.ref C2) = true)
    (nf_0_3 : PySem.W.notFirst K C0 (.ref C3) = true)
    (nf_0_4 : PySem.W.notFirst K C0 (.ref C4) = true)
    (nf_1_0 : PySem.W.notFirst K C1 (.ref C0) = true)
    (nf_1_1 : PySem.W.notFirst K C1 (.ref C1) = true)
    (nf_1_2 : PySem.W.notFirst K C1 (.ref C2) = true)
    (nf_1_3 : PySem.W.notFirst K C1 (.ref C3) = true)
    (nf_1_4 : PySem.W.notFirst K C1 (.ref C4) = true)
    (nf_2_0 : PySem.W.notFirst K C2 (.ref C0) = true)
    (nf_2_1 : PySem.W.notFirst K C2 (.ref C1) = true)
    (nf_2_2 : PySem.W.notFirst K C2 (.ref C2) = true)
    (nf_2_3 : PySem.W.notFirst K C2 (.ref C3) = true)
    (nf_2_4 : PySem.W.notFirst K C2 (.ref C4) = true)
    (nf_3_0 : PySem.W.notFirst K C3 (.ref C0) = true)
    (nf_3_1 : PySem.W.notFirst K C3 (.ref C1) = true)
    (nf_3_2 : PySem.W.notFirst K C3 (.ref C2) = true)
    (nf_3_3 : PySem.W.notFirst K C3 (.ref C3) = true)
    (nf_3_4 : PySem.W.notFirst K C3 (.ref C4) = true)
    (nf_4_0 : PySem.W.notFirst K C4 (.ref C0) = true)
    (nf_4_1 : PySem.W.notFirst K C4 (.ref C1) = true)
    (nf_4_2 : PySem.W.notFirst K C4 (.ref C2) = true)
    (nf_4_3 : PySem.W.notFirst K C4 (.ref C3) = true)
    (nf_4_4 : PySem.W.notFirst K C4 (.ref C4) = true)
    (sa_sp0_own_prime : PySem.W.findIn K (.ref C0) "own_prime" = some (some (.ref sp0_own_prime)))
    (sg_sp0_own_prime : PySem.W.specialIn K (.ref sp0_own_prime) "__get__" = some (some (.builtin "member_descriptor.__get__")))
    (st_sp0_own_prime : PySem.W.takesIn K (.ref sp0_own_prime) = some true)
    (sy_sp0_own_prime : PySem.W.typeIn K (.ref sp0_own_prime) = some (.type "member_descriptor"))
    (sx_sp0_own_prime : PySem.W.slotIn K sp0_own_prime C0 = some 0)
    (sa_sp0_row : PySem.W.findIn K (.ref C0) "row" = some (some (.ref sp0_row)))
    (sg_sp0_row : PySem.W.specialIn K (.ref sp0_row) "__get__" = some (some (.builtin "member_descriptor.__get__")))
    (st_sp0_row : PySem.W.takesIn K (.ref sp0_row) = some true)
    (sy_sp0_row : PySem.W.typeIn K (.ref sp0_row) = some (.type "member_descriptor"))
    (sx_sp0_row : PySem.W.slotIn K sp0_row C0 = some 1)
    (sa_sp1_own_prime : PySem.W.findIn K (.ref C1) "own_prime" = some (some (.ref sp1_own_prime)))
    (sg_sp1_own_prime : PySem.W.specialIn K (.ref sp1_own_prime) "__get__" = some (some (.builtin "member_descriptor.__get__")))
    (st_sp1_own_prime : PySem.W.takesIn K (.ref sp1_own_prime) = some true)
    (sy_sp1_own_prime : PySem.W.typeIn K (.ref sp1_own_prime) = some (.type "member_descriptor"))
    (sx_sp1_own_prime : PySem.W.slotIn K sp1_own_prime C1 = some 1)
    (sa_sp1_own_size : PySem.W.findIn K (.ref C1) "own_size" = some (some (.ref sp1_own_size)))
    (sg_sp1_own_size : PySem.W.specialIn K (.ref sp1_own_size) "__get__" = some (some (.builtin "member_descriptor.__get__")))
    (st_sp1_own_size : PySem.W.takesIn K (.ref sp1_own_size) = some true)
    (sy_sp1_own_size : PySem.W.typeIn K (.ref sp1_own_size) = some (.type "member_descriptor"))
    (sx_sp1_own_size : PySem.W.slotIn K sp1_own_size C1 = some 2)
    (sa_sp1_rows : PySem.W.findIn K (.ref C1) "rows" = some (some (.ref sp1_rows)))
    (sg_sp1_rows : PySem.W.specialIn K (.ref sp1_rows) "__get__" = some (some (.builtin "member_descriptor.__get__")))
    (st_sp1_rows : PySem.W.takesIn K (.ref sp1_rows) = some true)
    (sy_sp1_rows : PySem.W.typeIn K (.ref sp1_rows) = some (.type "member_descriptor"))
    (sx_sp1_rows : PySem.W.slotIn K sp1_rows C1 = some 3)
    (sa_sp2_own_pieces : PySem.W.findIn K (.ref C2) "own_pieces" = some (some (.ref sp2_own_pieces)))
    (sg_sp2_own_pieces : PySem.W.specialIn K (.ref sp2_own_pieces) "__get__" = some (some (.builtin "member_descriptor.__get__")))
    (st_sp2_own_pieces : PySem.W.takesIn K (.ref sp2_own_pieces) = some true)
    (sy_sp2_own_pieces : PySem.W.typeIn K (.ref sp2_own_pieces) = some (.type "member_descriptor"))
    (sx_sp2_own_pieces : PySem.W.slotIn K sp2_own_pieces C2 = some 0)
    (sa_sp3_own_pieces : PySem.W.findIn K (.ref C3) "own_pieces" = some (some (.ref sp3_own_pieces)))
    (sg_sp3_own_pieces : PySem.W.specialIn K (.ref sp3_own_pieces) "__get__" = some (some (.builtin "member_descriptor.__get__")))
    (st_sp3_own_pieces : PySem.W.takesIn K (.ref sp3_own_pieces) = some true)
    (sy_sp3_own_pieces : PySem.W.typeIn K (.ref sp3_own_pieces) = some (.type "member_descriptor"))
    (sx_sp3_own_pieces : PySem.W.slotIn K sp3_own_pieces C3 = some 0)
    (sa_sp3_own_prime : PySem.W.findIn K (.ref C3) "own_prime" = some (some (.ref sp3_own_prime)))
    (sg_sp3_own_prime : PySem.W.specialIn K (.ref sp3_own_prime) "__get__" = some (some (.builtin "member_descriptor.__get__")))
    (st_sp3_own_prime : PySem.W.takesIn K (.ref sp3_own_prime) = some true)
    (sy_sp3_own_prime : PySem.W.typeIn K (.ref sp3_own_prime) = some (.type "member_descriptor"))
    (sx_sp3_own_prime : PySem.W.slotIn K sp3_own_prime C3 = some 1)
    (sa_sp3_own_size : PySem.W.findIn K (.ref C3) "own_size" = some (some (.ref sp3_own_size)))
    (sg_sp3_own_size : PySem.W.specialIn K (.ref sp3_own_size) "__get__" = some (some (.builtin "member_descriptor.__get__")))
    (st_sp3_own_size : PySem.W.takesIn K (.ref sp3_own_size) = some true)
    (sy_sp3_own_size : PySem.W.typeIn K (.ref sp3_own_size) = some (.type "member_descriptor"))
    (sx_sp3_own_size : PySem.W.slotIn K sp3_own_size C3 = some 2)
    (sa_sp3_own_spots : PySem.W.findIn K (.ref C3) "own_spots" = some (some (.ref sp3_own_spots)))
    (sg_sp3_own_spots : PySem.W.specialIn K (.ref sp3_own_spots) "__get__" = some (some (.builtin "member_descriptor.__get__")))
    (st_sp3_own_spots : PySem.W.takesIn K (.ref sp3_own_spots) = some true)
    (sy_sp3_own_spots : PySem.W.typeIn K (.ref sp3_own_spots) = some (.type "member_descriptor"))
    (sx_sp3_own_spots : PySem.W.slotIn K sp3_own_spots C3 = some 3)
    (sa_sp4_open_prices : PySem.W.findIn K (.ref C4) "open_prices" = some (some (.ref sp4_open_prices)))
    (sg_sp4_open_prices : PySem.W.specialIn K (.ref sp4_open_prices) "__get__" = some (some (.builtin "member_descriptor.__get__")))
    (st_sp4_open_prices : PySem.W.takesIn K (.ref sp4_open_prices) = some true)
    (sy_sp4_open_prices : PySem.W.typeIn K (.ref sp4_open_prices) = some (.type "member_descriptor"))
    (sx_sp4_open_prices : PySem.W.slotIn K sp4_open_prices C4 = some 0)
    (sa_sp4_part_prices : PySem.W.findIn K (.ref C4) "part_prices" = some (some (.ref sp4_part_prices)))
    (sg_sp4_part_prices : PySem.W.specialIn K (.ref sp4_part_prices) "__get__" = some (some (.builtin "member_descriptor.__get__")))
    (st_sp4_part_prices : PySem.W.takesIn K (.ref sp4_part_prices) = some true)
    (sy_sp4_part_prices : PySem.W.typeIn K (.ref sp4_part_prices) = some (.type "member_descriptor"))
    (sx_sp4_part_prices : PySem.W.slotIn K sp4_part_prices C4 = some 1)
    (sa_sp4_whole_prices : PySem.W.findIn K (.ref C4) "whole_prices" = some (some (.ref sp4_whole_prices)))
    (sg_sp4_whole_prices : PySem.W.specialIn K (.ref sp4_whole_prices) "__get__" = some (some (.builtin "member_descriptor.__get__")))
    (st_sp4_whole_prices : PySem.W.takesIn K (.ref sp4_whole_prices) = some true)
    (sy_sp4_whole_prices : PySem.W.typeIn K (.ref sp4_whole_prices) = some (.type "member_descriptor"))
    (sx_sp4_whole_prices : PySem.W.slotIn K sp4_whole_prices C4 = some 2)
    (z_all : PySem.W.nsIn K mainGlobals "all" = some none)
    (z_any : PySem.W.nsIn K mainGlobals "any" = some none)
    (z_bool : PySem.W.nsIn K mainGlobals "bool" = some none)
    (z_enumerate : PySem.W.nsIn K mainGlobals "enumerate" = some none)
    (z_int : PySem.W.nsIn K mainGlobals "int" = some none)
    (z_isinstance : PySem.W.nsIn K mainGlobals "isinstance" = some none)
    (z_len : PySem.W.nsIn K mainGlobals "len" = some none)
    (z_list : PySem.W.nsIn K mainGlobals "list" = some none)
    (z_max : PySem.W.nsIn K mainGlobals "max" = some none)
    (z_min : PySem.W.nsIn K mainGlobals "min" = some none)
    (z_range : PySem.W.nsIn K mainGlobals "range" = some none)
    (z_sorted : PySem.W.nsIn K mainGlobals "sorted" = some none)
    (z_sum : PySem.W.nsIn K mainGlobals "sum" = some none)
    (z_tuple : PySem.W.nsIn K mainGlobals "tuple" = some none)
    (z_zip : PySem.W.nsIn K mainGlobals "zip" = some none)
    (ndT : (([mP102] : List Addr)).Nodup)
    (cs : List (Addr × Addr × Addr)) (hcl : cs.length = (["_law_sets"] : List Str).length) (hcs : ∀ (i : Nat) (x : Str) (p : Addr × Addr × Addr), (["_law_sets"] : List Str)[i]? = some x → cs[i]? = some p → MkT mg h x p.1 p.2.1 p.2.2) :
    ∃ tb : List (Addr × Str), (∀ p ∈ tb, ∃ r ∈ cs, r.2.2 = p.1) ∧ ∀ base : Heap, K.In base → base.Ns mainGlobals mg → SysD base → (∀ r ∈ cs, LamX.TabB base mg r.2.1 r.2.2) → FnG l.prog w K mg base 9 fa (spLaw tb K) := by
  have e := hfa.symm.trans (PySem.W.mg_of X G a112)
  obtain rfl : f112 = fa := by cases e; rfl
  match cs, hcl with
  | [q102_], _ =>
    obtain ⟨f', c', t'⟩ := q102_
    obtain ⟨e1, e2, e3⟩ := mk_eq (hcs 0 _ _ rfl rfl) X (PySem.W.mg_of X G a102) l102 rfl lc102 vp102
    dsimp only at e1 e2 e3
    replace e1 := e1.symm
    replace e2 := e2.symm
    replace e3 := e3.symm
    subst e1 e2 e3
    have T : Txt l.prog (kOf [C0, C1, C2, C3, C4, 0, 0, 0, C8, C9, 0, C11, C12, 0] [(mP102, (("_law_sets" : Str) ++ ".<locals>.") ++ "<lambda>")]) (adOf [0, 0, 0, 0, 0, 0, 0, 0, 0, f9, f10, f11, f12, f13, f14, 0, 0, f17, 0, 0, 0, 0, 0, 0, 0, 0, 0, f27, 0, 0, f30, 0, 0, 0, 0, 0, 0, f37, 0, 0, 0, 0, 0, 0, 0, 0, 0, f47, 0, 0, 0, 0, 0, f53, 0, 0, f56, 0, f58, f59, f60, f61, 0, f63, 0, 0, 0, 0, 0, f69, 0, 0, 0, 0, 0, 0, 0, 0, 0, f79, f80, f81, f82, f83, f84, 0, f86, f87, f88, f89, f90, f91, f92, f93, f94, f95, 0, 0, f98, f99, f100, f101, f102, 0, 0, 0, 0, f107, f108, f109, 0, f111, f112]) (adOf [0, 0, 0, 0, 0, 0, 0, 0, 0, 0, 0, 0, 0, 0, 0, 0, 0, 0, 0, 0, 0, 0, 0, 0, 0, 0, 0, 0, 0, 0, 0, 0, 0, 0, 0, 0, 0, 0, 0, 0, 0, 0, 0, 0, 0, 0, 0, 0, 0, 0, 0, 0, 0, 0, 0, 0, 0, 0, 0, 0, 0, 0, 0, 0, 0, 0, 0, 0, 0, 0, 0, 0, 0, 0, 0, 0, 0, 0, 0, 0, 0, 0, 0, 0, 0, 0, 0, 0, 0, 0, 0, 0, 0, 0, 0, 0, 0, 0, 0, 0, 0, 0, cm102, 0, 0, 0, 0, 0, 0, 0, 0, 0, 0]) (taOf [0, 0, 0, 0, 0, 0, 0, 0, 0, 0, 0, 0, 0, 0, 0, 0, 0, 0, 0, 0, 0, 0, 0, 0, 0, 0, 0, 0, 0, 0, 0, 0, 0, 0, 0, 0, 0, 0, 0, 0, 0, 0, 0, 0, 0, 0, 0, 0, 0, 0, 0, 0, 0, 0, 0, 0, 0, 0, 0, 0, 0, 0, 0, 0, 0, 0, 0, 0, 0, 0, 0, 0, 0, 0, 0, 0, 0, 0, 0, 0, 0, 0, 0, 0, 0, 0, 0, 0, 0, 0, 0, 0, 0, 0, 0, 0, 0, 0, 0, 0, 0, 0, mP102, 0, 0, 0, 0, 0, 0, 0, 0, 0, 0]) K mg := {
    f_source := ⟨_, fun_mk (st := s_source) l93 c93 k93, (fun_mk (st := s_source) l93 c93 k93).binds (ps := ["_law_script", "_law_turn"]) fun _ _ _ _ _ _ us hl => match us, hl with | [_, _], _ => rfl⟩
    m_source := PySem.W.mg_of X G a93
    f_draw := ⟨_, fun_mk (st := s_draw) l94 c94 k94, (fun_mk (st := s_draw) l94 c94 k94).binds (ps := ["_law_source_here", "_law_amount"]) fun _ _ _ _ _ _ us hl => match us, hl with | [_, _], _ => rfl⟩
    m_draw := PySem.W.mg_of X G a94
    f_pick := ⟨_, fun_mk (st := s_pick) l95 c95 k95, (fun_mk (st := s_pick) l95 c95 k95).binds (ps := ["_law_source_here", "_law_items"]) fun _ _ _ _ _ _ us hl => match us, hl with | [_, _], _ => rfl⟩
    m_pick := PySem.W.mg_of X G a95
    f_form := ⟨_, fun_mk (st := s_form) l99 c99 k99, (fun_mk (st := s_form) l99 c99 k99).binds (ps := ["_law_source_here"]) fun _ _ _ _ _ _ us hl => match us, hl with | [_], _ => rfl⟩
    m_form := PySem.W.mg_of X G a99
    f_factors := ⟨_, fun_mk (st := s_factors) l98 c98 k98, (fun_mk (st := s_factors) l98 c98 k98).binds (ps := ["_law_source_here", "_law_prime", "_law_size"]) fun _ _ _ _ _ _ us hl => match us, hl with | [_, _, _], _ => rfl⟩
    m_factors := PySem.W.mg_of X G a98
    f_pieces := ⟨_, fun_mk (st := s_pieces) l100 c100 k100, (fun_mk (st := s_pieces) l100 c100 k100).binds (ps := ["_law_source_here", "_law_prime", "_law_size", "_law_most"]) fun _ _ _ _ _ _ us hl => match us, hl with | [_, _, _, _], _ => rfl⟩
    m_pieces := PySem.W.mg_of X G a100
    f_prices := ⟨_, fun_mk (st := s_prices) l107 c107 k107, (fun_mk (st := s_prices) l107 c107 k107).binds (ps := ["_law_source_here", "_law_pieces_here"]) fun _ _ _ _ _ _ us hl => match us, hl with | [_, _], _ => rfl⟩
    m_prices := PySem.W.mg_of X G a107
    f_is_row := ⟨_, fun_mk (st := s_is_row) l58 c58 k58, (fun_mk (st := s_is_row) l58 c58 k58).binds (ps := ["value"]) fun _ _ _ _ _ _ us hl => match us, hl with | [_], _ => rfl⟩
    m_is_row := PySem.W.mg_of X G a58
    f_is_between := ⟨_, fun_mk (st := s_is_between) l10 c10 k10, (fun_mk (st := s_is_between) l10 c10 k10).binds (ps := ["value", "low", "high"]) fun _ _ _ _ _ _ us hl => match us, hl with | [_, _, _], _ => rfl⟩
    m_is_between := PySem.W.mg_of X G a10
    f_is_price := ⟨_, fun_mk (st := s_is_price) l79 c79 k79, (fun_mk (st := s_is_price) l79 c79 k79).binds (ps := ["value"]) fun _ _ _ _ _ _ us hl => match us, hl with | [_], _ => rfl⟩
    m_is_price := PySem.W.mg_of X G a79
    f_is_prices := ⟨_, fun_mk (st := s_is_prices) l80 c80 k80, (fun_mk (st := s_is_prices) l80 c80 k80).binds (ps := ["value", "low", "high"]) fun _ _ _ _ _ _ us hl => match us, hl with | [_, _, _], _ => rfl⟩
    m_is_prices := PySem.W.mg_of X G a80
    f_Prices_init := ⟨_, fun_mk (st := s_Prices_init) l81 c81 k81, (fun_mk (st := s_Prices_init) l81 c81 k81).binds (ps := ["self", "parts", "wholes", "opens"]) fun _ _ _ _ _ _ us hl => match us, hl with | [_, _, _, _], _ => rfl⟩
    f_Prices_parts := ⟨_, fun_mk (st := s_Prices_parts) l82 c82 k82, (fun_mk (st := s_Prices_parts) l82 c82 k82).binds (ps := ["self"]) fun _ _ _ _ _ _ us hl => match us, hl with | [_], _ => rfl⟩
    f_Prices_wholes := ⟨_, fun_mk (st := s_Prices_wholes) l83 c83 k83, (fun_mk (st := s_Prices_wholes) l83 c83 k83).binds (ps := ["self"]) fun _ _ _ _ _ _ us hl => match us, hl with | [_], _ => rfl⟩
    f_Prices_opens := ⟨_, fun_mk (st := s_Prices_opens) l84 c84 k84, (fun_mk (st := s_Prices_opens) l84 c84 k84).binds (ps := ["self"]) fun _ _ _ _ _ _ us hl => match us, hl with | [_], _ => rfl⟩
    f_Prices_eq := ⟨_, fun_mk (st := s_Prices_eq) l92 c92 k92, (fun_mk (st := s_Prices_eq) l92 c92 k92).binds (ps := ["self", "other"]) fun _ _ _ _ _ _ us hl => match us, hl with | [_, _], _ => rfl⟩
    f_Table_eq := ⟨_, fun_mk (st := s_Table_eq) l69 c69 k69, (fun_mk (st := s_Table_eq) l69 c69 k69).binds (ps := ["self", "other"]) fun _ _ _ _ _ _ us hl => match us, hl with | [_, _], _ => rfl⟩
    f_Stored_eq := ⟨_, fun_mk (st := s_Stored_eq) l53 c53 k53, (fun_mk (st := s_Stored_eq) l53 c53 k53).binds (ps := ["self", "other"]) fun _ _ _ _ _ _ us hl => match us, hl with | [_, _], _ => rfl⟩
    f_Space_eq := ⟨_, fun_mk (st := s_Space_eq) l37 c37 k37, (fun_mk (st := s_Space_eq) l37 c37 k37).binds (ps := ["self", "other"]) fun _ _ _ _ _ _ us hl => match us, hl with | [_, _], _ => rfl⟩
    f_Sum_eq := ⟨_, fun_mk (st := s_Sum_eq) l27 c27 k27, (fun_mk (st := s_Sum_eq) l27 c27 k27).binds (ps := ["self", "other"]) fun _ _ _ _ _ _ us hl => match us, hl with | [_, _], _ => rfl⟩
    f_spots := ⟨_, fun_mk (st := s_spots) l101 c101 k101, (fun_mk (st := s_spots) l101 c101 k101).binds (ps := ["_law_pieces_here"]) fun _ _ _ _ _ _ us hl => match us, hl with | [_], _ => rfl⟩
    m_spots := PySem.W.mg_of X G a101
    f_sets := ⟨_, fun_mk (st := s_sets) l102 c102 k102, (fun_mk (st := s_sets) l102 c102 k102).binds (ps := ["_law_items"]) fun _ _ _ _ _ _ us hl => match us, hl with | [_], _ => rfl⟩
    fc_102 := ⟨_, _, _, _, _, _, _, _, l102, c102, (fun_mk (st := s_sets) l102 c102 k102).binds (ps := ["_law_items"]) fun _ _ _ _ _ _ us hl => match us, hl with | [_], _ => rfl⟩
    m_sets := PySem.W.mg_of X G a102
    f_Prices_has_price := ⟨_, fun_mk (st := s_Prices_has_price) l87 c87 k87, (fun_mk (st := s_Prices_has_price) l87 c87 k87).binds (ps := ["self", "spot"]) fun _ _ _ _ _ _ us hl => match us, hl with | [_, _], _ => rfl⟩
    f_Prices_require := ⟨_, fun_mk (st := s_Prices_require) l88 c88 k88, (fun_mk (st := s_Prices_require) l88 c88 k88).binds (ps := ["self", "spots"]) fun _ _ _ _ _ _ us hl => match us, hl with | [_, _], _ => rfl⟩
    f_Prices_bill := ⟨_, fun_mk (st := s_Prices_bill) l89 c89 k89, (fun_mk (st := s_Prices_bill) l89 c89 k89).binds (ps := ["self", "spots"]) fun _ _ _ _ _ _ us hl => match us, hl with | [_, _], _ => rfl⟩
    f_Prices_call := ⟨_, fun_mk (st := s_Prices_call) l90 c90 k90, (fun_mk (st := s_Prices_call) l90 c90 k90).binds (ps := ["self", "spots"]) fun _ _ _ _ _ _ us hl => match us, hl with | [_, _], _ => rfl⟩
    f_cost := ⟨_, fun_mk (st := s_cost) l108 c108 k108, (fun_mk (st := s_cost) l108 c108 k108).binds (ps := ["_law_prices_here", "_law_spots_here"]) fun _ _ _ _ _ _ us hl => match us, hl with | [_, _], _ => rfl⟩
    m_cost := PySem.W.mg_of X G a108
    f_Prices_paid := ⟨_, fun_mk (st := s_Prices_paid) l91 c91 k91, (fun_mk (st := s_Prices_paid) l91 c91 k91).binds (ps := ["self", "spots"]) fun _ _ _ _ _ _ us hl => match us, hl with | [_, _], _ => rfl⟩
    f_paid := ⟨_, fun_mk (st := s_paid) l109 c109 k109, (fun_mk (st := s_paid) l109 c109 k109).binds (ps := ["_law_prices_here", "_law_spots_here"]) fun _ _ _ _ _ _ us hl => match us, hl with | [_, _], _ => rfl⟩
    m_paid := PySem.W.mg_of X G a109
    f_is_integer := ⟨_, fun_mk (st := s_is_integer) l11 c11 k11, (fun_mk (st := s_is_integer) l11 c11 k11).binds (ps := ["value"]) fun _ _ _ _ _ _ us hl => match us, hl with | [_], _ => rfl⟩
    m_is_integer := PySem.W.mg_of X G a11
    f_is_prime := ⟨_, fun_mk (st := s_is_prime) l12 c12 k12, (fun_mk (st := s_is_prime) l12 c12 k12).binds (ps := ["value"]) fun _ _ _ _ _ _ us hl => match us, hl with | [_], _ => rfl⟩
    m_is_prime := PySem.W.mg_of X G a12
    f_power := ⟨_, fun_mk (st := s_power) l9 c9 k9, (fun_mk (st := s_power) l9 c9 k9).binds (ps := ["base", "exponent"]) fun _ _ _ _ _ _ us hl => match us, hl with | [_, _], _ => rfl⟩
    m_power := PySem.W.mg_of X G a9
    f_is_size := ⟨_, fun_mk (st := s_is_size) l13 c13 k13, (fun_mk (st := s_is_size) l13 c13 k13).binds (ps := ["prime", "value"]) fun _ _ _ _ _ _ us hl => match us, hl with | [_, _], _ => rfl⟩
    m_is_size := PySem.W.mg_of X G a13
    f_is_data := ⟨_, fun_mk (st := s_is_data) l14 c14 k14, (fun_mk (st := s_is_data) l14 c14 k14).binds (ps := ["prime", "size", "value"]) fun _ _ _ _ _ _ us hl => match us, hl with | [_, _, _], _ => rfl⟩
    m_is_data := PySem.W.mg_of X G a14
    f_require_pieces := ⟨_, fun_mk (st := s_require_pieces) l59 c59 k59, (fun_mk (st := s_require_pieces) l59 c59 k59).binds (ps := ["prime", "size", "pieces"]) fun _ _ _ _ _ _ us hl => match us, hl with | [_, _, _], _ => rfl⟩
    m_require_pieces := PySem.W.mg_of X G a59
    f_Table_init := ⟨_, fun_mk (st := s_Table_init) l60 c60 k60, (fun_mk (st := s_Table_init) l60 c60 k60).binds (ps := ["self", "prime", "size", "pieces"]) fun _ _ _ _ _ _ us hl => match us, hl with | [_, _, _, _], _ => rfl⟩
    f_Table_pieces := ⟨_, fun_mk (st := s_Table_pieces) l63 c63 k63, (fun_mk (st := s_Table_pieces) l63 c63 k63).binds (ps := ["self"]) fun _ _ _ _ _ _ us hl => match us, hl with | [_], _ => rfl⟩
    f_Stored_pieces := ⟨_, fun_mk (st := s_Stored_pieces) l47 c47 k47, (fun_mk (st := s_Stored_pieces) l47 c47 k47).binds (ps := ["self"]) fun _ _ _ _ _ _ us hl => match us, hl with | [_], _ => rfl⟩
    f_Prices_fits := ⟨_, fun_mk (st := s_Prices_fits) l86 c86 k86, (fun_mk (st := s_Prices_fits) l86 c86 k86).binds (ps := ["self", "table"]) fun _ _ _ _ _ _ us hl => match us, hl with | [_, _], _ => rfl⟩
    f_Table_prime := ⟨_, fun_mk (st := s_Table_prime) l61 c61 k61, (fun_mk (st := s_Table_prime) l61 c61 k61).binds (ps := ["self"]) fun _ _ _ _ _ _ us hl => match us, hl with | [_], _ => rfl⟩
    f_Space_prime := ⟨_, fun_mk (st := s_Space_prime) l30 c30 k30, (fun_mk (st := s_Space_prime) l30 c30 k30).binds (ps := ["self"]) fun _ _ _ _ _ _ us hl => match us, hl with | [_], _ => rfl⟩
    f_Sum_prime := ⟨_, fun_mk (st := s_Sum_prime) l17 c17 k17, (fun_mk (st := s_Sum_prime) l17 c17 k17).binds (ps := ["self"]) fun _ _ _ _ _ _ us hl => match us, hl with | [_], _ => rfl⟩
    f_Stored_fits := ⟨_, fun_mk (st := s_Stored_fits) l56 c56 k56, (fun_mk (st := s_Stored_fits) l56 c56 k56).binds (ps := ["self", "table"]) fun _ _ _ _ _ _ us hl => match us, hl with | [_, _], _ => rfl⟩
    f_fits_right := ⟨_, fun_mk (st := s_fits_right) l111 c111 k111, (fun_mk (st := s_fits_right) l111 c111 k111).binds (ps := ["_law_prime", "_law_size", "_law_pieces_here", "_law_paying"]) fun _ _ _ _ _ _ us hl => match us, hl with | [_, _, _, _], _ => rfl⟩
    m_fits_right := PySem.W.mg_of X G a111
    f_law := ⟨_, fun_mk (st := s_law) l112 c112 k112, (fun_mk (st := s_law) l112 c112 k112).binds (ps := ["_law_script"]) fun _ _ _ _ _ _ us hl => match us, hl with | [_], _ => rfl⟩
    m_law := PySem.W.mg_of X G a112
    er_8 := ⟨_, eq8, eo8, ei8, et8, ⟨_, _, _, _, _, _, _, _, _, _, el8, ec8, ⟨_, _, _, _, _, _, ed8, ev8, ew8⟩, _, _, _, ex8⟩, ⟨fun h => (by cases h), fun a h => (by cases h; rfl)⟩, fun s kV doc pm an cd ct cc a b => .of_eq rfl, iniB_ok (by decide +kernel), fun L cd cc => ⟨_, _, _, _, _, _, _, _, _, _, _, _, _, rfl, rfl, rfl, rfl, rfl, rfl⟩, es8, z_super, etp, eop, eb8, em8, ea8, en8, ek8, ey8, ⟨xga8, xgg8, xex8, xhd8⟩⟩
    xf_8 := rfl
    ge_8 := PySem.W.mg_of X G aE8
    er_9 := ⟨_, eq9, eo9, ei9, et9, ⟨_, _, _, _, _, _, _, _, _, _, el9, ec9, ⟨_, _, _, _, _, _, ed9, ev9, ew9⟩, _, _, _, ex9⟩, ⟨fun h => (by cases h), fun a h => (by cases h; rfl)⟩, fun s kV doc pm an cd ct cc a b => .of_eq rfl, iniB_ok (by decide +kernel), fun L cd cc => ⟨_, _, _, _, _, _, _, _, _, _, _, _, _, rfl, rfl, rfl, rfl, rfl, rfl⟩, es9, z_super, etp, eop, eb9, em9, ea9, en9, ek9, ey9, ⟨xga9, xgg9, xex9, xhd9⟩⟩
    xf_9 := rfl
    ge_9 := PySem.W.mg_of X G aE9
    er_11 := ⟨_, eq11, eo11, ei11, et11, ⟨_, _, _, _, _, _, _, _, _, _, el11, ec11, ⟨_, _, _, _, _, _, ed11, ev11, ew11⟩, _, _, _, ex11⟩, ⟨fun h => (by cases h), fun a h => (by cases h; rfl)⟩, fun s kV doc pm an cd ct cc a b => .of_eq rfl, iniB_ok (by decide +kernel), fun L cd cc => ⟨_, _, _, _, _, _, _, _, _, _, _, _, _, rfl, rfl, rfl, rfl, rfl, rfl⟩, es11, z_super, etp, eop, eb11, em11, ea11, en11, ek11, ey11, ⟨xga11, xgg11, xex11, xhd11⟩⟩
    xf_11 := rfl
    ge_11 := PySem.W.mg_of X G aE11
    er_12 := ⟨_, eq12, eo12, ei12, et12, ⟨_, _, _, _, _, _, _, _, _, _, el12, ec12, ⟨_, _, _, _, _, _, ed12, ev12, ew12⟩, _, _, _, ex12⟩, ⟨fun h => (by cases h), fun a h => (by cases h; rfl)⟩, fun s kV doc pm an cd ct cc a b => .of_eq rfl, iniB_ok (by decide +kernel), fun L cd cc => ⟨_, _, _, _, _, _, _, _, _, _, _, _, _, rfl, rfl, rfl, rfl, rfl, rfl⟩, es12, z_super, etp, eop, eb12, em12, ea12, en12, ek12, ey12, ⟨xga12, xgg12, xex12, xhd12⟩⟩
    xf_12 := rfl
    ge_12 := PySem.W.mg_of X G aE12
    cl_0 := ⟨pg0, ic0, po0, sa0⟩
    cl_1 := ⟨pg1, ic1, po1, sa1⟩
    cl_2 := ⟨pg2, ic2, po2, sa2⟩
    cl_3 := ⟨pg3, ic3, po3, sa3⟩
    cl_4 := ⟨pg4, ic4, po4, sa4⟩
    co_4 := ⟨a90, i90, fi90⟩
    g_MOST_DATA := gl_int (PySem.W.mg_of X G g_MOST_DATA)
    g_MOST_PARTS := gl_int (PySem.W.mg_of X G g_MOST_PARTS)
    g_MOST_PIECES := gl_int (PySem.W.mg_of X G g_MOST_PIECES)
    g_MOST_PRICE := gl_int (PySem.W.mg_of X G g_MOST_PRICE)
    g_MOST_SPOTS := gl_int (PySem.W.mg_of X G g_MOST_SPOTS)
    g_PRIMES := gl_ints (PySem.W.mg_of X G g_PRIMES) gl_PRIMES gz_PRIMES gv_PRIMES
    g_Prices := PySem.W.mg_of X G aC4
    g_Space := PySem.W.mg_of X G aC1
    g_Stored := PySem.W.mg_of X G aC2
    g_Sum := PySem.W.mg_of X G aC0
    g_Table := PySem.W.mg_of X G aC3
    is_0 := ⟨ca0, cn0, cT0, cM0⟩
    is_1 := ⟨ca1, cn1, cT1, cM1⟩
    is_2 := ⟨ca2, cn2, cT2, cM2⟩
    is_3 := ⟨ca3, cn3, cT3, cM3⟩
    is_4 := ⟨ca4, cn4, cT4, cM4⟩
    kas_0 := kit_no2 kas_0l kas_0t
    kas_1 := kit_no2 kas_1l kas_1t
    kas_2 := kit_no2 kas_2l kas_2t
    kas_3 := kit_no2 kas_3l kas_3t
    kas_4 := kit_no2 kas_4l kas_4t
    kb_0 := kd_all (p := fun kd => PySem.W.kitOne K (.type (nmK kd)) (.ref C0) = some (isK (.cls 0) kd)) (kit_to kb_0_NoneType kb_0c kb_0y) (kit_to kb_0_bool kb_0c kb_0y) (kit_to kb_0_int kb_0c kb_0y) (kit_to kb_0_str kb_0c kb_0y) (kit_to kb_0_list kb_0c kb_0y) (kit_to kb_0_tuple kb_0c kb_0y) (kit_to kb_0_dict kb_0c kb_0y)
    kb_1 := kd_all (p := fun kd => PySem.W.kitOne K (.type (nmK kd)) (.ref C1) = some (isK (.cls 1) kd)) (kit_to kb_1_NoneType kb_1c kb_1y) (kit_to kb_1_bool kb_1c kb_1y) (kit_to kb_1_int kb_1c kb_1y) (kit_to kb_1_str kb_1c kb_1y) (kit_to kb_1_list kb_1c kb_1y) (kit_to kb_1_tuple kb_1c kb_1y) (kit_to kb_1_dict kb_1c kb_1y)
    kb_2 := kd_all (p := fun kd => PySem.W.kitOne K (.type (nmK kd)) (.ref C2) = some (isK (.cls 2) kd)) (kit_to kb_2_NoneType kb_2c kb_2y) (kit_to kb_2_bool kb_2c kb_2y) (kit_to kb_2_int kb_2c kb_2y) (kit_to kb_2_str kb_2c kb_2y) (kit_to kb_2_list kb_2c kb_2y) (kit_to kb_2_tuple kb_2c kb_2y) (kit_to kb_2_dict kb_2c kb_2y)
    kb_3 := kd_all (p := fun kd => PySem.W.kitOne K (.type (nmK kd)) (.ref C3) = some (isK (.cls 3) kd)) (kit_to kb_3_NoneType kb_3c kb_3y) (kit_to kb_3_bool kb_3c kb_3y) (kit_to kb_3_int kb_3c kb_3y) (kit_to kb_3_str kb_3c kb_3y) (kit_to kb_3_list kb_3c kb_3y) (kit_to kb_3_tuple kb_3c kb_3y) (kit_to kb_3_dict kb_3c kb_3y)
    kb_4 := kd_all (p := fun kd => PySem.W.kitOne K (.type (nmK kd)) (.ref C4) = some (isK (.cls 4) kd)) (kit_to kb_4_NoneType kb_4c kb_4y) (kit_to kb_4_bool kb_4c kb_4y) (kit_to kb_4_int kb_4c kb_4y) (kit_to kb_4_str kb_4c kb_4y) (kit_to kb_4_list kb_4c kb_4y) (kit_to kb_4_tuple kb_4c kb_4y) (kit_to kb_4_dict kb_4c kb_4y)
    ki_0_0 := kit_same
    ki_0_1 := ki_0_1
    ki_0_2 := ki_0_2
    ki_0_3 := ki_0_3
    ki_0_4 := ki_0_4
    ki_0_bool := kit_rt ki_0_bool (by decide +kernel)
    ki_0_int := kit_rt ki_0_int (by decide +kernel)
    ki_0_tuple := kit_rt ki_0_tuple (by decide +kernel)
    ki_1_0 := ki_1_0
    ki_1_1 := kit_same
    ki_1_2 := ki_1_2
    ki_1_3 := ki_1_3
    ki_1_4 := ki_1_4
    ki_1_bool := kit_rt ki_1_bool (by decide +kernel)
    ki_1_int := kit_rt ki_1_int (by decide +kernel)
    ki_1_tuple := kit_rt ki_1_tuple (by decide +kernel)
    ki_2_0 := ki_2_0
    ki_2_1 := ki_2_1
    ki_2_2 := kit_same
    ki_2_3 := ki_2_3
    ki_2_4 := ki_2_4
    ki_2_bool := kit_rt ki_2_bool (by decide +kernel)
    ki_2_int := kit_rt ki_2_int (by decide +kernel)
    ki_2_tuple := kit_rt ki_2_tuple (by decide +kernel)
    ki_3_0 := ki_3_0
    ki_3_1 := ki_3_1
    ki_3_2 := ki_3_2
    ki_3_3 := kit_same
    ki_3_4 := ki_3_4
    ki_3_bool := kit_rt ki_3_bool (by decide +kernel)
    ki_3_int := kit_rt ki_3_int (by decide +kernel)
    ki_3_tuple := kit_rt ki_3_tuple (by decide +kernel)
    ki_4_0 := ki_4_0
    ki_4_1 := ki_4_1
    ki_4_2 := ki_4_2
    ki_4_3 := ki_4_3
    ki_4_4 := kit_same
    ki_4_bool := kit_rt ki_4_bool (by decide +kernel)
    ki_4_int := kit_rt ki_4_int (by decide +kernel)
    ki_4_tuple := kit_rt ki_4_tuple (by decide +kernel)
    me_0_eq := ⟨a27, i27, k27⟩
    me_1_eq := ⟨a37, i37, k37⟩
    me_2_eq := ⟨a53, i53, k53⟩
    me_2_fits := ⟨a56, i56, k56⟩
    me_3_eq := ⟨a69, i69, k69⟩
    me_4_eq := ⟨a92, i92, k92⟩
    me_4_bill := ⟨a89, i89, k89⟩
    me_4_fits := ⟨a86, i86, k86⟩
    me_4_has_price := ⟨a87, i87, k87⟩
    me_4_paid := ⟨a91, i91, k91⟩
    me_4_require := ⟨a88, i88, k88⟩
    mk_3 := ⟨mk3, a60, i60, kc3⟩
    mk_4 := ⟨mk4, a81, i81, kc4⟩
    nb_0 := kd_all (p := fun kd => PySem.W.notFirst K C0 (.type (nmK kd)) = true) nb_0_NoneType nb_0_bool nb_0_int nb_0_str nb_0_list nb_0_tuple nb_0_dict
    nb_1 := kd_all (p := fun kd => PySem.W.notFirst K C1 (.type (nmK kd)) = true) nb_1_NoneType nb_1_bool nb_1_int nb_1_str nb_1_list nb_1_tuple nb_1_dict
    nb_2 := kd_all (p := fun kd => PySem.W.notFirst K C2 (.type (nmK kd)) = true) nb_2_NoneType nb_2_bool nb_2_int nb_2_str nb_2_list nb_2_tuple nb_2_dict
    nb_3 := kd_all (p := fun kd => PySem.W.notFirst K C3 (.type (nmK kd)) = true) nb_3_NoneType nb_3_bool nb_3_int nb_3_str nb_3_list nb_3_tuple nb_3_dict
    nb_4 := kd_all (p := fun kd => PySem.W.notFirst K C4 (.type (nmK kd)) = true) nb_4_NoneType nb_4_bool nb_4_int nb_4_str nb_4_list nb_4_tuple nb_4_dict
    ne_0 := ne_0
    ne_1 := ne_1
    ne_2 := ne_2
    ne_3 := ne_3
    ne_4 := ne_4
    nf_0_0 := nf_0_0
    nf_0_1 := nf_0_1
    nf_0_2 := nf_0_2
    nf_0_3 := nf_0_3
    nf_0_4 := nf_0_4
    nf_1_0 := nf_1_0
    nf_1_1 := nf_1_1
    nf_1_2 := nf_1_2
    nf_1_3 := nf_1_3
    nf_1_4 := nf_1_4
    nf_2_0 := nf_2_0
    nf_2_1 := nf_2_1
    nf_2_2 := nf_2_2
    nf_2_3 := nf_2_3
    nf_2_4 := nf_2_4
    nf_3_0 := nf_3_0
    nf_3_1 := nf_3_1
    nf_3_2 := nf_3_2
    nf_3_3 := nf_3_3
    nf_3_4 := nf_3_4
    nf_4_0 := nf_4_0
    nf_4_1 := nf_4_1
    nf_4_2 := nf_4_2
    nf_4_3 := nf_4_3
    nf_4_4 := nf_4_4
    pr_0_prime := ⟨_, _, a17, x17, t17, q17⟩
    pr_1_prime := ⟨_, _, a30, x30, t30, q30⟩
    pr_2_pieces := ⟨_, _, a47, x47, t47, q47⟩
    pr_3_pieces := ⟨_, _, a63, x63, t63, q63⟩
    pr_3_prime := ⟨_, _, a61, x61, t61, q61⟩
    pr_4_opens := ⟨_, _, a84, x84, t84, q84⟩
    pr_4_parts := ⟨_, _, a82, x82, t82, q82⟩
    pr_4_wholes := ⟨_, _, a83, x83, t83, q83⟩
    sl_0_own_prime := ⟨_, sa_sp0_own_prime, sg_sp0_own_prime, st_sp0_own_prime, sy_sp0_own_prime, sx_sp0_own_prime, by decide⟩
    sl_0_row := ⟨_, sa_sp0_row, sg_sp0_row, st_sp0_row, sy_sp0_row, sx_sp0_row, by decide⟩
    sl_1_own_prime := ⟨_, sa_sp1_own_prime, sg_sp1_own_prime, st_sp1_own_prime, sy_sp1_own_prime, sx_sp1_own_prime, by decide⟩
    sl_1_own_size := ⟨_, sa_sp1_own_size, sg_sp1_own_size, st_sp1_own_size, sy_sp1_own_size, sx_sp1_own_size, by decide⟩
    sl_1_rows := ⟨_, sa_sp1_rows, sg_sp1_rows, st_sp1_rows, sy_sp1_rows, sx_sp1_rows, by decide⟩
    sl_2_own_pieces := ⟨_, sa_sp2_own_pieces, sg_sp2_own_pieces, st_sp2_own_pieces, sy_sp2_own_pieces, sx_sp2_own_pieces, by decide⟩
    sl_3_own_pieces := ⟨_, sa_sp3_own_pieces, sg_sp3_own_pieces, st_sp3_own_pieces, sy_sp3_own_pieces, sx_sp3_own_pieces, by decide⟩
    sl_3_own_prime := ⟨_, sa_sp3_own_prime, sg_sp3_own_prime, st_sp3_own_prime, sy_sp3_own_prime, sx_sp3_own_prime, by decide⟩
    sl_3_own_size := ⟨_, sa_sp3_own_size, sg_sp3_own_size, st_sp3_own_size, sy_sp3_own_size, sx_sp3_own_size, by decide⟩
    sl_3_own_spots := ⟨_, sa_sp3_own_spots, sg_sp3_own_spots, st_sp3_own_spots, sy_sp3_own_spots, sx_sp3_own_spots, by decide⟩
    sl_4_open_prices := ⟨_, sa_sp4_open_prices, sg_sp4_open_prices, st_sp4_open_prices, sy_sp4_open_prices, sx_sp4_open_prices, by decide⟩
    sl_4_part_prices := ⟨_, sa_sp4_part_prices, sg_sp4_part_prices, st_sp4_part_prices, sy_sp4_part_prices, sx_sp4_part_prices, by decide⟩
    sl_4_whole_prices := ⟨_, sa_sp4_whole_prices, sg_sp4_whole_prices, st_sp4_whole_prices, sy_sp4_whole_prices, sx_sp4_whole_prices, by decide⟩
    tm_102 := by simp [kOf, taOf, adOf]
    tu_102 := tu_of ndT (by simp [kOf, taOf, adOf])
    z_all := PySem.W.mg_none_of X G z_all
    z_any := PySem.W.mg_none_of X G z_any
    z_bool := PySem.W.mg_none_of X G z_bool
    z_enumerate := PySem.W.mg_none_of X G z_enumerate
    z_int := PySem.W.mg_none_of X G z_int
    z_isinstance := PySem.W.mg_none_of X G z_isinstance
    z_len := PySem.W.mg_none_of X G z_len
    z_list := PySem.W.mg_none_of X G z_list
    z_max := PySem.W.mg_none_of X G z_max
    z_min := PySem.W.mg_none_of X G z_min
    z_range := PySem.W.mg_none_of X G z_range
    z_sorted := PySem.W.mg_none_of X G z_sorted
    z_sum := PySem.W.mg_none_of X G z_sum
    z_tuple := PySem.W.mg_none_of X G z_tuple
    z_zip := PySem.W.mg_none_of X G z_zip }
    refine ⟨[(mP102, (("_law_sets" : Str) ++ ".<locals>.") ++ "<lambda>")], fun p hp => ?_, fun base _ _ sy tbs => FnG.imp (ok_law T ⟨sy, fun i hi => ?_⟩) (law_imp (k := kOf [C0, C1, C2, C3, C4, 0, 0, 0, C8, C9, 0, C11, C12, 0] [(mP102, (("_law_sets" : Str) ++ ".<locals>.") ++ "<lambda>")]) law_true)⟩
    · simp only [List.mem_cons, List.not_mem_nil, or_false] at hp
      rcases hp with rfl
      · exact ⟨(f102, cm102, mP102), by simp, rfl⟩
    · simp only [List.mem_cons, List.not_mem_nil, or_false] at hi
      rcases hi with rfl
      · exact tbs (f102, cm102, mP102) (by simp)
end LW
namespace LW
open PySem L2 DL PyProof.Rows
abbrev hdR : PySem.W.OpenRow := PySem.W.OpenLaw.row PySem.Challenge.rw_leastreads_k13_prices_of_reads
abbrev hdQ : Program := PySem.W.view hdR.prog [60, 70]
def hdN0 : List PySem.Str := [PySem.Str.ofString "_wall", PySem.Str.ofString "__name__", PySem.Str.ofString "LeastError", PySem.Str.ofString "InvalidSum", PySem.Str.ofString "InvalidData", PySem.Str.ofString "InvalidSpots", PySem.Str.ofString "InvalidCost", PySem.Str.ofString "InvalidStored", PySem.Str.ofString "InvalidNumber", PySem.Str.ofString "InvalidTable", PySem.Str.ofString "InvalidOperand", PySem.Str.ofString "inverse", PySem.Str.ofString "scaled", PySem.Str.ofString "added", PySem.Str.ofString "lead", PySem.Str.ofString "rest_of", PySem.Str.ofString "reduced", PySem.Str.ofString "has_row", PySem.Str.ofString "value_of", PySem.Str.ofString "power"]
def hdN1 : List PySem.Str := [PySem.Str.ofString "PRIMES", PySem.Str.ofString "MOST_DATA", PySem.Str.ofString "is_between", PySem.Str.ofString "is_integer", PySem.Str.ofString "is_prime", PySem.Str.ofString "is_size", PySem.Str.ofString "is_data", PySem.Str.ofString "Sum", PySem.Str.ofString "is_sum", PySem.Str.ofString "Space", PySem.Str.ofString "MOST_VALUE", PySem.Str.ofString "is_number", PySem.Str.ofString "is_filled", PySem.Str.ofString "Stored", PySem.Str.ofString "MOST_PIECES", PySem.Str.ofString "MOST_PARTS", PySem.Str.ofString "MOST_SPOTS", PySem.Str.ofString "is_row", PySem.Str.ofString "require_pieces", PySem.Str.ofString "Table"]
def hdN2 : List PySem.Str := [PySem.Str.ofString "MOST_PRICE", PySem.Str.ofString "is_price", PySem.Str.ofString "is_prices", PySem.Str.ofString "Prices", PySem.Str.ofString "_law_source", PySem.Str.ofString "_law_draw", PySem.Str.ofString "_law_pick", PySem.Str.ofString "_law_all_data", PySem.Str.ofString "_law_value", PySem.Str.ofString "_law_factors", PySem.Str.ofString "_law_form", PySem.Str.ofString "_law_pieces", PySem.Str.ofString "_law_spots", PySem.Str.ofString "_law_some", PySem.Str.ofString "_law_shown", PySem.Str.ofString "_law_zero_data", PySem.Str.ofString "_law_is_had", PySem.Str.ofString "_law_prices", PySem.Str.ofString "_law_cost", PySem.Str.ofString "_law_paid"]
def hdN3 : List PySem.Str := [PySem.Str.ofString "_law_rising", PySem.Str.ofString "_law_fits_right"]
def hdN : List PySem.Str := hdN0 ++ hdN1 ++ hdN2 ++ hdN3
def hdA0 : List Addr := [2, 3, 15, 17, 18, 20, 21, 22, 29, 30, 31, 32, 35, 38, 43, 44, 46, 47, 49, 50, 51, 52, 53, 56, 59, 64, 65, 67, 68, 70]
def hdA1 : List Addr := [71, 72, 73, 74, 77, 80, 85, 86, 88, 89, 91, 92, 93, 94, 95, 98, 101, 106, 107, 109, 110, 112, 113, 114, 115, 116, 119, 122, 127, 128]
def hdA2 : List Addr := [130, 131, 133, 134, 135, 136, 137, 140, 143, 148, 149, 151, 152, 154, 155, 156, 157, 158, 161, 164, 169, 170, 172, 173, 175, 176, 177, 178, 179, 182]
def hdA3 : List Addr := [185, 190, 191, 193, 194, 196, 197, 198, 199, 200, 203, 205, 206, 208, 209, 210, 213, 214, 215, 218, 219, 220, 222, 223, 225, 226, 227, 229, 230, 232]
def hdA4 : List Addr := [233, 234, 237, 238, 239, 241, 242, 244, 245, 246, 249, 250, 251, 253, 254, 256, 257, 258, 259, 261, 262, 264, 265, 266, 268, 269, 271, 272, 273, 275]
def hdA5 : List Addr := [276, 278, 279, 280, 282, 283, 285, 286, 287, 290, 291, 299, 300, 302, 303, 305, 306, 307, 309, 310, 312, 313, 314, 315, 316, 317, 319, 320, 322, 323]
def hdA6 : List Addr := [324, 325, 327, 328, 330, 331, 332, 333, 335, 336, 338, 339, 340, 341, 343, 344, 346, 347, 348, 349, 351, 352, 354, 355, 356, 358, 359, 361, 362, 363]
def hdA7 : List Addr := [365, 366, 368, 369, 370, 372, 373, 375, 376, 377, 379, 380, 382, 383, 384, 386, 387, 389, 390, 391, 393, 394, 396, 397, 398, 400, 401, 402, 403, 406]
def hdA8 : List Addr := [408, 409, 411, 412, 420, 421, 422, 423, 426, 427, 428, 430, 431, 433, 434, 435, 436, 438, 439, 441, 442, 443, 444, 446, 447, 449, 450, 451, 452, 454]
def hdA9 : List Addr := [455, 457, 458, 459, 460, 462, 463, 465, 466, 467, 469, 470, 472, 473, 474, 476, 477, 479, 480, 481, 483, 484, 486, 487, 488, 490, 491, 493, 494, 495]
def hdA10 : List Addr := [497, 498, 500, 501, 502, 505, 506, 507, 510, 511, 512, 514, 515, 517, 518, 519, 521, 522, 524, 525, 526, 528, 529, 530, 531, 532, 533, 536, 538, 539]
def hdA11 : List Addr := [541, 542, 543, 546, 547, 555, 556, 559, 560, 561, 563, 564, 566, 567, 568, 569, 572, 573, 574, 575, 577, 578, 580, 581, 582, 584, 585, 587, 588, 589]
def hdA12 : List Addr := [591, 592, 594, 595, 596, 598, 599, 601, 602, 603, 605, 606, 608, 609, 610, 612, 613, 615, 616, 617, 619, 620, 622, 623, 624, 626, 627, 629, 630, 631]
def hdA13 : List Addr := [633, 634, 636, 637, 638, 640, 641, 642, 643, 646, 648, 649, 651, 652, 653, 656, 657, 665, 666, 669, 670, 671, 673, 674, 676, 677, 678, 679, 681, 682]
def hdA14 : List Addr := [684, 685, 686, 687, 689, 690, 692, 693, 694, 695, 697, 698, 700, 701, 702, 703, 705, 706, 708, 709, 710, 712, 713, 715, 716, 717, 719, 720, 722, 723]
def hdA15 : List Addr := [724, 726, 727, 729, 730, 731, 733, 734, 736, 737, 738, 741, 742, 743, 746, 747, 748, 750, 751, 753, 754, 755, 758, 759, 760, 763, 764, 765, 766, 769]
def hdA16 : List Addr := [770, 771, 773, 774, 776, 777, 778, 780, 781, 783, 784, 785, 787, 788, 790, 791, 792, 794, 795, 796, 797, 798, 799, 802, 804, 805, 807, 808, 809, 812]
def hdA17 : List Addr := [813, 821, 822, 825, 826, 827, 829, 830, 832, 833, 834, 835, 837, 838, 840, 841, 842, 843, 845, 846, 848, 849, 850, 851, 853, 854, 856, 857, 858, 859]
def hdA18 : List Addr := [862, 863, 864, 866, 867, 869, 870, 871, 874, 875, 876, 878, 879, 881, 882, 883, 886, 887, 888, 890, 891, 893, 894, 895, 897, 898, 900, 901, 902, 904]
def hdA19 : List Addr := [905, 906, 907, 908, 911, 913, 914, 916, 917, 918, 920, 921, 923, 924, 925, 927, 928, 930, 931, 942, 945, 946, 947, 949, 950, 952, 953, 954, 957, 958]
def hdA20 : List Addr := [959, 962, 963, 964, 967, 968, 991, 994, 995, 996, 999, 1000, 1001, 1004, 1005, 1011, 1014, 1015, 1016, 1019, 1020]
def hdA : List Addr := hdA0 ++ hdA1 ++ hdA2 ++ hdA3 ++ hdA4 ++ hdA5 ++ hdA6 ++ hdA7 ++ hdA8 ++ hdA9 ++ hdA10 ++ hdA11 ++ hdA12 ++ hdA13 ++ hdA14 ++ hdA15 ++ hdA16 ++ hdA17 ++ hdA18 ++ hdA19 ++ hdA20
def hdF0 (K : PySem.W.Frag) : Bool := decide (PySem.W.nsIn K mainGlobals "Sum" = some (some (.ref 401))) && (decide (PySem.W.nsIn K mainGlobals "Space" = some (some (.ref 529))) && (decide (PySem.W.nsIn K mainGlobals "Stored" = some (some (.ref 641))) && (decide (PySem.W.nsIn K mainGlobals "Table" = some (some (.ref 795))) && (decide (PySem.W.nsIn K mainGlobals "Prices" = some (some (.ref 905))) && (decide (PySem.W.nsIn K mainGlobals "_law_source" = some (some (.ref 917))) && (decide (PySem.W.codeIn K (PySem.Value.ref 916) "_law_source" = true) && (decide (PySem.W.keepIn K (.ref 917) = true) && (decide (PySem.W.nsIn K mainGlobals "_law_draw" = some (some (.ref 924))) && (decide (PySem.W.codeIn K (PySem.Value.ref 923) "_law_draw" = true) && (decide (PySem.W.keepIn K (.ref 924) = true) && (decide (PySem.W.nsIn K mainGlobals "_law_pick" = some (some (.ref 931))) && (decide (PySem.W.codeIn K (PySem.Value.ref 930) "_law_pick" = true) && (decide (PySem.W.keepIn K (.ref 931) = true) && (decide (PySem.W.nsIn K mainGlobals "_law_form" = some (some (.ref 953))) && (decide (PySem.W.codeIn K (PySem.Value.ref 952) "_law_form" = true) && (decide (PySem.W.keepIn K (.ref 953) = true) && (decide (PySem.W.nsIn K mainGlobals "_law_factors" = some (some (.ref 946))) && (decide (PySem.W.codeIn K (PySem.Value.ref 945) "_law_factors" = true) && (decide (PySem.W.keepIn K (.ref 946) = true) && (decide (PySem.W.nsIn K mainGlobals "_law_pieces" = some (some (.ref 958))) && (decide (PySem.W.codeIn K (PySem.Value.ref 957) "_law_pieces" = true) && (decide (PySem.W.keepIn K (.ref 958) = true) && (decide (PySem.W.nsIn K mainGlobals "_law_prices" = some (some (.ref 995))) && (decide (PySem.W.codeIn K (PySem.Value.ref 994) "_law_prices" = true)))))))))))))))))))))))))
theorem hdF0_ok {K : PySem.W.Frag} (h : hdF0 K = true) : (PySem.W.nsIn K mainGlobals "Sum" = some (some (.ref 401))) ∧ (PySem.W.nsIn K mainGlobals "Space" = some (some (.ref 529))) ∧ (PySem.W.nsIn K mainGlobals "Stored" = some (some (.ref 641))) ∧ (PySem.W.nsIn K mainGlobals "Table" = some (some (.ref 795))) ∧ (PySem.W.nsIn K mainGlobals "Prices" = some (some (.ref 905))) ∧ (PySem.W.nsIn K mainGlobals "_law_source" = some (some (.ref 917))) ∧ (PySem.W.codeIn K (PySem.Value.ref 916) "_law_source" = true) ∧ (PySem.W.keepIn K (.ref 917) = true) ∧ (PySem.W.nsIn K mainGlobals "_law_draw" = some (some (.ref 924))) ∧ (PySem.W.codeIn K (PySem.Value.ref 923) "_law_draw" = true) ∧ (PySem.W.keepIn K (.ref 924) = true) ∧ (PySem.W.nsIn K mainGlobals "_law_pick" = some (some (.ref 931))) ∧ (PySem.W.codeIn K (PySem.Value.ref 930) "_law_pick" = true) ∧ (PySem.W.keepIn K (.ref 931) = true) ∧ (PySem.W.nsIn K mainGlobals "_law_form" = some (some (.ref 953))) ∧ (PySem.W.codeIn K (PySem.Value.ref 952) "_law_form" = true) ∧ (PySem.W.keepIn K (.ref 953) = true) ∧ (PySem.W.nsIn K mainGlobals "_law_factors" = some (some (.ref 946))) ∧ (PySem.W.codeIn K (PySem.Value.ref 945) "_law_factors" = true) ∧ (PySem.W.keepIn K (.ref 946) = true) ∧ (PySem.W.nsIn K mainGlobals "_law_pieces" = some (some (.ref 958))) ∧ (PySem.W.codeIn K (PySem.Value.ref 957) "_law_pieces" = true) ∧ (PySem.W.keepIn K (.ref 958) = true) ∧ (PySem.W.nsIn K mainGlobals "_law_prices" = some (some (.ref 995))) ∧ (PySem.W.codeIn K (PySem.Value.ref 994) "_law_prices" = true) := by
  simpa only [hdF0, Bool.and_eq_true, decide_eq_true_eq] using h
def hdF1 (K : PySem.W.Frag) : Bool := decide (PySem.W.keepIn K (.ref 995) = true) && (decide (PySem.W.nsIn K mainGlobals "is_row" = some (some (.ref 652))) && (decide (PySem.W.codeIn K (PySem.Value.ref 651) "is_row" = true) && (decide (PySem.W.keepIn K (.ref 652) = true) && (decide (PySem.W.nsIn K mainGlobals "is_between" = some (some (.ref 265))) && (decide (PySem.W.codeIn K (PySem.Value.ref 264) "is_between" = true) && (decide (PySem.W.keepIn K (.ref 265) = true) && (decide (PySem.W.nsIn K mainGlobals "is_price" = some (some (.ref 808))) && (decide (PySem.W.codeIn K (PySem.Value.ref 807) "is_price" = true) && (decide (PySem.W.keepIn K (.ref 808) = true) && (decide (PySem.W.nsIn K mainGlobals "is_prices" = some (some (.ref 813))) && (decide (PySem.W.codeIn K (PySem.Value.ref 812) "is_prices" = true) && (decide (PySem.W.keepIn K (.ref 813) = true) && (decide (PySem.W.findIn K (.ref 905) "__init__" = some (some (.ref 826))) && (decide (PySem.W.isFn K (.ref 826) = true) && (decide (PySem.W.codeIn K (PySem.Value.ref 825) "Prices.__init__" = true) && (decide (PySem.W.keepIn K (.ref 826) = true) && (decide (PySem.W.findIn K (.ref 905) "parts" = some (some (.ref 834))) && (decide (PySem.W.specialIn K (.ref 834) "__get__" = some (some (.builtin "property.__get__"))) && (decide (PySem.W.takesIn K (.ref 834) = some true) && (decide (PySem.W.recIn K 834 "property" = some (.ref 833 :: ([PySem.Value.none, PySem.Value.none, PySem.Value.none, PySem.Value.str (PySem.Str.ofString "parts") 1232, PySem.Value.bool Bool.false]))) && (decide (PySem.W.codeIn K (PySem.Value.ref 832) "Prices.parts" = true) && (decide (PySem.W.keepIn K (.ref 833) = true) && (decide (PySem.W.findIn K (.ref 905) "wholes" = some (some (.ref 842))) && (decide (PySem.W.specialIn K (.ref 842) "__get__" = some (some (.builtin "property.__get__")))))))))))))))))))))))))))
theorem hdF1_ok {K : PySem.W.Frag} (h : hdF1 K = true) : (PySem.W.keepIn K (.ref 995) = true) ∧ (PySem.W.nsIn K mainGlobals "is_row" = some (some (.ref 652))) ∧ (PySem.W.codeIn K (PySem.Value.ref 651) "is_row" = true) ∧ (PySem.W.keepIn K (.ref 652) = true) ∧ (PySem.W.nsIn K mainGlobals "is_between" = some (some (.ref 265))) ∧ (PySem.W.codeIn K (PySem.Value.ref 264) "is_between" = true) ∧ (PySem.W.keepIn K (.ref 265) = true) ∧ (PySem.W.nsIn K mainGlobals "is_price" = some (some (.ref 808))) ∧ (PySem.W.codeIn K (PySem.Value.ref 807) "is_price" = true) ∧ (PySem.W.keepIn K (.ref 808) = true) ∧ (PySem.W.nsIn K mainGlobals "is_prices" = some (some (.ref 813))) ∧ (PySem.W.codeIn K (PySem.Value.ref 812) "is_prices" = true) ∧ (PySem.W.keepIn K (.ref 813) = true) ∧ (PySem.W.findIn K (.ref 905) "__init__" = some (some (.ref 826))) ∧ (PySem.W.isFn K (.ref 826) = true) ∧ (PySem.W.codeIn K (PySem.Value.ref 825) "Prices.__init__" = true) ∧ (PySem.W.keepIn K (.ref 826) = true) ∧ (PySem.W.findIn K (.ref 905) "parts" = some (some (.ref 834))) ∧ (PySem.W.specialIn K (.ref 834) "__get__" = some (some (.builtin "property.__get__"))) ∧ (PySem.W.takesIn K (.ref 834) = some true) ∧ (PySem.W.recIn K 834 "property" = some (.ref 833 :: ([PySem.Value.none, PySem.Value.none, PySem.Value.none, PySem.Value.str (PySem.Str.ofString "parts") 1232, PySem.Value.bool Bool.false]))) ∧ (PySem.W.codeIn K (PySem.Value.ref 832) "Prices.parts" = true) ∧ (PySem.W.keepIn K (.ref 833) = true) ∧ (PySem.W.findIn K (.ref 905) "wholes" = some (some (.ref 842))) ∧ (PySem.W.specialIn K (.ref 842) "__get__" = some (some (.builtin "property.__get__"))) := by
  simpa only [hdF1, Bool.and_eq_true, decide_eq_true_eq] using h
def hdF2 (K : PySem.W.Frag) : Bool := decide (PySem.W.takesIn K (.ref 842) = some true) && (decide (PySem.W.recIn K 842 "property" = some (.ref 841 :: ([PySem.Value.none, PySem.Value.none, PySem.Value.none, PySem.Value.str (PySem.Str.ofString "wholes") 1240, PySem.Value.bool Bool.false]))) && (decide (PySem.W.codeIn K (PySem.Value.ref 840) "Prices.wholes" = true) && (decide (PySem.W.keepIn K (.ref 841) = true) && (decide (PySem.W.findIn K (.ref 905) "opens" = some (some (.ref 850))) && (decide (PySem.W.specialIn K (.ref 850) "__get__" = some (some (.builtin "property.__get__"))) && (decide (PySem.W.takesIn K (.ref 850) = some true) && (decide (PySem.W.recIn K 850 "property" = some (.ref 849 :: ([PySem.Value.none, PySem.Value.none, PySem.Value.none, PySem.Value.str (PySem.Str.ofString "opens") 1248, PySem.Value.bool Bool.false]))) && (decide (PySem.W.codeIn K (PySem.Value.ref 848) "Prices.opens" = true) && (decide (PySem.W.keepIn K (.ref 849) = true) && (decide (PySem.W.findIn K (.ref 905) "__eq__" = some (some (.ref 901))) && (decide (PySem.W.isFn K (.ref 901) = true) && (decide (PySem.W.codeIn K (PySem.Value.ref 900) "Prices.__eq__" = true) && (decide (PySem.W.keepIn K (.ref 901) = true) && (decide (PySem.W.findIn K (.ref 795) "__eq__" = some (some (.ref 737))) && (decide (PySem.W.isFn K (.ref 737) = true) && (decide (PySem.W.codeIn K (PySem.Value.ref 736) "Table.__eq__" = true) && (decide (PySem.W.keepIn K (.ref 737) = true) && (decide (PySem.W.findIn K (.ref 641) "__eq__" = some (some (.ref 609))) && (decide (PySem.W.isFn K (.ref 609) = true) && (decide (PySem.W.codeIn K (PySem.Value.ref 608) "Stored.__eq__" = true) && (decide (PySem.W.keepIn K (.ref 609) = true) && (decide (PySem.W.findIn K (.ref 529) "__eq__" = some (some (.ref 487))) && (decide (PySem.W.isFn K (.ref 487) = true) && (decide (PySem.W.codeIn K (PySem.Value.ref 486) "Space.__eq__" = true)))))))))))))))))))))))))
theorem hdF2_ok {K : PySem.W.Frag} (h : hdF2 K = true) : (PySem.W.takesIn K (.ref 842) = some true) ∧ (PySem.W.recIn K 842 "property" = some (.ref 841 :: ([PySem.Value.none, PySem.Value.none, PySem.Value.none, PySem.Value.str (PySem.Str.ofString "wholes") 1240, PySem.Value.bool Bool.false]))) ∧ (PySem.W.codeIn K (PySem.Value.ref 840) "Prices.wholes" = true) ∧ (PySem.W.keepIn K (.ref 841) = true) ∧ (PySem.W.findIn K (.ref 905) "opens" = some (some (.ref 850))) ∧ (PySem.W.specialIn K (.ref 850) "__get__" = some (some (.builtin "property.__get__"))) ∧ (PySem.W.takesIn K (.ref 850) = some true) ∧ (PySem.W.recIn K 850 "property" = some (.ref 849 :: ([PySem.Value.none, PySem.Value.none, PySem.Value.none, PySem.Value.str (PySem.Str.ofString "opens") 1248, PySem.Value.bool Bool.false]))) ∧ (PySem.W.codeIn K (PySem.Value.ref 848) "Prices.opens" = true) ∧ (PySem.W.keepIn K (.ref 849) = true) ∧ (PySem.W.findIn K (.ref 905) "__eq__" = some (some (.ref 901))) ∧ (PySem.W.isFn K (.ref 901) = true) ∧ (PySem.W.codeIn K (PySem.Value.ref 900) "Prices.__eq__" = true) ∧ (PySem.W.keepIn K (.ref 901) = true) ∧ (PySem.W.findIn K (.ref 795) "__eq__" = some (some (.ref 737))) ∧ (PySem.W.isFn K (.ref 737) = true) ∧ (PySem.W.codeIn K (PySem.Value.ref 736) "Table.__eq__" = true) ∧ (PySem.W.keepIn K (.ref 737) = true) ∧ (PySem.W.findIn K (.ref 641) "__eq__" = some (some (.ref 609))) ∧ (PySem.W.isFn K (.ref 609) = true) ∧ (PySem.W.codeIn K (PySem.Value.ref 608) "Stored.__eq__" = true) ∧ (PySem.W.keepIn K (.ref 609) = true) ∧ (PySem.W.findIn K (.ref 529) "__eq__" = some (some (.ref 487))) ∧ (PySem.W.isFn K (.ref 487) = true) ∧ (PySem.W.codeIn K (PySem.Value.ref 486) "Space.__eq__" = true) := by
  simpa only [hdF2, Bool.and_eq_true, decide_eq_true_eq] using h
def hdF3 (K : PySem.W.Frag) : Bool := decide (PySem.W.keepIn K (.ref 487) = true) && (decide (PySem.W.findIn K (.ref 401) "__eq__" = some (some (.ref 397))) && (decide (PySem.W.isFn K (.ref 397) = true) && (decide (PySem.W.codeIn K (PySem.Value.ref 396) "Sum.__eq__" = true) && (decide (PySem.W.keepIn K (.ref 397) = true) && (decide (PySem.W.nsIn K mainGlobals "_law_spots" = some (some (.ref 963))) && (decide (PySem.W.codeIn K (PySem.Value.ref 962) "_law_spots" = true) && (decide (PySem.W.keepIn K (.ref 963) = true) && (decide (PySem.W.nsIn K mainGlobals "_law_sets" = some (some (.ref 968))) && (decide (PySem.W.codeIn K (.ref 967) "_law_sets" = true) && (decide (PySem.W.keepIn K (.ref 968) = true) && (decide (PySem.W.findIn K (.ref 905) "has_price" = some (some (.ref 870))) && (decide (PySem.W.isFn K (.ref 870) = true) && (decide (PySem.W.codeIn K (PySem.Value.ref 869) "Prices.has_price" = true) && (decide (PySem.W.keepIn K (.ref 870) = true) && (decide (PySem.W.findIn K (.ref 905) "require" = some (some (.ref 875))) && (decide (PySem.W.isFn K (.ref 875) = true) && (decide (PySem.W.codeIn K (PySem.Value.ref 874) "Prices.require" = true) && (decide (PySem.W.keepIn K (.ref 875) = true) && (decide (PySem.W.findIn K (.ref 905) "bill" = some (some (.ref 882))) && (decide (PySem.W.isFn K (.ref 882) = true) && (decide (PySem.W.codeIn K (PySem.Value.ref 881) "Prices.bill" = true) && (decide (PySem.W.keepIn K (.ref 882) = true) && (decide (PySem.W.findIn K (.ref 905) "__call__" = some (some (.ref 887))) && (decide (PySem.W.isFn K (.ref 887) = true)))))))))))))))))))))))))
theorem hdF3_ok {K : PySem.W.Frag} (h : hdF3 K = true) : (PySem.W.keepIn K (.ref 487) = true) ∧ (PySem.W.findIn K (.ref 401) "__eq__" = some (some (.ref 397))) ∧ (PySem.W.isFn K (.ref 397) = true) ∧ (PySem.W.codeIn K (PySem.Value.ref 396) "Sum.__eq__" = true) ∧ (PySem.W.keepIn K (.ref 397) = true) ∧ (PySem.W.nsIn K mainGlobals "_law_spots" = some (some (.ref 963))) ∧ (PySem.W.codeIn K (PySem.Value.ref 962) "_law_spots" = true) ∧ (PySem.W.keepIn K (.ref 963) = true) ∧ (PySem.W.nsIn K mainGlobals "_law_sets" = some (some (.ref 968))) ∧ (PySem.W.codeIn K (.ref 967) "_law_sets" = true) ∧ (PySem.W.keepIn K (.ref 968) = true) ∧ (PySem.W.findIn K (.ref 905) "has_price" = some (some (.ref 870))) ∧ (PySem.W.isFn K (.ref 870) = true) ∧ (PySem.W.codeIn K (PySem.Value.ref 869) "Prices.has_price" = true) ∧ (PySem.W.keepIn K (.ref 870) = true) ∧ (PySem.W.findIn K (.ref 905) "require" = some (some (.ref 875))) ∧ (PySem.W.isFn K (.ref 875) = true) ∧ (PySem.W.codeIn K (PySem.Value.ref 874) "Prices.require" = true) ∧ (PySem.W.keepIn K (.ref 875) = true) ∧ (PySem.W.findIn K (.ref 905) "bill" = some (some (.ref 882))) ∧ (PySem.W.isFn K (.ref 882) = true) ∧ (PySem.W.codeIn K (PySem.Value.ref 881) "Prices.bill" = true) ∧ (PySem.W.keepIn K (.ref 882) = true) ∧ (PySem.W.findIn K (.ref 905) "__call__" = some (some (.ref 887))) ∧ (PySem.W.isFn K (.ref 887) = true) := by
  simpa only [hdF3, Bool.and_eq_true, decide_eq_true_eq] using h
def hdF4 (K : PySem.W.Frag) : Bool := decide (PySem.W.codeIn K (PySem.Value.ref 886) "Prices.__call__" = true) && (decide (PySem.W.keepIn K (.ref 887) = true) && (decide (PySem.W.nsIn K mainGlobals "_law_cost" = some (some (.ref 1000))) && (decide (PySem.W.codeIn K (PySem.Value.ref 999) "_law_cost" = true) && (decide (PySem.W.keepIn K (.ref 1000) = true) && (decide (PySem.W.findIn K (.ref 905) "paid" = some (some (.ref 894))) && (decide (PySem.W.isFn K (.ref 894) = true) && (decide (PySem.W.codeIn K (PySem.Value.ref 893) "Prices.paid" = true) && (decide (PySem.W.keepIn K (.ref 894) = true) && (decide (PySem.W.nsIn K mainGlobals "_law_paid" = some (some (.ref 1005))) && (decide (PySem.W.codeIn K (PySem.Value.ref 1004) "_law_paid" = true) && (decide (PySem.W.keepIn K (.ref 1005) = true) && (decide (PySem.W.nsIn K mainGlobals "is_integer" = some (some (.ref 272))) && (decide (PySem.W.codeIn K (PySem.Value.ref 271) "is_integer" = true) && (decide (PySem.W.keepIn K (.ref 272) = true) && (decide (PySem.W.nsIn K mainGlobals "is_prime" = some (some (.ref 279))) && (decide (PySem.W.codeIn K (PySem.Value.ref 278) "is_prime" = true) && (decide (PySem.W.keepIn K (.ref 279) = true) && (decide (PySem.W.nsIn K mainGlobals "power" = some (some (.ref 257))) && (decide (PySem.W.codeIn K (PySem.Value.ref 256) "power" = true) && (decide (PySem.W.keepIn K (.ref 257) = true) && (decide (PySem.W.nsIn K mainGlobals "is_size" = some (some (.ref 286))) && (decide (PySem.W.codeIn K (PySem.Value.ref 285) "is_size" = true) && (decide (PySem.W.keepIn K (.ref 286) = true) && (decide (PySem.W.nsIn K mainGlobals "is_data" = some (some (.ref 291)))))))))))))))))))))))))))
theorem hdF4_ok {K : PySem.W.Frag} (h : hdF4 K = true) : (PySem.W.codeIn K (PySem.Value.ref 886) "Prices.__call__" = true) ∧ (PySem.W.keepIn K (.ref 887) = true) ∧ (PySem.W.nsIn K mainGlobals "_law_cost" = some (some (.ref 1000))) ∧ (PySem.W.codeIn K (PySem.Value.ref 999) "_law_cost" = true) ∧ (PySem.W.keepIn K (.ref 1000) = true) ∧ (PySem.W.findIn K (.ref 905) "paid" = some (some (.ref 894))) ∧ (PySem.W.isFn K (.ref 894) = true) ∧ (PySem.W.codeIn K (PySem.Value.ref 893) "Prices.paid" = true) ∧ (PySem.W.keepIn K (.ref 894) = true) ∧ (PySem.W.nsIn K mainGlobals "_law_paid" = some (some (.ref 1005))) ∧ (PySem.W.codeIn K (PySem.Value.ref 1004) "_law_paid" = true) ∧ (PySem.W.keepIn K (.ref 1005) = true) ∧ (PySem.W.nsIn K mainGlobals "is_integer" = some (some (.ref 272))) ∧ (PySem.W.codeIn K (PySem.Value.ref 271) "is_integer" = true) ∧ (PySem.W.keepIn K (.ref 272) = true) ∧ (PySem.W.nsIn K mainGlobals "is_prime" = some (some (.ref 279))) ∧ (PySem.W.codeIn K (PySem.Value.ref 278) "is_prime" = true) ∧ (PySem.W.keepIn K (.ref 279) = true) ∧ (PySem.W.nsIn K mainGlobals "power" = some (some (.ref 257))) ∧ (PySem.W.codeIn K (PySem.Value.ref 256) "power" = true) ∧ (PySem.W.keepIn K (.ref 257) = true) ∧ (PySem.W.nsIn K mainGlobals "is_size" = some (some (.ref 286))) ∧ (PySem.W.codeIn K (PySem.Value.ref 285) "is_size" = true) ∧ (PySem.W.keepIn K (.ref 286) = true) ∧ (PySem.W.nsIn K mainGlobals "is_data" = some (some (.ref 291))) := by
  simpa only [hdF4, Bool.and_eq_true, decide_eq_true_eq] using h
def hdF5 (K : PySem.W.Frag) : Bool := decide (PySem.W.codeIn K (PySem.Value.ref 290) "is_data" = true) && (decide (PySem.W.keepIn K (.ref 291) = true) && (decide (PySem.W.nsIn K mainGlobals "require_pieces" = some (some (.ref 657))) && (decide (PySem.W.codeIn K (PySem.Value.ref 656) "require_pieces" = true) && (decide (PySem.W.keepIn K (.ref 657) = true) && (decide (PySem.W.findIn K (.ref 795) "__init__" = some (some (.ref 670))) && (decide (PySem.W.isFn K (.ref 670) = true) && (decide (PySem.W.codeIn K (PySem.Value.ref 669) "Table.__init__" = true) && (decide (PySem.W.keepIn K (.ref 670) = true) && (decide (PySem.W.findIn K (.ref 795) "pieces" = some (some (.ref 694))) && (decide (PySem.W.specialIn K (.ref 694) "__get__" = some (some (.builtin "property.__get__"))) && (decide (PySem.W.takesIn K (.ref 694) = some true) && (decide (PySem.W.recIn K 694 "property" = some (.ref 693 :: ([PySem.Value.none, PySem.Value.none, PySem.Value.none, PySem.Value.str (PySem.Str.ofString "pieces") 1060, PySem.Value.bool Bool.false]))) && (decide (PySem.W.codeIn K (PySem.Value.ref 692) "Table.pieces" = true) && (decide (PySem.W.keepIn K (.ref 693) = true) && (decide (PySem.W.findIn K (.ref 641) "pieces" = some (some (.ref 568))) && (decide (PySem.W.specialIn K (.ref 568) "__get__" = some (some (.builtin "property.__get__"))) && (decide (PySem.W.takesIn K (.ref 568) = some true) && (decide (PySem.W.recIn K 568 "property" = some (.ref 567 :: ([PySem.Value.none, PySem.Value.none, PySem.Value.none, PySem.Value.str (PySem.Str.ofString "pieces") 896, PySem.Value.bool Bool.false]))) && (decide (PySem.W.codeIn K (PySem.Value.ref 566) "Stored.pieces" = true) && (decide (PySem.W.keepIn K (.ref 567) = true) && (decide (PySem.W.findIn K (.ref 905) "fits" = some (some (.ref 863))) && (decide (PySem.W.isFn K (.ref 863) = true) && (decide (PySem.W.codeIn K (PySem.Value.ref 862) "Prices.fits" = true) && (decide (PySem.W.keepIn K (.ref 863) = true)))))))))))))))))))))))))
theorem hdF5_ok {K : PySem.W.Frag} (h : hdF5 K = true) : (PySem.W.codeIn K (PySem.Value.ref 290) "is_data" = true) ∧ (PySem.W.keepIn K (.ref 291) = true) ∧ (PySem.W.nsIn K mainGlobals "require_pieces" = some (some (.ref 657))) ∧ (PySem.W.codeIn K (PySem.Value.ref 656) "require_pieces" = true) ∧ (PySem.W.keepIn K (.ref 657) = true) ∧ (PySem.W.findIn K (.ref 795) "__init__" = some (some (.ref 670))) ∧ (PySem.W.isFn K (.ref 670) = true) ∧ (PySem.W.codeIn K (PySem.Value.ref 669) "Table.__init__" = true) ∧ (PySem.W.keepIn K (.ref 670) = true) ∧ (PySem.W.findIn K (.ref 795) "pieces" = some (some (.ref 694))) ∧ (PySem.W.specialIn K (.ref 694) "__get__" = some (some (.builtin "property.__get__"))) ∧ (PySem.W.takesIn K (.ref 694) = some true) ∧ (PySem.W.recIn K 694 "property" = some (.ref 693 :: ([PySem.Value.none, PySem.Value.none, PySem.Value.none, PySem.Value.str (PySem.Str.ofString "pieces") 1060, PySem.Value.bool Bool.false]))) ∧ (PySem.W.codeIn K (PySem.Value.ref 692) "Table.pieces" = true) ∧ (PySem.W.keepIn K (.ref 693) = true) ∧ (PySem.W.findIn K (.ref 641) "pieces" = some (some (.ref 568))) ∧ (PySem.W.specialIn K (.ref 568) "__get__" = some (some (.builtin "property.__get__"))) ∧ (PySem.W.takesIn K (.ref 568) = some true) ∧ (PySem.W.recIn K 568 "property" = some (.ref 567 :: ([PySem.Value.none, PySem.Value.none, PySem.Value.none, PySem.Value.str (PySem.Str.ofString "pieces") 896, PySem.Value.bool Bool.false]))) ∧ (PySem.W.codeIn K (PySem.Value.ref 566) "Stored.pieces" = true) ∧ (PySem.W.keepIn K (.ref 567) = true) ∧ (PySem.W.findIn K (.ref 905) "fits" = some (some (.ref 863))) ∧ (PySem.W.isFn K (.ref 863) = true) ∧ (PySem.W.codeIn K (PySem.Value.ref 862) "Prices.fits" = true) ∧ (PySem.W.keepIn K (.ref 863) = true) := by
  simpa only [hdF5, Bool.and_eq_true, decide_eq_true_eq] using h
def hdF6 (K : PySem.W.Frag) : Bool := decide (PySem.W.findIn K (.ref 795) "prime" = some (some (.ref 678))) && (decide (PySem.W.specialIn K (.ref 678) "__get__" = some (some (.builtin "property.__get__"))) && (decide (PySem.W.takesIn K (.ref 678) = some true) && (decide (PySem.W.recIn K 678 "property" = some (.ref 677 :: ([PySem.Value.none, PySem.Value.none, PySem.Value.none, PySem.Value.str (PySem.Str.ofString "prime") 1044, PySem.Value.bool Bool.false]))) && (decide (PySem.W.codeIn K (PySem.Value.ref 676) "Table.prime" = true) && (decide (PySem.W.keepIn K (.ref 677) = true) && (decide (PySem.W.findIn K (.ref 529) "prime" = some (some (.ref 435))) && (decide (PySem.W.specialIn K (.ref 435) "__get__" = some (some (.builtin "property.__get__"))) && (decide (PySem.W.takesIn K (.ref 435) = some true) && (decide (PySem.W.recIn K 435 "property" = some (.ref 434 :: ([PySem.Value.none, PySem.Value.none, PySem.Value.none, PySem.Value.str (PySem.Str.ofString "prime") 735, PySem.Value.bool Bool.false]))) && (decide (PySem.W.codeIn K (PySem.Value.ref 433) "Space.prime" = true) && (decide (PySem.W.keepIn K (.ref 434) = true) && (decide (PySem.W.findIn K (.ref 401) "prime" = some (some (.ref 324))) && (decide (PySem.W.specialIn K (.ref 324) "__get__" = some (some (.builtin "property.__get__"))) && (decide (PySem.W.takesIn K (.ref 324) = some true) && (decide (PySem.W.recIn K 324 "property" = some (.ref 323 :: ([PySem.Value.none, PySem.Value.none, PySem.Value.none, PySem.Value.str (PySem.Str.ofString "prime") 603, PySem.Value.bool Bool.false]))) && (decide (PySem.W.codeIn K (PySem.Value.ref 322) "Sum.prime" = true) && (decide (PySem.W.keepIn K (.ref 323) = true) && (decide (PySem.W.findIn K (.ref 641) "fits" = some (some (.ref 630))) && (decide (PySem.W.isFn K (.ref 630) = true) && (decide (PySem.W.codeIn K (PySem.Value.ref 629) "Stored.fits" = true) && (decide (PySem.W.keepIn K (.ref 630) = true) && (decide (PySem.W.nsIn K mainGlobals "_law_fits_right" = some (some (.ref 1015))) && (decide (PySem.W.codeIn K (PySem.Value.ref 1014) "_law_fits_right" = true) && (decide (PySem.W.keepIn K (.ref 1015) = true)))))))))))))))))))))))))
theorem hdF6_ok {K : PySem.W.Frag} (h : hdF6 K = true) : (PySem.W.findIn K (.ref 795) "prime" = some (some (.ref 678))) ∧ (PySem.W.specialIn K (.ref 678) "__get__" = some (some (.builtin "property.__get__"))) ∧ (PySem.W.takesIn K (.ref 678) = some true) ∧ (PySem.W.recIn K 678 "property" = some (.ref 677 :: ([PySem.Value.none, PySem.Value.none, PySem.Value.none, PySem.Value.str (PySem.Str.ofString "prime") 1044, PySem.Value.bool Bool.false]))) ∧ (PySem.W.codeIn K (PySem.Value.ref 676) "Table.prime" = true) ∧ (PySem.W.keepIn K (.ref 677) = true) ∧ (PySem.W.findIn K (.ref 529) "prime" = some (some (.ref 435))) ∧ (PySem.W.specialIn K (.ref 435) "__get__" = some (some (.builtin "property.__get__"))) ∧ (PySem.W.takesIn K (.ref 435) = some true) ∧ (PySem.W.recIn K 435 "property" = some (.ref 434 :: ([PySem.Value.none, PySem.Value.none, PySem.Value.none, PySem.Value.str (PySem.Str.ofString "prime") 735, PySem.Value.bool Bool.false]))) ∧ (PySem.W.codeIn K (PySem.Value.ref 433) "Space.prime" = true) ∧ (PySem.W.keepIn K (.ref 434) = true) ∧ (PySem.W.findIn K (.ref 401) "prime" = some (some (.ref 324))) ∧ (PySem.W.specialIn K (.ref 324) "__get__" = some (some (.builtin "property.__get__"))) ∧ (PySem.W.takesIn K (.ref 324) = some true) ∧ (PySem.W.recIn K 324 "property" = some (.ref 323 :: ([PySem.Value.none, PySem.Value.none, PySem.Value.none, PySem.Value.str (PySem.Str.ofString "prime") 603, PySem.Value.bool Bool.false]))) ∧ (PySem.W.codeIn K (PySem.Value.ref 322) "Sum.prime" = true) ∧ (PySem.W.keepIn K (.ref 323) = true) ∧ (PySem.W.findIn K (.ref 641) "fits" = some (some (.ref 630))) ∧ (PySem.W.isFn K (.ref 630) = true) ∧ (PySem.W.codeIn K (PySem.Value.ref 629) "Stored.fits" = true) ∧ (PySem.W.keepIn K (.ref 630) = true) ∧ (PySem.W.nsIn K mainGlobals "_law_fits_right" = some (some (.ref 1015))) ∧ (PySem.W.codeIn K (PySem.Value.ref 1014) "_law_fits_right" = true) ∧ (PySem.W.keepIn K (.ref 1015) = true) := by
  simpa only [hdF6, Bool.and_eq_true, decide_eq_true_eq] using h
def hdF7 (K : PySem.W.Frag) : Bool := decide (PySem.W.nsIn K mainGlobals "law" = some (some (.ref 1020))) && (decide (PySem.W.codeIn K (PySem.Value.ref 1019) "law" = true) && (decide (PySem.W.keepIn K (.ref 1020) = true) && (decide (PySem.W.nsIn K mainGlobals "super" = some none) && (decide (PySem.W.nsIn K cStatics "thirdparty.any" = some none) && (decide (PySem.W.nsIn K mainGlobals "InvalidSpots" = some (some (.ref 95))) && (decide (PySem.W.excInitIn K 95 ESX.exTail "Exception.__new__" = true) && (decide (PySem.W.excOver K 95 ESX.exTail = true) && (decide (PySem.W.findIn K (.ref 95) "__init__" = some (some (.ref 92))) && (decide (PySem.W.typeIn K (.ref 92) = some (.type "function")) && (decide (PySem.W.codeIn K (.ref 91) "InvalidSpots.__init__" = true) && (decide (PySem.W.ks_superIn K 95 95 "__init__" = some (some (.builtin "Exception.__init__"))) && (decide (PySem.W.subIn K (.ref 95) (.type "Exception") = some true) && (decide (PySem.W.mroIn K 95 (.ref 95) = some true) && (decide (PySem.W.findIn K (.ref 95) "__setattr__" = some (some (.builtin "object.__setattr__"))) && (decide (PySem.W.findIn K (.ref 95) "value" = some none) && (decide (PySem.W.keepIn K (.ref 95) = true) && (decide (PySem.W.typeIn K (.ref 95) = some (.type "type")) && (decide (PySem.W.findIn K (.ref 95) "__getattribute__" = some (some (.builtin "BaseException.__getattribute__"))) && (decide (PySem.W.findIn K (.ref 95) "__getattr__" = some none) && (decide (PySem.W.subIn K (.ref 95) (.type "BaseException") = some true) && (decide (PySem.W.hasDictIn K 95 = true) && (decide (PySem.W.nsIn K mainGlobals "InvalidCost" = some (some (.ref 116))) && (decide (PySem.W.excInitIn K 116 ESX.exTail "Exception.__new__" = true) && (decide (PySem.W.excOver K 116 ESX.exTail = true)))))))))))))))))))))))))
theorem hdF7_ok {K : PySem.W.Frag} (h : hdF7 K = true) : (PySem.W.nsIn K mainGlobals "law" = some (some (.ref 1020))) ∧ (PySem.W.codeIn K (PySem.Value.ref 1019) "law" = true) ∧ (PySem.W.keepIn K (.ref 1020) = true) ∧ (PySem.W.nsIn K mainGlobals "super" = some none) ∧ (PySem.W.nsIn K cStatics "thirdparty.any" = some none) ∧ (PySem.W.nsIn K mainGlobals "InvalidSpots" = some (some (.ref 95))) ∧ (PySem.W.excInitIn K 95 ESX.exTail "Exception.__new__" = true) ∧ (PySem.W.excOver K 95 ESX.exTail = true) ∧ (PySem.W.findIn K (.ref 95) "__init__" = some (some (.ref 92))) ∧ (PySem.W.typeIn K (.ref 92) = some (.type "function")) ∧ (PySem.W.codeIn K (.ref 91) "InvalidSpots.__init__" = true) ∧ (PySem.W.ks_superIn K 95 95 "__init__" = some (some (.builtin "Exception.__init__"))) ∧ (PySem.W.subIn K (.ref 95) (.type "Exception") = some true) ∧ (PySem.W.mroIn K 95 (.ref 95) = some true) ∧ (PySem.W.findIn K (.ref 95) "__setattr__" = some (some (.builtin "object.__setattr__"))) ∧ (PySem.W.findIn K (.ref 95) "value" = some none) ∧ (PySem.W.keepIn K (.ref 95) = true) ∧ (PySem.W.typeIn K (.ref 95) = some (.type "type")) ∧ (PySem.W.findIn K (.ref 95) "__getattribute__" = some (some (.builtin "BaseException.__getattribute__"))) ∧ (PySem.W.findIn K (.ref 95) "__getattr__" = some none) ∧ (PySem.W.subIn K (.ref 95) (.type "BaseException") = some true) ∧ (PySem.W.hasDictIn K 95 = true) ∧ (PySem.W.nsIn K mainGlobals "InvalidCost" = some (some (.ref 116))) ∧ (PySem.W.excInitIn K 116 ESX.exTail "Exception.__new__" = true) ∧ (PySem.W.excOver K 116 ESX.exTail = true) := by
  simpa only [hdF7, Bool.and_eq_true, decide_eq_true_eq] using h
def hdF8 (K : PySem.W.Frag) : Bool := decide (PySem.W.findIn K (.ref 116) "__init__" = some (some (.ref 113))) && (decide (PySem.W.typeIn K (.ref 113) = some (.type "function")) && (decide (PySem.W.codeIn K (.ref 112) "InvalidCost.__init__" = true) && (decide (PySem.W.ks_superIn K 116 116 "__init__" = some (some (.builtin "Exception.__init__"))) && (decide (PySem.W.subIn K (.ref 116) (.type "Exception") = some true) && (decide (PySem.W.mroIn K 116 (.ref 116) = some true) && (decide (PySem.W.findIn K (.ref 116) "__setattr__" = some (some (.builtin "object.__setattr__"))) && (decide (PySem.W.findIn K (.ref 116) "value" = some none) && (decide (PySem.W.keepIn K (.ref 116) = true) && (decide (PySem.W.typeIn K (.ref 116) = some (.type "type")) && (decide (PySem.W.findIn K (.ref 116) "__getattribute__" = some (some (.builtin "BaseException.__getattribute__"))) && (decide (PySem.W.findIn K (.ref 116) "__getattr__" = some none) && (decide (PySem.W.subIn K (.ref 116) (.type "BaseException") = some true) && (decide (PySem.W.hasDictIn K 116 = true) && (decide (PySem.W.nsIn K mainGlobals "InvalidNumber" = some (some (.ref 158))) && (decide (PySem.W.excInitIn K 158 ESX.exTail "Exception.__new__" = true) && (decide (PySem.W.excOver K 158 ESX.exTail = true) && (decide (PySem.W.findIn K (.ref 158) "__init__" = some (some (.ref 155))) && (decide (PySem.W.typeIn K (.ref 155) = some (.type "function")) && (decide (PySem.W.codeIn K (.ref 154) "InvalidNumber.__init__" = true) && (decide (PySem.W.ks_superIn K 158 158 "__init__" = some (some (.builtin "Exception.__init__"))) && (decide (PySem.W.subIn K (.ref 158) (.type "Exception") = some true) && (decide (PySem.W.mroIn K 158 (.ref 158) = some true) && (decide (PySem.W.findIn K (.ref 158) "__setattr__" = some (some (.builtin "object.__setattr__"))) && (decide (PySem.W.findIn K (.ref 158) "value" = some none)))))))))))))))))))))))))
theorem hdF8_ok {K : PySem.W.Frag} (h : hdF8 K = true) : (PySem.W.findIn K (.ref 116) "__init__" = some (some (.ref 113))) ∧ (PySem.W.typeIn K (.ref 113) = some (.type "function")) ∧ (PySem.W.codeIn K (.ref 112) "InvalidCost.__init__" = true) ∧ (PySem.W.ks_superIn K 116 116 "__init__" = some (some (.builtin "Exception.__init__"))) ∧ (PySem.W.subIn K (.ref 116) (.type "Exception") = some true) ∧ (PySem.W.mroIn K 116 (.ref 116) = some true) ∧ (PySem.W.findIn K (.ref 116) "__setattr__" = some (some (.builtin "object.__setattr__"))) ∧ (PySem.W.findIn K (.ref 116) "value" = some none) ∧ (PySem.W.keepIn K (.ref 116) = true) ∧ (PySem.W.typeIn K (.ref 116) = some (.type "type")) ∧ (PySem.W.findIn K (.ref 116) "__getattribute__" = some (some (.builtin "BaseException.__getattribute__"))) ∧ (PySem.W.findIn K (.ref 116) "__getattr__" = some none) ∧ (PySem.W.subIn K (.ref 116) (.type "BaseException") = some true) ∧ (PySem.W.hasDictIn K 116 = true) ∧ (PySem.W.nsIn K mainGlobals "InvalidNumber" = some (some (.ref 158))) ∧ (PySem.W.excInitIn K 158 ESX.exTail "Exception.__new__" = true) ∧ (PySem.W.excOver K 158 ESX.exTail = true) ∧ (PySem.W.findIn K (.ref 158) "__init__" = some (some (.ref 155))) ∧ (PySem.W.typeIn K (.ref 155) = some (.type "function")) ∧ (PySem.W.codeIn K (.ref 154) "InvalidNumber.__init__" = true) ∧ (PySem.W.ks_superIn K 158 158 "__init__" = some (some (.builtin "Exception.__init__"))) ∧ (PySem.W.subIn K (.ref 158) (.type "Exception") = some true) ∧ (PySem.W.mroIn K 158 (.ref 158) = some true) ∧ (PySem.W.findIn K (.ref 158) "__setattr__" = some (some (.builtin "object.__setattr__"))) ∧ (PySem.W.findIn K (.ref 158) "value" = some none) := by
  simpa only [hdF8, Bool.and_eq_true, decide_eq_true_eq] using h
def hdF9 (K : PySem.W.Frag) : Bool := decide (PySem.W.keepIn K (.ref 158) = true) && (decide (PySem.W.typeIn K (.ref 158) = some (.type "type")) && (decide (PySem.W.findIn K (.ref 158) "__getattribute__" = some (some (.builtin "BaseException.__getattribute__"))) && (decide (PySem.W.findIn K (.ref 158) "__getattr__" = some none) && (decide (PySem.W.subIn K (.ref 158) (.type "BaseException") = some true) && (decide (PySem.W.hasDictIn K 158 = true) && (decide (PySem.W.nsIn K mainGlobals "InvalidTable" = some (some (.ref 179))) && (decide (PySem.W.excInitIn K 179 ESX.exTail "Exception.__new__" = true) && (decide (PySem.W.excOver K 179 ESX.exTail = true) && (decide (PySem.W.findIn K (.ref 179) "__init__" = some (some (.ref 176))) && (decide (PySem.W.typeIn K (.ref 176) = some (.type "function")) && (decide (PySem.W.codeIn K (.ref 175) "InvalidTable.__init__" = true) && (decide (PySem.W.ks_superIn K 179 179 "__init__" = some (some (.builtin "Exception.__init__"))) && (decide (PySem.W.subIn K (.ref 179) (.type "Exception") = some true) && (decide (PySem.W.mroIn K 179 (.ref 179) = some true) && (decide (PySem.W.findIn K (.ref 179) "__setattr__" = some (some (.builtin "object.__setattr__"))) && (decide (PySem.W.findIn K (.ref 179) "place" = some none) && (decide (PySem.W.keepIn K (.ref 179) = true) && (decide (PySem.W.typeIn K (.ref 179) = some (.type "type")) && (decide (PySem.W.findIn K (.ref 179) "__getattribute__" = some (some (.builtin "BaseException.__getattribute__"))) && (decide (PySem.W.findIn K (.ref 179) "__getattr__" = some none) && (decide (PySem.W.subIn K (.ref 179) (.type "BaseException") = some true) && (decide (PySem.W.hasDictIn K 179 = true) && (decide (PySem.W.plainGet K 401 Str.empty = true) && (decide (PySem.W.isClsIn K 401 = true)))))))))))))))))))))))))
theorem hdF9_ok {K : PySem.W.Frag} (h : hdF9 K = true) : (PySem.W.keepIn K (.ref 158) = true) ∧ (PySem.W.typeIn K (.ref 158) = some (.type "type")) ∧ (PySem.W.findIn K (.ref 158) "__getattribute__" = some (some (.builtin "BaseException.__getattribute__"))) ∧ (PySem.W.findIn K (.ref 158) "__getattr__" = some none) ∧ (PySem.W.subIn K (.ref 158) (.type "BaseException") = some true) ∧ (PySem.W.hasDictIn K 158 = true) ∧ (PySem.W.nsIn K mainGlobals "InvalidTable" = some (some (.ref 179))) ∧ (PySem.W.excInitIn K 179 ESX.exTail "Exception.__new__" = true) ∧ (PySem.W.excOver K 179 ESX.exTail = true) ∧ (PySem.W.findIn K (.ref 179) "__init__" = some (some (.ref 176))) ∧ (PySem.W.typeIn K (.ref 176) = some (.type "function")) ∧ (PySem.W.codeIn K (.ref 175) "InvalidTable.__init__" = true) ∧ (PySem.W.ks_superIn K 179 179 "__init__" = some (some (.builtin "Exception.__init__"))) ∧ (PySem.W.subIn K (.ref 179) (.type "Exception") = some true) ∧ (PySem.W.mroIn K 179 (.ref 179) = some true) ∧ (PySem.W.findIn K (.ref 179) "__setattr__" = some (some (.builtin "object.__setattr__"))) ∧ (PySem.W.findIn K (.ref 179) "place" = some none) ∧ (PySem.W.keepIn K (.ref 179) = true) ∧ (PySem.W.typeIn K (.ref 179) = some (.type "type")) ∧ (PySem.W.findIn K (.ref 179) "__getattribute__" = some (some (.builtin "BaseException.__getattribute__"))) ∧ (PySem.W.findIn K (.ref 179) "__getattr__" = some none) ∧ (PySem.W.subIn K (.ref 179) (.type "BaseException") = some true) ∧ (PySem.W.hasDictIn K 179 = true) ∧ (PySem.W.plainGet K 401 Str.empty = true) ∧ (PySem.W.isClsIn K 401 = true) := by
  simpa only [hdF9, Bool.and_eq_true, decide_eq_true_eq] using h
def hdF10 (K : PySem.W.Frag) : Bool := decide (PySem.W.plainOver K 401 = true) && (decide (PySem.W.findIn K (.ref 401) "__setattr__" = some (some (.builtin "object.__setattr__"))) && (decide (PySem.W.plainGet K 529 Str.empty = true) && (decide (PySem.W.isClsIn K 529 = true) && (decide (PySem.W.plainOver K 529 = true) && (decide (PySem.W.findIn K (.ref 529) "__setattr__" = some (some (.builtin "object.__setattr__"))) && (decide (PySem.W.plainGet K 641 Str.empty = true) && (decide (PySem.W.isClsIn K 641 = true) && (decide (PySem.W.plainOver K 641 = true) && (decide (PySem.W.findIn K (.ref 641) "__setattr__" = some (some (.builtin "object.__setattr__"))) && (decide (PySem.W.plainGet K 795 Str.empty = true) && (decide (PySem.W.isClsIn K 795 = true) && (decide (PySem.W.plainOver K 795 = true) && (decide (PySem.W.findIn K (.ref 795) "__setattr__" = some (some (.builtin "object.__setattr__"))) && (decide (PySem.W.plainGet K 905 Str.empty = true) && (decide (PySem.W.isClsIn K 905 = true) && (decide (PySem.W.plainOver K 905 = true) && (decide (PySem.W.findIn K (.ref 905) "__setattr__" = some (some (.builtin "object.__setattr__"))) && (decide (PySem.W.fnIn K 887 = true) && (decide (PySem.W.nsIn K mainGlobals "MOST_DATA" = some (some (.int 4096 511))) && (decide (PySem.W.nsIn K mainGlobals "MOST_PARTS" = some (some (.int 3 997))) && (decide (PySem.W.nsIn K mainGlobals "MOST_PIECES" = some (some (.int 6 995))) && (decide (PySem.W.nsIn K mainGlobals "MOST_PRICE" = some (some (.int 1000 1188))) && (decide (PySem.W.nsIn K mainGlobals "MOST_SPOTS" = some (some (.int 10 999))) && (decide (PySem.W.nsIn K mainGlobals "PRIMES" = some (some (.ref 258)))))))))))))))))))))))))))
theorem hdF10_ok {K : PySem.W.Frag} (h : hdF10 K = true) : (PySem.W.plainOver K 401 = true) ∧ (PySem.W.findIn K (.ref 401) "__setattr__" = some (some (.builtin "object.__setattr__"))) ∧ (PySem.W.plainGet K 529 Str.empty = true) ∧ (PySem.W.isClsIn K 529 = true) ∧ (PySem.W.plainOver K 529 = true) ∧ (PySem.W.findIn K (.ref 529) "__setattr__" = some (some (.builtin "object.__setattr__"))) ∧ (PySem.W.plainGet K 641 Str.empty = true) ∧ (PySem.W.isClsIn K 641 = true) ∧ (PySem.W.plainOver K 641 = true) ∧ (PySem.W.findIn K (.ref 641) "__setattr__" = some (some (.builtin "object.__setattr__"))) ∧ (PySem.W.plainGet K 795 Str.empty = true) ∧ (PySem.W.isClsIn K 795 = true) ∧ (PySem.W.plainOver K 795 = true) ∧ (PySem.W.findIn K (.ref 795) "__setattr__" = some (some (.builtin "object.__setattr__"))) ∧ (PySem.W.plainGet K 905 Str.empty = true) ∧ (PySem.W.isClsIn K 905 = true) ∧ (PySem.W.plainOver K 905 = true) ∧ (PySem.W.findIn K (.ref 905) "__setattr__" = some (some (.builtin "object.__setattr__"))) ∧ (PySem.W.fnIn K 887 = true) ∧ (PySem.W.nsIn K mainGlobals "MOST_DATA" = some (some (.int 4096 511))) ∧ (PySem.W.nsIn K mainGlobals "MOST_PARTS" = some (some (.int 3 997))) ∧ (PySem.W.nsIn K mainGlobals "MOST_PIECES" = some (some (.int 6 995))) ∧ (PySem.W.nsIn K mainGlobals "MOST_PRICE" = some (some (.int 1000 1188))) ∧ (PySem.W.nsIn K mainGlobals "MOST_SPOTS" = some (some (.int 10 999))) ∧ (PySem.W.nsIn K mainGlobals "PRIMES" = some (some (.ref 258))) := by
  simpa only [hdF10, Bool.and_eq_true, decide_eq_true_eq] using h
def hdF11 (K : PySem.W.Frag) : Bool := decide (PySem.W.findIn K (.ref 401) "__class__" = some (some (.builtin "object.__class__"))) && (decide (PySem.W.specialIn K (.builtin "object.__class__") "__get__" = some (some (.builtin "getset_descriptor.__get__"))) && (decide (PySem.W.takesIn K (.builtin "object.__class__") = some true) && (decide (PySem.W.mroIn K 401 (.type "object") = some true) && (decide (PySem.W.findIn K (.ref 529) "__class__" = some (some (.builtin "object.__class__"))) && (decide (PySem.W.specialIn K (.builtin "object.__class__") "__get__" = some (some (.builtin "getset_descriptor.__get__"))) && (decide (PySem.W.takesIn K (.builtin "object.__class__") = some true) && (decide (PySem.W.mroIn K 529 (.type "object") = some true) && (decide (PySem.W.findIn K (.ref 641) "__class__" = some (some (.builtin "object.__class__"))) && (decide (PySem.W.specialIn K (.builtin "object.__class__") "__get__" = some (some (.builtin "getset_descriptor.__get__"))) && (decide (PySem.W.takesIn K (.builtin "object.__class__") = some true) && (decide (PySem.W.mroIn K 641 (.type "object") = some true) && (decide (PySem.W.findIn K (.ref 795) "__class__" = some (some (.builtin "object.__class__"))) && (decide (PySem.W.specialIn K (.builtin "object.__class__") "__get__" = some (some (.builtin "getset_descriptor.__get__"))) && (decide (PySem.W.takesIn K (.builtin "object.__class__") = some true) && (decide (PySem.W.mroIn K 795 (.type "object") = some true) && (decide (PySem.W.findIn K (.ref 905) "__class__" = some (some (.builtin "object.__class__"))) && (decide (PySem.W.specialIn K (.builtin "object.__class__") "__get__" = some (some (.builtin "getset_descriptor.__get__"))) && (decide (PySem.W.takesIn K (.builtin "object.__class__") = some true) && (decide (PySem.W.mroIn K 905 (.type "object") = some true) && (decide (PySem.W.mroIn K 401 (.type "list") = some false) && (decide (PySem.W.mroIn K 401 (.type "tuple") = some false) && (decide (PySem.W.mroIn K 529 (.type "list") = some false) && (decide (PySem.W.mroIn K 529 (.type "tuple") = some false) && (decide (PySem.W.mroIn K 641 (.type "list") = some false)))))))))))))))))))))))))
theorem hdF11_ok {K : PySem.W.Frag} (h : hdF11 K = true) : (PySem.W.findIn K (.ref 401) "__class__" = some (some (.builtin "object.__class__"))) ∧ (PySem.W.specialIn K (.builtin "object.__class__") "__get__" = some (some (.builtin "getset_descriptor.__get__"))) ∧ (PySem.W.takesIn K (.builtin "object.__class__") = some true) ∧ (PySem.W.mroIn K 401 (.type "object") = some true) ∧ (PySem.W.findIn K (.ref 529) "__class__" = some (some (.builtin "object.__class__"))) ∧ (PySem.W.specialIn K (.builtin "object.__class__") "__get__" = some (some (.builtin "getset_descriptor.__get__"))) ∧ (PySem.W.takesIn K (.builtin "object.__class__") = some true) ∧ (PySem.W.mroIn K 529 (.type "object") = some true) ∧ (PySem.W.findIn K (.ref 641) "__class__" = some (some (.builtin "object.__class__"))) ∧ (PySem.W.specialIn K (.builtin "object.__class__") "__get__" = some (some (.builtin "getset_descriptor.__get__"))) ∧ (PySem.W.takesIn K (.builtin "object.__class__") = some true) ∧ (PySem.W.mroIn K 641 (.type "object") = some true) ∧ (PySem.W.findIn K (.ref 795) "__class__" = some (some (.builtin "object.__class__"))) ∧ (PySem.W.specialIn K (.builtin "object.__class__") "__get__" = some (some (.builtin "getset_descriptor.__get__"))) ∧ (PySem.W.takesIn K (.builtin "object.__class__") = some true) ∧ (PySem.W.mroIn K 795 (.type "object") = some true) ∧ (PySem.W.findIn K (.ref 905) "__class__" = some (some (.builtin "object.__class__"))) ∧ (PySem.W.specialIn K (.builtin "object.__class__") "__get__" = some (some (.builtin "getset_descriptor.__get__"))) ∧ (PySem.W.takesIn K (.builtin "object.__class__") = some true) ∧ (PySem.W.mroIn K 905 (.type "object") = some true) ∧ (PySem.W.mroIn K 401 (.type "list") = some false) ∧ (PySem.W.mroIn K 401 (.type "tuple") = some false) ∧ (PySem.W.mroIn K 529 (.type "list") = some false) ∧ (PySem.W.mroIn K 529 (.type "tuple") = some false) ∧ (PySem.W.mroIn K 641 (.type "list") = some false) := by
  simpa only [hdF11, Bool.and_eq_true, decide_eq_true_eq] using h
def hdF12 (K : PySem.W.Frag) : Bool := decide (PySem.W.mroIn K 641 (.type "tuple") = some false) && (decide (PySem.W.mroIn K 795 (.type "list") = some false) && (decide (PySem.W.mroIn K 795 (.type "tuple") = some false) && (decide (PySem.W.mroIn K 905 (.type "list") = some false) && (decide (PySem.W.mroIn K 905 (.type "tuple") = some false) && (decide (PySem.W.isClsIn K 401 = true) && (decide (PySem.W.typeIn K (.ref 401) = some (.type "type")) && (decide (PySem.W.subIn K (.type "NoneType") (.ref 401) = some false) && (decide (PySem.W.subIn K (.type "bool") (.ref 401) = some false) && (decide (PySem.W.subIn K (.type "int") (.ref 401) = some false) && (decide (PySem.W.subIn K (.type "str") (.ref 401) = some false) && (decide (PySem.W.subIn K (.type "list") (.ref 401) = some false) && (decide (PySem.W.subIn K (.type "tuple") (.ref 401) = some false) && (decide (PySem.W.subIn K (.type "dict") (.ref 401) = some false) && (decide (PySem.W.isClsIn K 529 = true) && (decide (PySem.W.typeIn K (.ref 529) = some (.type "type")) && (decide (PySem.W.subIn K (.type "NoneType") (.ref 529) = some false) && (decide (PySem.W.subIn K (.type "bool") (.ref 529) = some false) && (decide (PySem.W.subIn K (.type "int") (.ref 529) = some false) && (decide (PySem.W.subIn K (.type "str") (.ref 529) = some false) && (decide (PySem.W.subIn K (.type "list") (.ref 529) = some false) && (decide (PySem.W.subIn K (.type "tuple") (.ref 529) = some false) && (decide (PySem.W.subIn K (.type "dict") (.ref 529) = some false) && (decide (PySem.W.isClsIn K 641 = true) && (decide (PySem.W.typeIn K (.ref 641) = some (.type "type"))))))))))))))))))))))))))
theorem hdF12_ok {K : PySem.W.Frag} (h : hdF12 K = true) : (PySem.W.mroIn K 641 (.type "tuple") = some false) ∧ (PySem.W.mroIn K 795 (.type "list") = some false) ∧ (PySem.W.mroIn K 795 (.type "tuple") = some false) ∧ (PySem.W.mroIn K 905 (.type "list") = some false) ∧ (PySem.W.mroIn K 905 (.type "tuple") = some false) ∧ (PySem.W.isClsIn K 401 = true) ∧ (PySem.W.typeIn K (.ref 401) = some (.type "type")) ∧ (PySem.W.subIn K (.type "NoneType") (.ref 401) = some false) ∧ (PySem.W.subIn K (.type "bool") (.ref 401) = some false) ∧ (PySem.W.subIn K (.type "int") (.ref 401) = some false) ∧ (PySem.W.subIn K (.type "str") (.ref 401) = some false) ∧ (PySem.W.subIn K (.type "list") (.ref 401) = some false) ∧ (PySem.W.subIn K (.type "tuple") (.ref 401) = some false) ∧ (PySem.W.subIn K (.type "dict") (.ref 401) = some false) ∧ (PySem.W.isClsIn K 529 = true) ∧ (PySem.W.typeIn K (.ref 529) = some (.type "type")) ∧ (PySem.W.subIn K (.type "NoneType") (.ref 529) = some false) ∧ (PySem.W.subIn K (.type "bool") (.ref 529) = some false) ∧ (PySem.W.subIn K (.type "int") (.ref 529) = some false) ∧ (PySem.W.subIn K (.type "str") (.ref 529) = some false) ∧ (PySem.W.subIn K (.type "list") (.ref 529) = some false) ∧ (PySem.W.subIn K (.type "tuple") (.ref 529) = some false) ∧ (PySem.W.subIn K (.type "dict") (.ref 529) = some false) ∧ (PySem.W.isClsIn K 641 = true) ∧ (PySem.W.typeIn K (.ref 641) = some (.type "type")) := by
  simpa only [hdF12, Bool.and_eq_true, decide_eq_true_eq] using h
def hdF13 (K : PySem.W.Frag) : Bool := decide (PySem.W.subIn K (.type "NoneType") (.ref 641) = some false) && (decide (PySem.W.subIn K (.type "bool") (.ref 641) = some false) && (decide (PySem.W.subIn K (.type "int") (.ref 641) = some false) && (decide (PySem.W.subIn K (.type "str") (.ref 641) = some false) && (decide (PySem.W.subIn K (.type "list") (.ref 641) = some false) && (decide (PySem.W.subIn K (.type "tuple") (.ref 641) = some false) && (decide (PySem.W.subIn K (.type "dict") (.ref 641) = some false) && (decide (PySem.W.isClsIn K 795 = true) && (decide (PySem.W.typeIn K (.ref 795) = some (.type "type")) && (decide (PySem.W.subIn K (.type "NoneType") (.ref 795) = some false) && (decide (PySem.W.subIn K (.type "bool") (.ref 795) = some false) && (decide (PySem.W.subIn K (.type "int") (.ref 795) = some false) && (decide (PySem.W.subIn K (.type "str") (.ref 795) = some false) && (decide (PySem.W.subIn K (.type "list") (.ref 795) = some false) && (decide (PySem.W.subIn K (.type "tuple") (.ref 795) = some false) && (decide (PySem.W.subIn K (.type "dict") (.ref 795) = some false) && (decide (PySem.W.isClsIn K 905 = true) && (decide (PySem.W.typeIn K (.ref 905) = some (.type "type")) && (decide (PySem.W.subIn K (.type "NoneType") (.ref 905) = some false) && (decide (PySem.W.subIn K (.type "bool") (.ref 905) = some false) && (decide (PySem.W.subIn K (.type "int") (.ref 905) = some false) && (decide (PySem.W.subIn K (.type "str") (.ref 905) = some false) && (decide (PySem.W.subIn K (.type "list") (.ref 905) = some false) && (decide (PySem.W.subIn K (.type "tuple") (.ref 905) = some false) && (decide (PySem.W.subIn K (.type "dict") (.ref 905) = some false)))))))))))))))))))))))))
theorem hdF13_ok {K : PySem.W.Frag} (h : hdF13 K = true) : (PySem.W.subIn K (.type "NoneType") (.ref 641) = some false) ∧ (PySem.W.subIn K (.type "bool") (.ref 641) = some false) ∧ (PySem.W.subIn K (.type "int") (.ref 641) = some false) ∧ (PySem.W.subIn K (.type "str") (.ref 641) = some false) ∧ (PySem.W.subIn K (.type "list") (.ref 641) = some false) ∧ (PySem.W.subIn K (.type "tuple") (.ref 641) = some false) ∧ (PySem.W.subIn K (.type "dict") (.ref 641) = some false) ∧ (PySem.W.isClsIn K 795 = true) ∧ (PySem.W.typeIn K (.ref 795) = some (.type "type")) ∧ (PySem.W.subIn K (.type "NoneType") (.ref 795) = some false) ∧ (PySem.W.subIn K (.type "bool") (.ref 795) = some false) ∧ (PySem.W.subIn K (.type "int") (.ref 795) = some false) ∧ (PySem.W.subIn K (.type "str") (.ref 795) = some false) ∧ (PySem.W.subIn K (.type "list") (.ref 795) = some false) ∧ (PySem.W.subIn K (.type "tuple") (.ref 795) = some false) ∧ (PySem.W.subIn K (.type "dict") (.ref 795) = some false) ∧ (PySem.W.isClsIn K 905 = true) ∧ (PySem.W.typeIn K (.ref 905) = some (.type "type")) ∧ (PySem.W.subIn K (.type "NoneType") (.ref 905) = some false) ∧ (PySem.W.subIn K (.type "bool") (.ref 905) = some false) ∧ (PySem.W.subIn K (.type "int") (.ref 905) = some false) ∧ (PySem.W.subIn K (.type "str") (.ref 905) = some false) ∧ (PySem.W.subIn K (.type "list") (.ref 905) = some false) ∧ (PySem.W.subIn K (.type "tuple") (.ref 905) = some false) ∧ (PySem.W.subIn K (.type "dict") (.ref 905) = some false) := by
  simpa only [hdF13, Bool.and_eq_true, decide_eq_true_eq] using h
def hdF14 (K : PySem.W.Frag) : Bool := decide (PySem.W.kitOne K (.ref 401) (.ref 529) = some false) && (decide (PySem.W.kitOne K (.ref 401) (.ref 641) = some false) && (decide (PySem.W.kitOne K (.ref 401) (.ref 795) = some false) && (decide (PySem.W.kitOne K (.ref 401) (.ref 905) = some false) && (decide (PySem.W.mroIn K 401 (.type "bool") = some false) && (decide (PySem.W.mroIn K 401 (.type "int") = some false) && (decide (PySem.W.mroIn K 401 (.type "tuple") = some false) && (decide (PySem.W.kitOne K (.ref 529) (.ref 401) = some false) && (decide (PySem.W.kitOne K (.ref 529) (.ref 641) = some false) && (decide (PySem.W.kitOne K (.ref 529) (.ref 795) = some false) && (decide (PySem.W.kitOne K (.ref 529) (.ref 905) = some false) && (decide (PySem.W.mroIn K 529 (.type "bool") = some false) && (decide (PySem.W.mroIn K 529 (.type "int") = some false) && (decide (PySem.W.mroIn K 529 (.type "tuple") = some false) && (decide (PySem.W.kitOne K (.ref 641) (.ref 401) = some false) && (decide (PySem.W.kitOne K (.ref 641) (.ref 529) = some false) && (decide (PySem.W.kitOne K (.ref 641) (.ref 795) = some false) && (decide (PySem.W.kitOne K (.ref 641) (.ref 905) = some false) && (decide (PySem.W.mroIn K 641 (.type "bool") = some false) && (decide (PySem.W.mroIn K 641 (.type "int") = some false) && (decide (PySem.W.mroIn K 641 (.type "tuple") = some false) && (decide (PySem.W.kitOne K (.ref 795) (.ref 401) = some false) && (decide (PySem.W.kitOne K (.ref 795) (.ref 529) = some false) && (decide (PySem.W.kitOne K (.ref 795) (.ref 641) = some false) && (decide (PySem.W.kitOne K (.ref 795) (.ref 905) = some false)))))))))))))))))))))))))
theorem hdF14_ok {K : PySem.W.Frag} (h : hdF14 K = true) : (PySem.W.kitOne K (.ref 401) (.ref 529) = some false) ∧ (PySem.W.kitOne K (.ref 401) (.ref 641) = some false) ∧ (PySem.W.kitOne K (.ref 401) (.ref 795) = some false) ∧ (PySem.W.kitOne K (.ref 401) (.ref 905) = some false) ∧ (PySem.W.mroIn K 401 (.type "bool") = some false) ∧ (PySem.W.mroIn K 401 (.type "int") = some false) ∧ (PySem.W.mroIn K 401 (.type "tuple") = some false) ∧ (PySem.W.kitOne K (.ref 529) (.ref 401) = some false) ∧ (PySem.W.kitOne K (.ref 529) (.ref 641) = some false) ∧ (PySem.W.kitOne K (.ref 529) (.ref 795) = some false) ∧ (PySem.W.kitOne K (.ref 529) (.ref 905) = some false) ∧ (PySem.W.mroIn K 529 (.type "bool") = some false) ∧ (PySem.W.mroIn K 529 (.type "int") = some false) ∧ (PySem.W.mroIn K 529 (.type "tuple") = some false) ∧ (PySem.W.kitOne K (.ref 641) (.ref 401) = some false) ∧ (PySem.W.kitOne K (.ref 641) (.ref 529) = some false) ∧ (PySem.W.kitOne K (.ref 641) (.ref 795) = some false) ∧ (PySem.W.kitOne K (.ref 641) (.ref 905) = some false) ∧ (PySem.W.mroIn K 641 (.type "bool") = some false) ∧ (PySem.W.mroIn K 641 (.type "int") = some false) ∧ (PySem.W.mroIn K 641 (.type "tuple") = some false) ∧ (PySem.W.kitOne K (.ref 795) (.ref 401) = some false) ∧ (PySem.W.kitOne K (.ref 795) (.ref 529) = some false) ∧ (PySem.W.kitOne K (.ref 795) (.ref 641) = some false) ∧ (PySem.W.kitOne K (.ref 795) (.ref 905) = some false) := by
  simpa only [hdF14, Bool.and_eq_true, decide_eq_true_eq] using h
def hdF15 (K : PySem.W.Frag) : Bool := decide (PySem.W.mroIn K 795 (.type "bool") = some false) && (decide (PySem.W.mroIn K 795 (.type "int") = some false) && (decide (PySem.W.mroIn K 795 (.type "tuple") = some false) && (decide (PySem.W.kitOne K (.ref 905) (.ref 401) = some false) && (decide (PySem.W.kitOne K (.ref 905) (.ref 529) = some false) && (decide (PySem.W.kitOne K (.ref 905) (.ref 641) = some false) && (decide (PySem.W.kitOne K (.ref 905) (.ref 795) = some false) && (decide (PySem.W.mroIn K 905 (.type "bool") = some false) && (decide (PySem.W.mroIn K 905 (.type "int") = some false) && (decide (PySem.W.mroIn K 905 (.type "tuple") = some false) && (decide (PySem.W.makesIn K 795 = true) && (decide (PySem.W.keepIn K (.ref 795) = true) && (decide (PySem.W.makesIn K 905 = true) && (decide (PySem.W.keepIn K (.ref 905) = true) && (decide (PySem.W.notFirst K 401 (.type "NoneType") = true) && (decide (PySem.W.notFirst K 401 (.type "bool") = true) && (decide (PySem.W.notFirst K 401 (.type "int") = true) && (decide (PySem.W.notFirst K 401 (.type "str") = true) && (decide (PySem.W.notFirst K 401 (.type "list") = true) && (decide (PySem.W.notFirst K 401 (.type "tuple") = true) && (decide (PySem.W.notFirst K 401 (.type "dict") = true) && (decide (PySem.W.notFirst K 529 (.type "NoneType") = true) && (decide (PySem.W.notFirst K 529 (.type "bool") = true) && (decide (PySem.W.notFirst K 529 (.type "int") = true) && (decide (PySem.W.notFirst K 529 (.type "str") = true)))))))))))))))))))))))))
theorem hdF15_ok {K : PySem.W.Frag} (h : hdF15 K = true) : (PySem.W.mroIn K 795 (.type "bool") = some false) ∧ (PySem.W.mroIn K 795 (.type "int") = some false) ∧ (PySem.W.mroIn K 795 (.type "tuple") = some false) ∧ (PySem.W.kitOne K (.ref 905) (.ref 401) = some false) ∧ (PySem.W.kitOne K (.ref 905) (.ref 529) = some false) ∧ (PySem.W.kitOne K (.ref 905) (.ref 641) = some false) ∧ (PySem.W.kitOne K (.ref 905) (.ref 795) = some false) ∧ (PySem.W.mroIn K 905 (.type "bool") = some false) ∧ (PySem.W.mroIn K 905 (.type "int") = some false) ∧ (PySem.W.mroIn K 905 (.type "tuple") = some false) ∧ (PySem.W.makesIn K 795 = true) ∧ (PySem.W.keepIn K (.ref 795) = true) ∧ (PySem.W.makesIn K 905 = true) ∧ (PySem.W.keepIn K (.ref 905) = true) ∧ (PySem.W.notFirst K 401 (.type "NoneType") = true) ∧ (PySem.W.notFirst K 401 (.type "bool") = true) ∧ (PySem.W.notFirst K 401 (.type "int") = true) ∧ (PySem.W.notFirst K 401 (.type "str") = true) ∧ (PySem.W.notFirst K 401 (.type "list") = true) ∧ (PySem.W.notFirst K 401 (.type "tuple") = true) ∧ (PySem.W.notFirst K 401 (.type "dict") = true) ∧ (PySem.W.notFirst K 529 (.type "NoneType") = true) ∧ (PySem.W.notFirst K 529 (.type "bool") = true) ∧ (PySem.W.notFirst K 529 (.type "int") = true) ∧ (PySem.W.notFirst K 529 (.type "str") = true) := by
  simpa only [hdF15, Bool.and_eq_true, decide_eq_true_eq] using h
def hdF16 (K : PySem.W.Frag) : Bool := decide (PySem.W.notFirst K 529 (.type "list") = true) && (decide (PySem.W.notFirst K 529 (.type "tuple") = true) && (decide (PySem.W.notFirst K 529 (.type "dict") = true) && (decide (PySem.W.notFirst K 641 (.type "NoneType") = true) && (decide (PySem.W.notFirst K 641 (.type "bool") = true) && (decide (PySem.W.notFirst K 641 (.type "int") = true) && (decide (PySem.W.notFirst K 641 (.type "str") = true) && (decide (PySem.W.notFirst K 641 (.type "list") = true) && (decide (PySem.W.notFirst K 641 (.type "tuple") = true) && (decide (PySem.W.notFirst K 641 (.type "dict") = true) && (decide (PySem.W.notFirst K 795 (.type "NoneType") = true) && (decide (PySem.W.notFirst K 795 (.type "bool") = true) && (decide (PySem.W.notFirst K 795 (.type "int") = true) && (decide (PySem.W.notFirst K 795 (.type "str") = true) && (decide (PySem.W.notFirst K 795 (.type "list") = true) && (decide (PySem.W.notFirst K 795 (.type "tuple") = true) && (decide (PySem.W.notFirst K 795 (.type "dict") = true) && (decide (PySem.W.notFirst K 905 (.type "NoneType") = true) && (decide (PySem.W.notFirst K 905 (.type "bool") = true) && (decide (PySem.W.notFirst K 905 (.type "int") = true) && (decide (PySem.W.notFirst K 905 (.type "str") = true) && (decide (PySem.W.notFirst K 905 (.type "list") = true) && (decide (PySem.W.notFirst K 905 (.type "tuple") = true) && (decide (PySem.W.notFirst K 905 (.type "dict") = true) && (decide (PySem.W.findIn K (.ref 401) "__ne__" = some (some (.builtin "object.__ne__")))))))))))))))))))))))))))
theorem hdF16_ok {K : PySem.W.Frag} (h : hdF16 K = true) : (PySem.W.notFirst K 529 (.type "list") = true) ∧ (PySem.W.notFirst K 529 (.type "tuple") = true) ∧ (PySem.W.notFirst K 529 (.type "dict") = true) ∧ (PySem.W.notFirst K 641 (.type "NoneType") = true) ∧ (PySem.W.notFirst K 641 (.type "bool") = true) ∧ (PySem.W.notFirst K 641 (.type "int") = true) ∧ (PySem.W.notFirst K 641 (.type "str") = true) ∧ (PySem.W.notFirst K 641 (.type "list") = true) ∧ (PySem.W.notFirst K 641 (.type "tuple") = true) ∧ (PySem.W.notFirst K 641 (.type "dict") = true) ∧ (PySem.W.notFirst K 795 (.type "NoneType") = true) ∧ (PySem.W.notFirst K 795 (.type "bool") = true) ∧ (PySem.W.notFirst K 795 (.type "int") = true) ∧ (PySem.W.notFirst K 795 (.type "str") = true) ∧ (PySem.W.notFirst K 795 (.type "list") = true) ∧ (PySem.W.notFirst K 795 (.type "tuple") = true) ∧ (PySem.W.notFirst K 795 (.type "dict") = true) ∧ (PySem.W.notFirst K 905 (.type "NoneType") = true) ∧ (PySem.W.notFirst K 905 (.type "bool") = true) ∧ (PySem.W.notFirst K 905 (.type "int") = true) ∧ (PySem.W.notFirst K 905 (.type "str") = true) ∧ (PySem.W.notFirst K 905 (.type "list") = true) ∧ (PySem.W.notFirst K 905 (.type "tuple") = true) ∧ (PySem.W.notFirst K 905 (.type "dict") = true) ∧ (PySem.W.findIn K (.ref 401) "__ne__" = some (some (.builtin "object.__ne__"))) := by
  simpa only [hdF16, Bool.and_eq_true, decide_eq_true_eq] using h
def hdF17 (K : PySem.W.Frag) : Bool := decide (PySem.W.findIn K (.ref 529) "__ne__" = some (some (.builtin "object.__ne__"))) && (decide (PySem.W.findIn K (.ref 641) "__ne__" = some (some (.builtin "object.__ne__"))) && (decide (PySem.W.findIn K (.ref 795) "__ne__" = some (some (.builtin "object.__ne__"))) && (decide (PySem.W.findIn K (.ref 905) "__ne__" = some (some (.builtin "object.__ne__"))) && (decide (PySem.W.notFirst K 401 (.ref 401) = true) && (decide (PySem.W.notFirst K 401 (.ref 529) = true) && (decide (PySem.W.notFirst K 401 (.ref 641) = true) && (decide (PySem.W.notFirst K 401 (.ref 795) = true) && (decide (PySem.W.notFirst K 401 (.ref 905) = true) && (decide (PySem.W.notFirst K 529 (.ref 401) = true) && (decide (PySem.W.notFirst K 529 (.ref 529) = true) && (decide (PySem.W.notFirst K 529 (.ref 641) = true) && (decide (PySem.W.notFirst K 529 (.ref 795) = true) && (decide (PySem.W.notFirst K 529 (.ref 905) = true) && (decide (PySem.W.notFirst K 641 (.ref 401) = true) && (decide (PySem.W.notFirst K 641 (.ref 529) = true) && (decide (PySem.W.notFirst K 641 (.ref 641) = true) && (decide (PySem.W.notFirst K 641 (.ref 795) = true) && (decide (PySem.W.notFirst K 641 (.ref 905) = true) && (decide (PySem.W.notFirst K 795 (.ref 401) = true) && (decide (PySem.W.notFirst K 795 (.ref 529) = true) && (decide (PySem.W.notFirst K 795 (.ref 641) = true) && (decide (PySem.W.notFirst K 795 (.ref 795) = true) && (decide (PySem.W.notFirst K 795 (.ref 905) = true) && (decide (PySem.W.notFirst K 905 (.ref 401) = true)))))))))))))))))))))))))
theorem hdF17_ok {K : PySem.W.Frag} (h : hdF17 K = true) : (PySem.W.findIn K (.ref 529) "__ne__" = some (some (.builtin "object.__ne__"))) ∧ (PySem.W.findIn K (.ref 641) "__ne__" = some (some (.builtin "object.__ne__"))) ∧ (PySem.W.findIn K (.ref 795) "__ne__" = some (some (.builtin "object.__ne__"))) ∧ (PySem.W.findIn K (.ref 905) "__ne__" = some (some (.builtin "object.__ne__"))) ∧ (PySem.W.notFirst K 401 (.ref 401) = true) ∧ (PySem.W.notFirst K 401 (.ref 529) = true) ∧ (PySem.W.notFirst K 401 (.ref 641) = true) ∧ (PySem.W.notFirst K 401 (.ref 795) = true) ∧ (PySem.W.notFirst K 401 (.ref 905) = true) ∧ (PySem.W.notFirst K 529 (.ref 401) = true) ∧ (PySem.W.notFirst K 529 (.ref 529) = true) ∧ (PySem.W.notFirst K 529 (.ref 641) = true) ∧ (PySem.W.notFirst K 529 (.ref 795) = true) ∧ (PySem.W.notFirst K 529 (.ref 905) = true) ∧ (PySem.W.notFirst K 641 (.ref 401) = true) ∧ (PySem.W.notFirst K 641 (.ref 529) = true) ∧ (PySem.W.notFirst K 641 (.ref 641) = true) ∧ (PySem.W.notFirst K 641 (.ref 795) = true) ∧ (PySem.W.notFirst K 641 (.ref 905) = true) ∧ (PySem.W.notFirst K 795 (.ref 401) = true) ∧ (PySem.W.notFirst K 795 (.ref 529) = true) ∧ (PySem.W.notFirst K 795 (.ref 641) = true) ∧ (PySem.W.notFirst K 795 (.ref 795) = true) ∧ (PySem.W.notFirst K 795 (.ref 905) = true) ∧ (PySem.W.notFirst K 905 (.ref 401) = true) := by
  simpa only [hdF17, Bool.and_eq_true, decide_eq_true_eq] using h
def hdF18 (K : PySem.W.Frag) : Bool := decide (PySem.W.notFirst K 905 (.ref 529) = true) && (decide (PySem.W.notFirst K 905 (.ref 641) = true) && (decide (PySem.W.notFirst K 905 (.ref 795) = true) && (decide (PySem.W.notFirst K 905 (.ref 905) = true) && (decide (PySem.W.findIn K (.ref 401) "own_prime" = some (some (.ref 402))) && (decide (PySem.W.specialIn K (.ref 402) "__get__" = some (some (.builtin "member_descriptor.__get__"))) && (decide (PySem.W.takesIn K (.ref 402) = some true) && (decide (PySem.W.typeIn K (.ref 402) = some (.type "member_descriptor")) && (decide (PySem.W.slotIn K 402 401 = some 0) && (decide (PySem.W.findIn K (.ref 401) "row" = some (some (.ref 403))) && (decide (PySem.W.specialIn K (.ref 403) "__get__" = some (some (.builtin "member_descriptor.__get__"))) && (decide (PySem.W.takesIn K (.ref 403) = some true) && (decide (PySem.W.typeIn K (.ref 403) = some (.type "member_descriptor")) && (decide (PySem.W.slotIn K 403 401 = some 1) && (decide (PySem.W.findIn K (.ref 529) "own_prime" = some (some (.ref 531))) && (decide (PySem.W.specialIn K (.ref 531) "__get__" = some (some (.builtin "member_descriptor.__get__"))) && (decide (PySem.W.takesIn K (.ref 531) = some true) && (decide (PySem.W.typeIn K (.ref 531) = some (.type "member_descriptor")) && (decide (PySem.W.slotIn K 531 529 = some 1) && (decide (PySem.W.findIn K (.ref 529) "own_size" = some (some (.ref 532))) && (decide (PySem.W.specialIn K (.ref 532) "__get__" = some (some (.builtin "member_descriptor.__get__"))) && (decide (PySem.W.takesIn K (.ref 532) = some true) && (decide (PySem.W.typeIn K (.ref 532) = some (.type "member_descriptor")) && (decide (PySem.W.slotIn K 532 529 = some 2) && (decide (PySem.W.findIn K (.ref 529) "rows" = some (some (.ref 533)))))))))))))))))))))))))))
theorem hdF18_ok {K : PySem.W.Frag} (h : hdF18 K = true) : (PySem.W.notFirst K 905 (.ref 529) = true) ∧ (PySem.W.notFirst K 905 (.ref 641) = true) ∧ (PySem.W.notFirst K 905 (.ref 795) = true) ∧ (PySem.W.notFirst K 905 (.ref 905) = true) ∧ (PySem.W.findIn K (.ref 401) "own_prime" = some (some (.ref 402))) ∧ (PySem.W.specialIn K (.ref 402) "__get__" = some (some (.builtin "member_descriptor.__get__"))) ∧ (PySem.W.takesIn K (.ref 402) = some true) ∧ (PySem.W.typeIn K (.ref 402) = some (.type "member_descriptor")) ∧ (PySem.W.slotIn K 402 401 = some 0) ∧ (PySem.W.findIn K (.ref 401) "row" = some (some (.ref 403))) ∧ (PySem.W.specialIn K (.ref 403) "__get__" = some (some (.builtin "member_descriptor.__get__"))) ∧ (PySem.W.takesIn K (.ref 403) = some true) ∧ (PySem.W.typeIn K (.ref 403) = some (.type "member_descriptor")) ∧ (PySem.W.slotIn K 403 401 = some 1) ∧ (PySem.W.findIn K (.ref 529) "own_prime" = some (some (.ref 531))) ∧ (PySem.W.specialIn K (.ref 531) "__get__" = some (some (.builtin "member_descriptor.__get__"))) ∧ (PySem.W.takesIn K (.ref 531) = some true) ∧ (PySem.W.typeIn K (.ref 531) = some (.type "member_descriptor")) ∧ (PySem.W.slotIn K 531 529 = some 1) ∧ (PySem.W.findIn K (.ref 529) "own_size" = some (some (.ref 532))) ∧ (PySem.W.specialIn K (.ref 532) "__get__" = some (some (.builtin "member_descriptor.__get__"))) ∧ (PySem.W.takesIn K (.ref 532) = some true) ∧ (PySem.W.typeIn K (.ref 532) = some (.type "member_descriptor")) ∧ (PySem.W.slotIn K 532 529 = some 2) ∧ (PySem.W.findIn K (.ref 529) "rows" = some (some (.ref 533))) := by
  simpa only [hdF18, Bool.and_eq_true, decide_eq_true_eq] using h
def hdF19 (K : PySem.W.Frag) : Bool := decide (PySem.W.specialIn K (.ref 533) "__get__" = some (some (.builtin "member_descriptor.__get__"))) && (decide (PySem.W.takesIn K (.ref 533) = some true) && (decide (PySem.W.typeIn K (.ref 533) = some (.type "member_descriptor")) && (decide (PySem.W.slotIn K 533 529 = some 3) && (decide (PySem.W.findIn K (.ref 641) "own_pieces" = some (some (.ref 642))) && (decide (PySem.W.specialIn K (.ref 642) "__get__" = some (some (.builtin "member_descriptor.__get__"))) && (decide (PySem.W.takesIn K (.ref 642) = some true) && (decide (PySem.W.typeIn K (.ref 642) = some (.type "member_descriptor")) && (decide (PySem.W.slotIn K 642 641 = some 0) && (decide (PySem.W.findIn K (.ref 795) "own_pieces" = some (some (.ref 796))) && (decide (PySem.W.specialIn K (.ref 796) "__get__" = some (some (.builtin "member_descriptor.__get__"))) && (decide (PySem.W.takesIn K (.ref 796) = some true) && (decide (PySem.W.typeIn K (.ref 796) = some (.type "member_descriptor")) && (decide (PySem.W.slotIn K 796 795 = some 0) && (decide (PySem.W.findIn K (.ref 795) "own_prime" = some (some (.ref 797))) && (decide (PySem.W.specialIn K (.ref 797) "__get__" = some (some (.builtin "member_descriptor.__get__"))) && (decide (PySem.W.takesIn K (.ref 797) = some true) && (decide (PySem.W.typeIn K (.ref 797) = some (.type "member_descriptor")) && (decide (PySem.W.slotIn K 797 795 = some 1) && (decide (PySem.W.findIn K (.ref 795) "own_size" = some (some (.ref 798))) && (decide (PySem.W.specialIn K (.ref 798) "__get__" = some (some (.builtin "member_descriptor.__get__"))) && (decide (PySem.W.takesIn K (.ref 798) = some true) && (decide (PySem.W.typeIn K (.ref 798) = some (.type "member_descriptor")) && (decide (PySem.W.slotIn K 798 795 = some 2) && (decide (PySem.W.findIn K (.ref 795) "own_spots" = some (some (.ref 799)))))))))))))))))))))))))))
theorem hdF19_ok {K : PySem.W.Frag} (h : hdF19 K = true) : (PySem.W.specialIn K (.ref 533) "__get__" = some (some (.builtin "member_descriptor.__get__"))) ∧ (PySem.W.takesIn K (.ref 533) = some true) ∧ (PySem.W.typeIn K (.ref 533) = some (.type "member_descriptor")) ∧ (PySem.W.slotIn K 533 529 = some 3) ∧ (PySem.W.findIn K (.ref 641) "own_pieces" = some (some (.ref 642))) ∧ (PySem.W.specialIn K (.ref 642) "__get__" = some (some (.builtin "member_descriptor.__get__"))) ∧ (PySem.W.takesIn K (.ref 642) = some true) ∧ (PySem.W.typeIn K (.ref 642) = some (.type "member_descriptor")) ∧ (PySem.W.slotIn K 642 641 = some 0) ∧ (PySem.W.findIn K (.ref 795) "own_pieces" = some (some (.ref 796))) ∧ (PySem.W.specialIn K (.ref 796) "__get__" = some (some (.builtin "member_descriptor.__get__"))) ∧ (PySem.W.takesIn K (.ref 796) = some true) ∧ (PySem.W.typeIn K (.ref 796) = some (.type "member_descriptor")) ∧ (PySem.W.slotIn K 796 795 = some 0) ∧ (PySem.W.findIn K (.ref 795) "own_prime" = some (some (.ref 797))) ∧ (PySem.W.specialIn K (.ref 797) "__get__" = some (some (.builtin "member_descriptor.__get__"))) ∧ (PySem.W.takesIn K (.ref 797) = some true) ∧ (PySem.W.typeIn K (.ref 797) = some (.type "member_descriptor")) ∧ (PySem.W.slotIn K 797 795 = some 1) ∧ (PySem.W.findIn K (.ref 795) "own_size" = some (some (.ref 798))) ∧ (PySem.W.specialIn K (.ref 798) "__get__" = some (some (.builtin "member_descriptor.__get__"))) ∧ (PySem.W.takesIn K (.ref 798) = some true) ∧ (PySem.W.typeIn K (.ref 798) = some (.type "member_descriptor")) ∧ (PySem.W.slotIn K 798 795 = some 2) ∧ (PySem.W.findIn K (.ref 795) "own_spots" = some (some (.ref 799))) := by
  simpa only [hdF19, Bool.and_eq_true, decide_eq_true_eq] using h
def hdF20 (K : PySem.W.Frag) : Bool := decide (PySem.W.specialIn K (.ref 799) "__get__" = some (some (.builtin "member_descriptor.__get__"))) && (decide (PySem.W.takesIn K (.ref 799) = some true) && (decide (PySem.W.typeIn K (.ref 799) = some (.type "member_descriptor")) && (decide (PySem.W.slotIn K 799 795 = some 3) && (decide (PySem.W.findIn K (.ref 905) "open_prices" = some (some (.ref 906))) && (decide (PySem.W.specialIn K (.ref 906) "__get__" = some (some (.builtin "member_descriptor.__get__"))) && (decide (PySem.W.takesIn K (.ref 906) = some true) && (decide (PySem.W.typeIn K (.ref 906) = some (.type "member_descriptor")) && (decide (PySem.W.slotIn K 906 905 = some 0) && (decide (PySem.W.findIn K (.ref 905) "part_prices" = some (some (.ref 907))) && (decide (PySem.W.specialIn K (.ref 907) "__get__" = some (some (.builtin "member_descriptor.__get__"))) && (decide (PySem.W.takesIn K (.ref 907) = some true) && (decide (PySem.W.typeIn K (.ref 907) = some (.type "member_descriptor")) && (decide (PySem.W.slotIn K 907 905 = some 1) && (decide (PySem.W.findIn K (.ref 905) "whole_prices" = some (some (.ref 908))) && (decide (PySem.W.specialIn K (.ref 908) "__get__" = some (some (.builtin "member_descriptor.__get__"))) && (decide (PySem.W.takesIn K (.ref 908) = some true) && (decide (PySem.W.typeIn K (.ref 908) = some (.type "member_descriptor")) && (decide (PySem.W.slotIn K 908 905 = some 2) && (decide (PySem.W.nsIn K mainGlobals "all" = some none) && (decide (PySem.W.nsIn K mainGlobals "any" = some none) && (decide (PySem.W.nsIn K mainGlobals "bool" = some none) && (decide (PySem.W.nsIn K mainGlobals "enumerate" = some none) && (decide (PySem.W.nsIn K mainGlobals "int" = some none) && (decide (PySem.W.nsIn K mainGlobals "isinstance" = some none)))))))))))))))))))))))))
theorem hdF20_ok {K : PySem.W.Frag} (h : hdF20 K = true) : (PySem.W.specialIn K (.ref 799) "__get__" = some (some (.builtin "member_descriptor.__get__"))) ∧ (PySem.W.takesIn K (.ref 799) = some true) ∧ (PySem.W.typeIn K (.ref 799) = some (.type "member_descriptor")) ∧ (PySem.W.slotIn K 799 795 = some 3) ∧ (PySem.W.findIn K (.ref 905) "open_prices" = some (some (.ref 906))) ∧ (PySem.W.specialIn K (.ref 906) "__get__" = some (some (.builtin "member_descriptor.__get__"))) ∧ (PySem.W.takesIn K (.ref 906) = some true) ∧ (PySem.W.typeIn K (.ref 906) = some (.type "member_descriptor")) ∧ (PySem.W.slotIn K 906 905 = some 0) ∧ (PySem.W.findIn K (.ref 905) "part_prices" = some (some (.ref 907))) ∧ (PySem.W.specialIn K (.ref 907) "__get__" = some (some (.builtin "member_descriptor.__get__"))) ∧ (PySem.W.takesIn K (.ref 907) = some true) ∧ (PySem.W.typeIn K (.ref 907) = some (.type "member_descriptor")) ∧ (PySem.W.slotIn K 907 905 = some 1) ∧ (PySem.W.findIn K (.ref 905) "whole_prices" = some (some (.ref 908))) ∧ (PySem.W.specialIn K (.ref 908) "__get__" = some (some (.builtin "member_descriptor.__get__"))) ∧ (PySem.W.takesIn K (.ref 908) = some true) ∧ (PySem.W.typeIn K (.ref 908) = some (.type "member_descriptor")) ∧ (PySem.W.slotIn K 908 905 = some 2) ∧ (PySem.W.nsIn K mainGlobals "all" = some none) ∧ (PySem.W.nsIn K mainGlobals "any" = some none) ∧ (PySem.W.nsIn K mainGlobals "bool" = some none) ∧ (PySem.W.nsIn K mainGlobals "enumerate" = some none) ∧ (PySem.W.nsIn K mainGlobals "int" = some none) ∧ (PySem.W.nsIn K mainGlobals "isinstance" = some none) := by
  simpa only [hdF20, Bool.and_eq_true, decide_eq_true_eq] using h
def hdF21 (K : PySem.W.Frag) : Bool := decide (PySem.W.nsIn K mainGlobals "len" = some none) && (decide (PySem.W.nsIn K mainGlobals "list" = some none) && (decide (PySem.W.nsIn K mainGlobals "max" = some none) && (decide (PySem.W.nsIn K mainGlobals "min" = some none) && (decide (PySem.W.nsIn K mainGlobals "range" = some none) && (decide (PySem.W.nsIn K mainGlobals "sorted" = some none) && (decide (PySem.W.nsIn K mainGlobals "sum" = some none) && (decide (PySem.W.nsIn K mainGlobals "tuple" = some none) && (decide (PySem.W.nsIn K mainGlobals "zip" = some none)))))))))
theorem hdF21_ok {K : PySem.W.Frag} (h : hdF21 K = true) : (PySem.W.nsIn K mainGlobals "len" = some none) ∧ (PySem.W.nsIn K mainGlobals "list" = some none) ∧ (PySem.W.nsIn K mainGlobals "max" = some none) ∧ (PySem.W.nsIn K mainGlobals "min" = some none) ∧ (PySem.W.nsIn K mainGlobals "range" = some none) ∧ (PySem.W.nsIn K mainGlobals "sorted" = some none) ∧ (PySem.W.nsIn K mainGlobals "sum" = some none) ∧ (PySem.W.nsIn K mainGlobals "tuple" = some none) ∧ (PySem.W.nsIn K mainGlobals "zip" = some none) := by
  simpa only [hdF21, Bool.and_eq_true, decide_eq_true_eq] using h
def hdOk (K : PySem.W.Frag) : Bool := K.all (fun p => !tab0 p.2) && (hdF0 K && (hdF1 K && (hdF2 K && (hdF3 K && (hdF4 K && (hdF5 K && (hdF6 K && (hdF7 K && (hdF8 K && (hdF9 K && (hdF10 K && (hdF11 K && (hdF12 K && (hdF13 K && (hdF14 K && (hdF15 K && (hdF16 K && (hdF17 K && (hdF18 K && (hdF19 K && (hdF20 K && (hdF21 K))))))))))))))))))))))
def hdL : List Addr := [917, 924, 931, 953, 946, 958, 995, 652, 265, 808, 813, 826, 833, 841, 849, 901, 737, 609, 487, 397, 963, 968, 967, 870, 875, 882, 887, 1000, 894, 1005, 272, 279, 257, 286, 291, 657, 670, 693, 567, 863, 677, 434, 323, 630, 1015, 1020, 92, 91, 80, 113, 112, 101, 155, 154, 143, 176, 175, 164, 258]
def hdV0 : Option Obj := some ⟨(PySem.Value.type "function"), (Option.none), .func (PySem.W.fnOf "_law_source" "_law_source" (defArgs s_source) (defBody s_source) (defScope s_source) .none (PySem.Value.none) (PySem.Value.none) (PySem.Value.str (PySem.Str.ofString "law_leastreads_k13_prices_of_reads") 1330) (Option.none) (PySem.Value.ref 916) (PySem.Value.none)), (#[])⟩
def hdV1 : Option Obj := some ⟨(PySem.Value.type "function"), (Option.none), .func (PySem.W.fnOf "_law_draw" "_law_draw" (defArgs s_draw) (defBody s_draw) (defScope s_draw) .none (PySem.Value.none) (PySem.Value.none) (PySem.Value.str (PySem.Str.ofString "law_leastreads_k13_prices_of_reads") 1330) (Option.none) (PySem.Value.ref 923) (PySem.Value.none)), (#[])⟩
def hdV2 : Option Obj := some ⟨(PySem.Value.type "function"), (Option.none), .func (PySem.W.fnOf "_law_pick" "_law_pick" (defArgs s_pick) (defBody s_pick) (defScope s_pick) .none (PySem.Value.none) (PySem.Value.none) (PySem.Value.str (PySem.Str.ofString "law_leastreads_k13_prices_of_reads") 1330) (Option.none) (PySem.Value.ref 930) (PySem.Value.none)), (#[])⟩
def hdV3 : Option Obj := some ⟨(PySem.Value.type "function"), (Option.none), .func (PySem.W.fnOf "_law_form" "_law_form" (defArgs s_form) (defBody s_form) (defScope s_form) .none (PySem.Value.none) (PySem.Value.none) (PySem.Value.str (PySem.Str.ofString "law_leastreads_k13_prices_of_reads") 1330) (Option.none) (PySem.Value.ref 952) (PySem.Value.none)), (#[])⟩
def hdV4 : Option Obj := some ⟨(PySem.Value.type "function"), (Option.none), .func (PySem.W.fnOf "_law_factors" "_law_factors" (defArgs s_factors) (defBody s_factors) (defScope s_factors) .none (PySem.Value.none) (PySem.Value.none) (PySem.Value.str (PySem.Str.ofString "law_leastreads_k13_prices_of_reads") 1330) (Option.none) (PySem.Value.ref 945) (PySem.Value.none)), (#[])⟩
def hdV5 : Option Obj := some ⟨(PySem.Value.type "function"), (Option.none), .func (PySem.W.fnOf "_law_pieces" "_law_pieces" (defArgs s_pieces) (defBody s_pieces) (defScope s_pieces) .none (PySem.Value.none) (PySem.Value.none) (PySem.Value.str (PySem.Str.ofString "law_leastreads_k13_prices_of_reads") 1330) (Option.none) (PySem.Value.ref 957) (PySem.Value.none)), (#[])⟩
def hdV6 : Option Obj := some ⟨(PySem.Value.type "function"), (Option.none), .func (PySem.W.fnOf "_law_prices" "_law_prices" (defArgs s_prices) (defBody s_prices) (defScope s_prices) .none (PySem.Value.none) (PySem.Value.none) (PySem.Value.str (PySem.Str.ofString "law_leastreads_k13_prices_of_reads") 1330) (Option.none) (PySem.Value.ref 994) (PySem.Value.none)), (#[])⟩
def hdV7 : Option Obj := some ⟨(PySem.Value.type "function"), (Option.none), .func (PySem.W.fnOf "is_row" "is_row" (defArgs s_is_row) (defBody s_is_row) (defScope s_is_row) .none (PySem.Value.none) (PySem.Value.none) (PySem.Value.str (PySem.Str.ofString "leastreads.tables") 993) (Option.none) (PySem.Value.ref 651) (PySem.Value.none)), (#[])⟩
def hdV8 : Option Obj := some ⟨(PySem.Value.type "function"), (Option.none), .func (PySem.W.fnOf "is_between" "is_between" (defArgs s_is_between) (defBody s_is_between) (defScope s_is_between) .none (PySem.Value.none) (PySem.Value.none) (PySem.Value.str (PySem.Str.ofString "leastreads.sums") 504) (Option.none) (PySem.Value.ref 264) (PySem.Value.none)), (#[])⟩
def hdV9 : Option Obj := some ⟨(PySem.Value.type "function"), (Option.none), .func (PySem.W.fnOf "is_price" "is_price" (defArgs s_is_price) (defBody s_is_price) (defScope s_is_price) .none (PySem.Value.none) (PySem.Value.none) (PySem.Value.str (PySem.Str.ofString "leastreads.costs") 1186) (Option.none) (PySem.Value.ref 807) (PySem.Value.none)), (#[])⟩
def hdV10 : Option Obj := some ⟨(PySem.Value.type "function"), (Option.none), .func (PySem.W.fnOf "is_prices" "is_prices" (defArgs s_is_prices) (defBody s_is_prices) (defScope s_is_prices) .none (PySem.Value.none) (PySem.Value.none) (PySem.Value.str (PySem.Str.ofString "leastreads.costs") 1186) (Option.none) (PySem.Value.ref 812) (PySem.Value.none)), (#[])⟩
def hdV11 : Option Obj := some ⟨(PySem.Value.type "function"), (Option.none), .func (PySem.W.fnOf "__init__" "Prices.__init__" (defArgs s_Prices_init) (defBody s_Prices_init) (defScope s_Prices_init) .none (PySem.Value.none) (PySem.Value.none) (PySem.Value.str (PySem.Str.ofString "leastreads.costs") 1186) (Option.none) (PySem.Value.ref 825) (PySem.Value.none)), (#[])⟩
def hdV12 : Option Obj := some ⟨(PySem.Value.type "function"), (Option.none), .func (PySem.W.fnOf "parts" "Prices.parts" (defArgs s_Prices_parts) (defBody s_Prices_parts) (defScope s_Prices_parts) .none (PySem.Value.none) (PySem.Value.none) (PySem.Value.str (PySem.Str.ofString "leastreads.costs") 1186) (Option.none) (PySem.Value.ref 832) (PySem.Value.none)), (#[])⟩
def hdV13 : Option Obj := some ⟨(PySem.Value.type "function"), (Option.none), .func (PySem.W.fnOf "wholes" "Prices.wholes" (defArgs s_Prices_wholes) (defBody s_Prices_wholes) (defScope s_Prices_wholes) .none (PySem.Value.none) (PySem.Value.none) (PySem.Value.str (PySem.Str.ofString "leastreads.costs") 1186) (Option.none) (PySem.Value.ref 840) (PySem.Value.none)), (#[])⟩
def hdV14 : Option Obj := some ⟨(PySem.Value.type "function"), (Option.none), .func (PySem.W.fnOf "opens" "Prices.opens" (defArgs s_Prices_opens) (defBody s_Prices_opens) (defScope s_Prices_opens) .none (PySem.Value.none) (PySem.Value.none) (PySem.Value.str (PySem.Str.ofString "leastreads.costs") 1186) (Option.none) (PySem.Value.ref 848) (PySem.Value.none)), (#[])⟩
def hdV15 : Option Obj := some ⟨(PySem.Value.type "function"), (Option.none), .func (PySem.W.fnOf "__eq__" "Prices.__eq__" (defArgs s_Prices_eq) (defBody s_Prices_eq) (defScope s_Prices_eq) .none (PySem.Value.none) (PySem.Value.none) (PySem.Value.str (PySem.Str.ofString "leastreads.costs") 1186) (Option.none) (PySem.Value.ref 900) (PySem.Value.none)), (#[])⟩
def hdV16 : Option Obj := some ⟨(PySem.Value.type "function"), (Option.none), .func (PySem.W.fnOf "__eq__" "Table.__eq__" (defArgs s_Table_eq) (defBody s_Table_eq) (defScope s_Table_eq) .none (PySem.Value.none) (PySem.Value.none) (PySem.Value.str (PySem.Str.ofString "leastreads.tables") 993) (Option.none) (PySem.Value.ref 736) (PySem.Value.none)), (#[])⟩
def hdV17 : Option Obj := some ⟨(PySem.Value.type "function"), (Option.none), .func (PySem.W.fnOf "__eq__" "Stored.__eq__" (defArgs s_Stored_eq) (defBody s_Stored_eq) (defScope s_Stored_eq) .none (PySem.Value.none) (PySem.Value.none) (PySem.Value.str (PySem.Str.ofString "leastreads.stored") 850) (Option.none) (PySem.Value.ref 608) (PySem.Value.none)), (#[])⟩
def hdV18 : Option Obj := some ⟨(PySem.Value.type "function"), (Option.none), .func (PySem.W.fnOf "__eq__" "Space.__eq__" (defArgs s_Space_eq) (defBody s_Space_eq) (defScope s_Space_eq) .none (PySem.Value.none) (PySem.Value.none) (PySem.Value.str (PySem.Str.ofString "leastreads.spaces") 703) (Option.none) (PySem.Value.ref 486) (PySem.Value.none)), (#[])⟩
def hdV19 : Option Obj := some ⟨(PySem.Value.type "function"), (Option.none), .func (PySem.W.fnOf "__eq__" "Sum.__eq__" (defArgs s_Sum_eq) (defBody s_Sum_eq) (defScope s_Sum_eq) .none (PySem.Value.none) (PySem.Value.none) (PySem.Value.str (PySem.Str.ofString "leastreads.sums") 504) (Option.none) (PySem.Value.ref 396) (PySem.Value.none)), (#[])⟩
def hdV20 : Option Obj := some ⟨(PySem.Value.type "function"), (Option.none), .func (PySem.W.fnOf "_law_spots" "_law_spots" (defArgs s_spots) (defBody s_spots) (defScope s_spots) .none (PySem.Value.none) (PySem.Value.none) (PySem.Value.str (PySem.Str.ofString "law_leastreads_k13_prices_of_reads") 1330) (Option.none) (PySem.Value.ref 962) (PySem.Value.none)), (#[])⟩
def hdV21 : Option Obj := some ⟨(PySem.Value.type "function"), (Option.none), .func (PySem.W.fnOf "_law_sets" "_law_sets" (defArgs s_sets) (defBody s_sets) (defScope s_sets) .none (PySem.Value.none) (PySem.Value.none) (PySem.Value.str (PySem.Str.ofString "law_leastreads_k13_prices_of_reads") 1330) (Option.none) (.ref 967) (PySem.Value.none)), (#[])⟩
def hdV22 : Option Obj := some ⟨(PySem.Value.type "code"), (Option.none), .fields (#[PySem.Value.str (PySem.Str.ofString "_law_sets") 1397, PySem.Value.str (PySem.Str.ofString "_law_sets") 1398, PySem.Value.str (PySem.Str.ofString "/claim/cut.py") 1399, PySem.Value.int 524 0, PySem.Value.int 1 0, PySem.Value.int 0 0, PySem.Value.int 0 0, PySem.Value.int 3 0, PySem.Value.ref 964, PySem.Value.bool Bool.true, PySem.Value.int 181 0, PySem.Value.ref 965, PySem.Value.none, PySem.Value.none, PySem.Value.none, PySem.Value.ref 966, PySem.Value.int 1400 0, PySem.Value.int 524 0, PySem.Value.str (PySem.Str.ofString "/claim/cut.py") 1401]), (#[])⟩
def hdV23 : Option Obj := some ⟨(PySem.Value.type "function"), (Option.none), .func (PySem.W.fnOf "has_price" "Prices.has_price" (defArgs s_Prices_has_price) (defBody s_Prices_has_price) (defScope s_Prices_has_price) .none (PySem.Value.none) (PySem.Value.none) (PySem.Value.str (PySem.Str.ofString "leastreads.costs") 1186) (Option.none) (PySem.Value.ref 869) (PySem.Value.none)), (#[])⟩
def hdV24 : Option Obj := some ⟨(PySem.Value.type "function"), (Option.none), .func (PySem.W.fnOf "require" "Prices.require" (defArgs s_Prices_require) (defBody s_Prices_require) (defScope s_Prices_require) .none (PySem.Value.none) (PySem.Value.none) (PySem.Value.str (PySem.Str.ofString "leastreads.costs") 1186) (Option.none) (PySem.Value.ref 874) (PySem.Value.none)), (#[])⟩
def hdV25 : Option Obj := some ⟨(PySem.Value.type "function"), (Option.none), .func (PySem.W.fnOf "bill" "Prices.bill" (defArgs s_Prices_bill) (defBody s_Prices_bill) (defScope s_Prices_bill) .none (PySem.Value.none) (PySem.Value.none) (PySem.Value.str (PySem.Str.ofString "leastreads.costs") 1186) (Option.none) (PySem.Value.ref 881) (PySem.Value.none)), (#[])⟩
def hdV26 : Option Obj := some ⟨(PySem.Value.type "function"), (Option.none), .func (PySem.W.fnOf "__call__" "Prices.__call__" (defArgs s_Prices_call) (defBody s_Prices_call) (defScope s_Prices_call) .none (PySem.Value.none) (PySem.Value.none) (PySem.Value.str (PySem.Str.ofString "leastreads.costs") 1186) (Option.none) (PySem.Value.ref 886) (PySem.Value.none)), (#[])⟩
def hdV27 : Option Obj := some ⟨(PySem.Value.type "function"), (Option.none), .func (PySem.W.fnOf "_law_cost" "_law_cost" (defArgs s_cost) (defBody s_cost) (defScope s_cost) .none (PySem.Value.none) (PySem.Value.none) (PySem.Value.str (PySem.Str.ofString "law_leastreads_k13_prices_of_reads") 1330) (Option.none) (PySem.Value.ref 999) (PySem.Value.none)), (#[])⟩
def hdV28 : Option Obj := some ⟨(PySem.Value.type "function"), (Option.none), .func (PySem.W.fnOf "paid" "Prices.paid" (defArgs s_Prices_paid) (defBody s_Prices_paid) (defScope s_Prices_paid) .none (PySem.Value.none) (PySem.Value.none) (PySem.Value.str (PySem.Str.ofString "leastreads.costs") 1186) (Option.none) (PySem.Value.ref 893) (PySem.Value.none)), (#[])⟩
def hdV29 : Option Obj := some ⟨(PySem.Value.type "function"), (Option.none), .func (PySem.W.fnOf "_law_paid" "_law_paid" (defArgs s_paid) (defBody s_paid) (defScope s_paid) .none (PySem.Value.none) (PySem.Value.none) (PySem.Value.str (PySem.Str.ofString "law_leastreads_k13_prices_of_reads") 1330) (Option.none) (PySem.Value.ref 1004) (PySem.Value.none)), (#[])⟩
def hdV30 : Option Obj := some ⟨(PySem.Value.type "function"), (Option.none), .func (PySem.W.fnOf "is_integer" "is_integer" (defArgs s_is_integer) (defBody s_is_integer) (defScope s_is_integer) .none (PySem.Value.none) (PySem.Value.none) (PySem.Value.str (PySem.Str.ofString "leastreads.sums") 504) (Option.none) (PySem.Value.ref 271) (PySem.Value.none)), (#[])⟩
def hdV31 : Option Obj := some ⟨(PySem.Value.type "function"), (Option.none), .func (PySem.W.fnOf "is_prime" "is_prime" (defArgs s_is_prime) (defBody s_is_prime) (defScope s_is_prime) .none (PySem.Value.none) (PySem.Value.none) (PySem.Value.str (PySem.Str.ofString "leastreads.sums") 504) (Option.none) (PySem.Value.ref 278) (PySem.Value.none)), (#[])⟩
def hdV32 : Option Obj := some ⟨(PySem.Value.type "function"), (Option.none), .func (PySem.W.fnOf "power" "power" (defArgs s_power) (defBody s_power) (defScope s_power) .none (PySem.Value.none) (PySem.Value.none) (PySem.Value.str (PySem.Str.ofString "leastreads.rows") 432) (Option.none) (PySem.Value.ref 256) (PySem.Value.none)), (#[])⟩
def hdV33 : Option Obj := some ⟨(PySem.Value.type "function"), (Option.none), .func (PySem.W.fnOf "is_size" "is_size" (defArgs s_is_size) (defBody s_is_size) (defScope s_is_size) .none (PySem.Value.none) (PySem.Value.none) (PySem.Value.str (PySem.Str.ofString "leastreads.sums") 504) (Option.none) (PySem.Value.ref 285) (PySem.Value.none)), (#[])⟩
def hdV34 : Option Obj := some ⟨(PySem.Value.type "function"), (Option.none), .func (PySem.W.fnOf "is_data" "is_data" (defArgs s_is_data) (defBody s_is_data) (defScope s_is_data) .none (PySem.Value.none) (PySem.Value.none) (PySem.Value.str (PySem.Str.ofString "leastreads.sums") 504) (Option.none) (PySem.Value.ref 290) (PySem.Value.none)), (#[])⟩
def hdV35 : Option Obj := some ⟨(PySem.Value.type "function"), (Option.none), .func (PySem.W.fnOf "require_pieces" "require_pieces" (defArgs s_require_pieces) (defBody s_require_pieces) (defScope s_require_pieces) .none (PySem.Value.none) (PySem.Value.none) (PySem.Value.str (PySem.Str.ofString "leastreads.tables") 993) (Option.none) (PySem.Value.ref 656) (PySem.Value.none)), (#[])⟩
def hdV36 : Option Obj := some ⟨(PySem.Value.type "function"), (Option.none), .func (PySem.W.fnOf "__init__" "Table.__init__" (defArgs s_Table_init) (defBody s_Table_init) (defScope s_Table_init) .none (PySem.Value.none) (PySem.Value.none) (PySem.Value.str (PySem.Str.ofString "leastreads.tables") 993) (Option.none) (PySem.Value.ref 669) (PySem.Value.none)), (#[])⟩
def hdV37 : Option Obj := some ⟨(PySem.Value.type "function"), (Option.none), .func (PySem.W.fnOf "pieces" "Table.pieces" (defArgs s_Table_pieces) (defBody s_Table_pieces) (defScope s_Table_pieces) .none (PySem.Value.none) (PySem.Value.none) (PySem.Value.str (PySem.Str.ofString "leastreads.tables") 993) (Option.none) (PySem.Value.ref 692) (PySem.Value.none)), (#[])⟩
def hdV38 : Option Obj := some ⟨(PySem.Value.type "function"), (Option.none), .func (PySem.W.fnOf "pieces" "Stored.pieces" (defArgs s_Stored_pieces) (defBody s_Stored_pieces) (defScope s_Stored_pieces) .none (PySem.Value.none) (PySem.Value.none) (PySem.Value.str (PySem.Str.ofString "leastreads.stored") 850) (Option.none) (PySem.Value.ref 566) (PySem.Value.none)), (#[])⟩
def hdV39 : Option Obj := some ⟨(PySem.Value.type "function"), (Option.none), .func (PySem.W.fnOf "fits" "Prices.fits" (defArgs s_Prices_fits) (defBody s_Prices_fits) (defScope s_Prices_fits) .none (PySem.Value.none) (PySem.Value.none) (PySem.Value.str (PySem.Str.ofString "leastreads.costs") 1186) (Option.none) (PySem.Value.ref 862) (PySem.Value.none)), (#[])⟩
def hdV40 : Option Obj := some ⟨(PySem.Value.type "function"), (Option.none), .func (PySem.W.fnOf "prime" "Table.prime" (defArgs s_Table_prime) (defBody s_Table_prime) (defScope s_Table_prime) .none (PySem.Value.none) (PySem.Value.none) (PySem.Value.str (PySem.Str.ofString "leastreads.tables") 993) (Option.none) (PySem.Value.ref 676) (PySem.Value.none)), (#[])⟩
def hdV41 : Option Obj := some ⟨(PySem.Value.type "function"), (Option.none), .func (PySem.W.fnOf "prime" "Space.prime" (defArgs s_Space_prime) (defBody s_Space_prime) (defScope s_Space_prime) .none (PySem.Value.none) (PySem.Value.none) (PySem.Value.str (PySem.Str.ofString "leastreads.spaces") 703) (Option.none) (PySem.Value.ref 433) (PySem.Value.none)), (#[])⟩
def hdV42 : Option Obj := some ⟨(PySem.Value.type "function"), (Option.none), .func (PySem.W.fnOf "prime" "Sum.prime" (defArgs s_Sum_prime) (defBody s_Sum_prime) (defScope s_Sum_prime) .none (PySem.Value.none) (PySem.Value.none) (PySem.Value.str (PySem.Str.ofString "leastreads.sums") 504) (Option.none) (PySem.Value.ref 322) (PySem.Value.none)), (#[])⟩
def hdV43 : Option Obj := some ⟨(PySem.Value.type "function"), (Option.none), .func (PySem.W.fnOf "fits" "Stored.fits" (defArgs s_Stored_fits) (defBody s_Stored_fits) (defScope s_Stored_fits) .none (PySem.Value.none) (PySem.Value.none) (PySem.Value.str (PySem.Str.ofString "leastreads.stored") 850) (Option.none) (PySem.Value.ref 629) (PySem.Value.none)), (#[])⟩
def hdV44 : Option Obj := some ⟨(PySem.Value.type "function"), (Option.none), .func (PySem.W.fnOf "_law_fits_right" "_law_fits_right" (defArgs s_fits_right) (defBody s_fits_right) (defScope s_fits_right) .none (PySem.Value.none) (PySem.Value.none) (PySem.Value.str (PySem.Str.ofString "law_leastreads_k13_prices_of_reads") 1330) (Option.none) (PySem.Value.ref 1014) (PySem.Value.none)), (#[])⟩
def hdV45 : Option Obj := some ⟨(PySem.Value.type "function"), (Option.none), .func (PySem.W.fnOf "law" "law" (defArgs s_law) (defBody s_law) (defScope s_law) .none (PySem.Value.none) (PySem.Value.none) (PySem.Value.str (PySem.Str.ofString "law_leastreads_k13_prices_of_reads") 1330) (Option.none) (PySem.Value.ref 1019) (PySem.Value.none)), (#[])⟩
def hdV46 : Option Obj := some ⟨(PySem.Value.type "function"), (Option.none), .func (PySem.W.ksFn "__init__" "InvalidSpots.__init__" (defArgs s_E8) (defBody s_E8) (defScope s_E8) .none (PySem.Value.none) (PySem.Value.none) (PySem.Value.str (PySem.Str.ofString "leastreads.errors") 194) (Option.none) (.ref 91) (PySem.Value.ref 85) 80), (#[])⟩
def hdV47 : Option Obj := some ⟨(PySem.Value.type "code"), (Option.none), .fields (#[PySem.Value.str (PySem.Str.ofString "__init__") 282, PySem.Value.str (PySem.Str.ofString "InvalidSpots.__init__") 283, PySem.Value.str (PySem.Str.ofString "/claim/cut.py") 284, PySem.Value.int 19 0, PySem.Value.int 2 0, PySem.Value.int 0 0, PySem.Value.int 0 0, PySem.Value.int 3 0, PySem.Value.ref 86, PySem.Value.bool Bool.true, PySem.Value.int 181 0, PySem.Value.ref 87, PySem.Value.none, PySem.Value.ref 88, PySem.Value.ref 89, PySem.Value.ref 90, PySem.Value.int 288 0, PySem.Value.int 19 0, PySem.Value.str (PySem.Str.ofString "/claim/cut.py") 289]), (#[])⟩
def hdV48 : Option Obj := some ⟨(PySem.Value.type "cell"), (Option.none), .cell (some (.ref 95)), (#[])⟩
def hdV49 : Option Obj := some ⟨(PySem.Value.type "function"), (Option.none), .func (PySem.W.ksFn "__init__" "InvalidCost.__init__" (defArgs s_E9) (defBody s_E9) (defScope s_E9) .none (PySem.Value.none) (PySem.Value.none) (PySem.Value.str (PySem.Str.ofString "leastreads.errors") 194) (Option.none) (.ref 112) (PySem.Value.ref 106) 101), (#[])⟩
def hdV50 : Option Obj := some ⟨(PySem.Value.type "code"), (Option.none), .fields (#[PySem.Value.str (PySem.Str.ofString "__init__") 309, PySem.Value.str (PySem.Str.ofString "InvalidCost.__init__") 310, PySem.Value.str (PySem.Str.ofString "/claim/cut.py") 311, PySem.Value.int 24 0, PySem.Value.int 2 0, PySem.Value.int 0 0, PySem.Value.int 0 0, PySem.Value.int 3 0, PySem.Value.ref 107, PySem.Value.bool Bool.true, PySem.Value.int 181 0, PySem.Value.ref 108, PySem.Value.none, PySem.Value.ref 109, PySem.Value.ref 110, PySem.Value.ref 111, PySem.Value.int 315 0, PySem.Value.int 24 0, PySem.Value.str (PySem.Str.ofString "/claim/cut.py") 316]), (#[])⟩
def hdV51 : Option Obj := some ⟨(PySem.Value.type "cell"), (Option.none), .cell (some (.ref 116)), (#[])⟩
def hdV52 : Option Obj := some ⟨(PySem.Value.type "function"), (Option.none), .func (PySem.W.ksFn "__init__" "InvalidNumber.__init__" (defArgs s_E11) (defBody s_E11) (defScope s_E11) .none (PySem.Value.none) (PySem.Value.none) (PySem.Value.str (PySem.Str.ofString "leastreads.errors") 194) (Option.none) (.ref 154) (PySem.Value.ref 148) 143), (#[])⟩
def hdV53 : Option Obj := some ⟨(PySem.Value.type "code"), (Option.none), .fields (#[PySem.Value.str (PySem.Str.ofString "__init__") 363, PySem.Value.str (PySem.Str.ofString "InvalidNumber.__init__") 364, PySem.Value.str (PySem.Str.ofString "/claim/cut.py") 365, PySem.Value.int 34 0, PySem.Value.int 2 0, PySem.Value.int 0 0, PySem.Value.int 0 0, PySem.Value.int 3 0, PySem.Value.ref 149, PySem.Value.bool Bool.true, PySem.Value.int 181 0, PySem.Value.ref 150, PySem.Value.none, PySem.Value.ref 151, PySem.Value.ref 152, PySem.Value.ref 153, PySem.Value.int 369 0, PySem.Value.int 34 0, PySem.Value.str (PySem.Str.ofString "/claim/cut.py") 370]), (#[])⟩
def hdV54 : Option Obj := some ⟨(PySem.Value.type "cell"), (Option.none), .cell (some (.ref 158)), (#[])⟩
def hdV55 : Option Obj := some ⟨(PySem.Value.type "function"), (Option.none), .func (PySem.W.ksFn "__init__" "InvalidTable.__init__" (defArgs s_E12) (defBody s_E12) (defScope s_E12) .none (PySem.Value.none) (PySem.Value.none) (PySem.Value.str (PySem.Str.ofString "leastreads.errors") 194) (Option.none) (.ref 175) (PySem.Value.ref 169) 164), (#[])⟩
def hdV56 : Option Obj := some ⟨(PySem.Value.type "code"), (Option.none), .fields (#[PySem.Value.str (PySem.Str.ofString "__init__") 390, PySem.Value.str (PySem.Str.ofString "InvalidTable.__init__") 391, PySem.Value.str (PySem.Str.ofString "/claim/cut.py") 392, PySem.Value.int 39 0, PySem.Value.int 2 0, PySem.Value.int 0 0, PySem.Value.int 0 0, PySem.Value.int 3 0, PySem.Value.ref 170, PySem.Value.bool Bool.true, PySem.Value.int 181 0, PySem.Value.ref 171, PySem.Value.none, PySem.Value.ref 172, PySem.Value.ref 173, PySem.Value.ref 174, PySem.Value.int 396 0, PySem.Value.int 39 0, PySem.Value.str (PySem.Str.ofString "/claim/cut.py") 397]), (#[])⟩
def hdV57 : Option Obj := some ⟨(PySem.Value.type "cell"), (Option.none), .cell (some (.ref 179)), (#[])⟩
def hdV58 : Option Obj := some ⟨.type "tuple", (Option.none), .seq (#[PySem.Value.int 2 506, PySem.Value.int 3 507, PySem.Value.int 5 508, PySem.Value.int 7 509]) 0, (#[])⟩
def hdV : List (Option Obj) := [hdV0, hdV1, hdV2, hdV3, hdV4, hdV5, hdV6, hdV7, hdV8, hdV9, hdV10, hdV11, hdV12, hdV13, hdV14, hdV15, hdV16, hdV17, hdV18, hdV19, hdV20, hdV21, hdV22, hdV23, hdV24, hdV25, hdV26, hdV27, hdV28, hdV29, hdV30, hdV31, hdV32, hdV33, hdV34, hdV35, hdV36, hdV37, hdV38, hdV39, hdV40, hdV41, hdV42, hdV43, hdV44, hdV45, hdV46, hdV47, hdV48, hdV49, hdV50, hdV51, hdV52, hdV53, hdV54, hdV55, hdV56, hdV57, hdV58]
abbrev hdH : PySem.W.Hook := hookE hdA hdOk hdL hdV
def hdO (s : PySem.W.SharedT) : Bool × List (Option Obj) := obsE hdA hdOk hdL (HandSHeadRun.getT s)
theorem hdO_eq (s : PySem.W.SharedT) : hdO s = hdH.obs s.abs := obsE_eq hdA hdOk hdL hdV s
set_option maxRecDepth 100000 in
set_option maxHeartbeats 0 in
theorem hdRun (w : World) : HandSHeadRun.RunEq hdR hdQ hdH hdO 17200 hdN w := by
  intro os
  kernel_rfl
end LW
open PySem PySem.W PySem.Calls PyProof.Rows in
set_option maxRecDepth 100000 in
set_option maxHeartbeats 0 in
theorem PySem.Challenge.cw_leastreads_k13_prices_of_reads_holds : PySem.Challenge.rw_leastreads_k13_prices_of_reads.Holds := by
  w_on; o_law
  refine HandSHeadRun.head_any (r := OpenLaw.row PySem.Challenge.rw_leastreads_k13_prices_of_reads) (q := LW.hdQ) (H := LW.hdH) (ob := LW.hdO) (M := 17200) (loose := LW.hdN) (d := HandSHeadRun.topDef (OpenLaw.row PySem.Challenge.rw_leastreads_k13_prices_of_reads).prog 70) (kwd := []) LW.hdO_eq (by kernel_rfl) (fun s => by kernel_rfl) LW.hdRun (by kernel_rfl) (by kernel_rfl) (by kernel_rfl) (by rfl) (by first | assumption | decide +kernel) (by decide +kernel) ⟨rfl, rfl, rfl, rfl, rfl, by decide +kernel⟩ ?hw ?hc
  case hw => w_witness2
  case hc =>
    refine DL.law_walkE (l := PySem.Challenge.rw_leastreads_k13_prices_of_reads) (lvl := 9) (OK := DL.OkE LW.hdOk LW.hdL LW.hdV) rfl (by decide +kernel) rfl ⟨rfl, by decide, by decide⟩ (fun w h Y => Y) ["_law_sets"] (by decide +kernel) (fun K c => (Bool.and_eq_true_iff.mp c.c).1) ?F
    intro w mg fa h K c KX G hmg0
    have hmg : mg ("law" : PySem.Str) = some (.ref fa) := by
      have e : (HandSHeadRun.topDef (OpenLaw.row PySem.Challenge.rw_leastreads_k13_prices_of_reads).prog 70).name = ("law" : PySem.Str) := by kernel_rfl
      rw [← e]
      exact hmg0
    have g := (Bool.and_eq_true_iff.mp c.c).2
    have e0 := LW.hdF0_ok (Bool.and_eq_true_iff.mp g).1
    replace g := (Bool.and_eq_true_iff.mp g).2
    have e1 := LW.hdF1_ok (Bool.and_eq_true_iff.mp g).1
    replace g := (Bool.and_eq_true_iff.mp g).2
    have e2 := LW.hdF2_ok (Bool.and_eq_true_iff.mp g).1
    replace g := (Bool.and_eq_true_iff.mp g).2
    have e3 := LW.hdF3_ok (Bool.and_eq_true_iff.mp g).1
    replace g := (Bool.and_eq_true_iff.mp g).2
    have e4 := LW.hdF4_ok (Bool.and_eq_true_iff.mp g).1
    replace g := (Bool.and_eq_true_iff.mp g).2
    have e5 := LW.hdF5_ok (Bool.and_eq_true_iff.mp g).1
    replace g := (Bool.and_eq_true_iff.mp g).2
    have e6 := LW.hdF6_ok (Bool.and_eq_true_iff.mp g).1
    replace g := (Bool.and_eq_true_iff.mp g).2
    have e7 := LW.hdF7_ok (Bool.and_eq_true_iff.mp g).1
    replace g := (Bool.and_eq_true_iff.mp g).2
    have e8 := LW.hdF8_ok (Bool.and_eq_true_iff.mp g).1
    replace g := (Bool.and_eq_true_iff.mp g).2
    have e9 := LW.hdF9_ok (Bool.and_eq_true_iff.mp g).1
    replace g := (Bool.and_eq_true_iff.mp g).2
    have e10 := LW.hdF10_ok (Bool.and_eq_true_iff.mp g).1
    replace g := (Bool.and_eq_true_iff.mp g).2
    have e11 := LW.hdF11_ok (Bool.and_eq_true_iff.mp g).1
    replace g := (Bool.and_eq_true_iff.mp g).2
    have e12 := LW.hdF12_ok (Bool.and_eq_true_iff.mp g).1
    replace g := (Bool.and_eq_true_iff.mp g).2
    have e13 := LW.hdF13_ok (Bool.and_eq_true_iff.mp g).1
    replace g := (Bool.and_eq_true_iff.mp g).2
    have e14 := LW.hdF14_ok (Bool.and_eq_true_iff.mp g).1
    replace g := (Bool.and_eq_true_iff.mp g).2
    have e15 := LW.hdF15_ok (Bool.and_eq_true_iff.mp g).1
    replace g := (Bool.and_eq_true_iff.mp g).2
    have e16 := LW.hdF16_ok (Bool.and_eq_true_iff.mp g).1
    replace g := (Bool.and_eq_true_iff.mp g).2
    have e17 := LW.hdF17_ok (Bool.and_eq_true_iff.mp g).1
    replace g := (Bool.and_eq_true_iff.mp g).2
    have e18 := LW.hdF18_ok (Bool.and_eq_true_iff.mp g).1
    replace g := (Bool.and_eq_true_iff.mp g).2
    have e19 := LW.hdF19_ok (Bool.and_eq_true_iff.mp g).1
    replace g := (Bool.and_eq_true_iff.mp g).2
    have e20 := LW.hdF20_ok (Bool.and_eq_true_iff.mp g).1
    replace g := (Bool.and_eq_true_iff.mp g).2
    have e21 := LW.hdF21_ok g
    exact LW.all_mk (l := PySem.Challenge.rw_leastreads_k13_prices_of_reads) KX G hmg e0.1 e0.2.1 e0.2.2.1 e0.2.2.2.1 e0.2.2.2.2.1 e0.2.2.2.2.2.1 (c.at_ 0 rfl rfl) e0.2.2.2.2.2.2.1 e0.2.2.2.2.2.2.2.1 e0.2.2.2.2.2.2.2.2.1 (c.at_ 1 rfl rfl) e0.2.2.2.2.2.2.2.2.2.1 e0.2.2.2.2.2.2.2.2.2.2.1 e0.2.2.2.2.2.2.2.2.2.2.2.1 (c.at_ 2 rfl rfl) e0.2.2.2.2.2.2.2.2.2.2.2.2.1 e0.2.2.2.2.2.2.2.2.2.2.2.2.2.1 e0.2.2.2.2.2.2.2.2.2.2.2.2.2.2.1 (c.at_ 3 rfl rfl) e0.2.2.2.2.2.2.2.2.2.2.2.2.2.2.2.1 e0.2.2.2.2.2.2.2.2.2.2.2.2.2.2.2.2.1 e0.2.2.2.2.2.2.2.2.2.2.2.2.2.2.2.2.2.1 (c.at_ 4 rfl rfl) e0.2.2.2.2.2.2.2.2.2.2.2.2.2.2.2.2.2.2.1 e0.2.2.2.2.2.2.2.2.2.2.2.2.2.2.2.2.2.2.2.1 e0.2.2.2.2.2.2.2.2.2.2.2.2.2.2.2.2.2.2.2.2.1 (c.at_ 5 rfl rfl) e0.2.2.2.2.2.2.2.2.2.2.2.2.2.2.2.2.2.2.2.2.2.1 e0.2.2.2.2.2.2.2.2.2.2.2.2.2.2.2.2.2.2.2.2.2.2.1 e0.2.2.2.2.2.2.2.2.2.2.2.2.2.2.2.2.2.2.2.2.2.2.2.1 (c.at_ 6 rfl rfl) e0.2.2.2.2.2.2.2.2.2.2.2.2.2.2.2.2.2.2.2.2.2.2.2.2 e1.1 e1.2.1 (c.at_ 7 rfl rfl) e1.2.2.1 e1.2.2.2.1 e1.2.2.2.2.1 (c.at_ 8 rfl rfl) e1.2.2.2.2.2.1 e1.2.2.2.2.2.2.1 e1.2.2.2.2.2.2.2.1 (c.at_ 9 rfl rfl) e1.2.2.2.2.2.2.2.2.1 e1.2.2.2.2.2.2.2.2.2.1 e1.2.2.2.2.2.2.2.2.2.2.1 (c.at_ 10 rfl rfl) e1.2.2.2.2.2.2.2.2.2.2.2.1 e1.2.2.2.2.2.2.2.2.2.2.2.2.1 e1.2.2.2.2.2.2.2.2.2.2.2.2.2.1 e1.2.2.2.2.2.2.2.2.2.2.2.2.2.2.1 (c.at_ 11 rfl rfl) e1.2.2.2.2.2.2.2.2.2.2.2.2.2.2.2.1 e1.2.2.2.2.2.2.2.2.2.2.2.2.2.2.2.2.1 e1.2.2.2.2.2.2.2.2.2.2.2.2.2.2.2.2.2.1 e1.2.2.2.2.2.2.2.2.2.2.2.2.2.2.2.2.2.2.1 e1.2.2.2.2.2.2.2.2.2.2.2.2.2.2.2.2.2.2.2.1 e1.2.2.2.2.2.2.2.2.2.2.2.2.2.2.2.2.2.2.2.2.1 (c.at_ 12 rfl rfl) e1.2.2.2.2.2.2.2.2.2.2.2.2.2.2.2.2.2.2.2.2.2.1 e1.2.2.2.2.2.2.2.2.2.2.2.2.2.2.2.2.2.2.2.2.2.2.1 e1.2.2.2.2.2.2.2.2.2.2.2.2.2.2.2.2.2.2.2.2.2.2.2.1 e1.2.2.2.2.2.2.2.2.2.2.2.2.2.2.2.2.2.2.2.2.2.2.2.2 e2.1 e2.2.1 (c.at_ 13 rfl rfl) e2.2.2.1 e2.2.2.2.1 e2.2.2.2.2.1 e2.2.2.2.2.2.1 e2.2.2.2.2.2.2.1 e2.2.2.2.2.2.2.2.1 (c.at_ 14 rfl rfl) e2.2.2.2.2.2.2.2.2.1 e2.2.2.2.2.2.2.2.2.2.1 e2.2.2.2.2.2.2.2.2.2.2.1 e2.2.2.2.2.2.2.2.2.2.2.2.1 (c.at_ 15 rfl rfl) e2.2.2.2.2.2.2.2.2.2.2.2.2.1 e2.2.2.2.2.2.2.2.2.2.2.2.2.2.1 e2.2.2.2.2.2.2.2.2.2.2.2.2.2.2.1 e2.2.2.2.2.2.2.2.2.2.2.2.2.2.2.2.1 (c.at_ 16 rfl rfl) e2.2.2.2.2.2.2.2.2.2.2.2.2.2.2.2.2.1 e2.2.2.2.2.2.2.2.2.2.2.2.2.2.2.2.2.2.1 e2.2.2.2.2.2.2.2.2.2.2.2.2.2.2.2.2.2.2.1 e2.2.2.2.2.2.2.2.2.2.2.2.2.2.2.2.2.2.2.2.1 (c.at_ 17 rfl rfl) e2.2.2.2.2.2.2.2.2.2.2.2.2.2.2.2.2.2.2.2.2.1 e2.2.2.2.2.2.2.2.2.2.2.2.2.2.2.2.2.2.2.2.2.2.1 e2.2.2.2.2.2.2.2.2.2.2.2.2.2.2.2.2.2.2.2.2.2.2.1 e2.2.2.2.2.2.2.2.2.2.2.2.2.2.2.2.2.2.2.2.2.2.2.2.1 (c.at_ 18 rfl rfl) e2.2.2.2.2.2.2.2.2.2.2.2.2.2.2.2.2.2.2.2.2.2.2.2.2 e3.1 e3.2.1 e3.2.2.1 (c.at_ 19 rfl rfl) e3.2.2.2.1 e3.2.2.2.2.1 e3.2.2.2.2.2.1 (c.at_ 20 rfl rfl) e3.2.2.2.2.2.2.1 e3.2.2.2.2.2.2.2.1 e3.2.2.2.2.2.2.2.2.1 (c.at_ 21 rfl rfl) e3.2.2.2.2.2.2.2.2.2.1 e3.2.2.2.2.2.2.2.2.2.2.1 (c.at_ 22 rfl rfl) (by rfl) e3.2.2.2.2.2.2.2.2.2.2.2.1 e3.2.2.2.2.2.2.2.2.2.2.2.2.1 (c.at_ 23 rfl rfl) e3.2.2.2.2.2.2.2.2.2.2.2.2.2.1 e3.2.2.2.2.2.2.2.2.2.2.2.2.2.2.1 e3.2.2.2.2.2.2.2.2.2.2.2.2.2.2.2.1 e3.2.2.2.2.2.2.2.2.2.2.2.2.2.2.2.2.1 (c.at_ 24 rfl rfl) e3.2.2.2.2.2.2.2.2.2.2.2.2.2.2.2.2.2.1 e3.2.2.2.2.2.2.2.2.2.2.2.2.2.2.2.2.2.2.1 e3.2.2.2.2.2.2.2.2.2.2.2.2.2.2.2.2.2.2.2.1 e3.2.2.2.2.2.2.2.2.2.2.2.2.2.2.2.2.2.2.2.2.1 (c.at_ 25 rfl rfl) e3.2.2.2.2.2.2.2.2.2.2.2.2.2.2.2.2.2.2.2.2.2.1 e3.2.2.2.2.2.2.2.2.2.2.2.2.2.2.2.2.2.2.2.2.2.2.1 e3.2.2.2.2.2.2.2.2.2.2.2.2.2.2.2.2.2.2.2.2.2.2.2.1 e3.2.2.2.2.2.2.2.2.2.2.2.2.2.2.2.2.2.2.2.2.2.2.2.2 (c.at_ 26 rfl rfl) e4.1 e4.2.1 e4.2.2.1 (c.at_ 27 rfl rfl) e4.2.2.2.1 e4.2.2.2.2.1 e4.2.2.2.2.2.1 e4.2.2.2.2.2.2.1 (c.at_ 28 rfl rfl) e4.2.2.2.2.2.2.2.1 e4.2.2.2.2.2.2.2.2.1 e4.2.2.2.2.2.2.2.2.2.1 (c.at_ 29 rfl rfl) e4.2.2.2.2.2.2.2.2.2.2.1 e4.2.2.2.2.2.2.2.2.2.2.2.1 e4.2.2.2.2.2.2.2.2.2.2.2.2.1 (c.at_ 30 rfl rfl) e4.2.2.2.2.2.2.2.2.2.2.2.2.2.1 e4.2.2.2.2.2.2.2.2.2.2.2.2.2.2.1 e4.2.2.2.2.2.2.2.2.2.2.2.2.2.2.2.1 (c.at_ 31 rfl rfl) e4.2.2.2.2.2.2.2.2.2.2.2.2.2.2.2.2.1 e4.2.2.2.2.2.2.2.2.2.2.2.2.2.2.2.2.2.1 e4.2.2.2.2.2.2.2.2.2.2.2.2.2.2.2.2.2.2.1 (c.at_ 32 rfl rfl) e4.2.2.2.2.2.2.2.2.2.2.2.2.2.2.2.2.2.2.2.1 e4.2.2.2.2.2.2.2.2.2.2.2.2.2.2.2.2.2.2.2.2.1 e4.2.2.2.2.2.2.2.2.2.2.2.2.2.2.2.2.2.2.2.2.2.1 (c.at_ 33 rfl rfl) e4.2.2.2.2.2.2.2.2.2.2.2.2.2.2.2.2.2.2.2.2.2.2.1 e4.2.2.2.2.2.2.2.2.2.2.2.2.2.2.2.2.2.2.2.2.2.2.2.1 e4.2.2.2.2.2.2.2.2.2.2.2.2.2.2.2.2.2.2.2.2.2.2.2.2 (c.at_ 34 rfl rfl) e5.1 e5.2.1 e5.2.2.1 (c.at_ 35 rfl rfl) e5.2.2.2.1 e5.2.2.2.2.1 e5.2.2.2.2.2.1 e5.2.2.2.2.2.2.1 (c.at_ 36 rfl rfl) e5.2.2.2.2.2.2.2.1 e5.2.2.2.2.2.2.2.2.1 e5.2.2.2.2.2.2.2.2.2.1 e5.2.2.2.2.2.2.2.2.2.2.1 e5.2.2.2.2.2.2.2.2.2.2.2.1 e5.2.2.2.2.2.2.2.2.2.2.2.2.1 (c.at_ 37 rfl rfl) e5.2.2.2.2.2.2.2.2.2.2.2.2.2.1 e5.2.2.2.2.2.2.2.2.2.2.2.2.2.2.1 e5.2.2.2.2.2.2.2.2.2.2.2.2.2.2.2.1 e5.2.2.2.2.2.2.2.2.2.2.2.2.2.2.2.2.1 e5.2.2.2.2.2.2.2.2.2.2.2.2.2.2.2.2.2.1 e5.2.2.2.2.2.2.2.2.2.2.2.2.2.2.2.2.2.2.1 (c.at_ 38 rfl rfl) e5.2.2.2.2.2.2.2.2.2.2.2.2.2.2.2.2.2.2.2.1 e5.2.2.2.2.2.2.2.2.2.2.2.2.2.2.2.2.2.2.2.2.1 e5.2.2.2.2.2.2.2.2.2.2.2.2.2.2.2.2.2.2.2.2.2.1 e5.2.2.2.2.2.2.2.2.2.2.2.2.2.2.2.2.2.2.2.2.2.2.1 (c.at_ 39 rfl rfl) e5.2.2.2.2.2.2.2.2.2.2.2.2.2.2.2.2.2.2.2.2.2.2.2.1 e5.2.2.2.2.2.2.2.2.2.2.2.2.2.2.2.2.2.2.2.2.2.2.2.2 e6.1 e6.2.1 e6.2.2.1 e6.2.2.2.1 (c.at_ 40 rfl rfl) e6.2.2.2.2.1 e6.2.2.2.2.2.1 e6.2.2.2.2.2.2.1 e6.2.2.2.2.2.2.2.1 e6.2.2.2.2.2.2.2.2.1 e6.2.2.2.2.2.2.2.2.2.1 (c.at_ 41 rfl rfl) e6.2.2.2.2.2.2.2.2.2.2.1 e6.2.2.2.2.2.2.2.2.2.2.2.1 e6.2.2.2.2.2.2.2.2.2.2.2.2.1 e6.2.2.2.2.2.2.2.2.2.2.2.2.2.1 e6.2.2.2.2.2.2.2.2.2.2.2.2.2.2.1 e6.2.2.2.2.2.2.2.2.2.2.2.2.2.2.2.1 (c.at_ 42 rfl rfl) e6.2.2.2.2.2.2.2.2.2.2.2.2.2.2.2.2.1 e6.2.2.2.2.2.2.2.2.2.2.2.2.2.2.2.2.2.1 e6.2.2.2.2.2.2.2.2.2.2.2.2.2.2.2.2.2.2.1 e6.2.2.2.2.2.2.2.2.2.2.2.2.2.2.2.2.2.2.2.1 (c.at_ 43 rfl rfl) e6.2.2.2.2.2.2.2.2.2.2.2.2.2.2.2.2.2.2.2.2.1 e6.2.2.2.2.2.2.2.2.2.2.2.2.2.2.2.2.2.2.2.2.2.1 e6.2.2.2.2.2.2.2.2.2.2.2.2.2.2.2.2.2.2.2.2.2.2.1 (c.at_ 44 rfl rfl) e6.2.2.2.2.2.2.2.2.2.2.2.2.2.2.2.2.2.2.2.2.2.2.2.1 e6.2.2.2.2.2.2.2.2.2.2.2.2.2.2.2.2.2.2.2.2.2.2.2.2 e7.1 (c.at_ 45 rfl rfl) e7.2.1 e7.2.2.1 e7.2.2.2.1 (by decide +kernel) e7.2.2.2.2.1 e7.2.2.2.2.2.1 e7.2.2.2.2.2.2.1 e7.2.2.2.2.2.2.2.1 e7.2.2.2.2.2.2.2.2.1 e7.2.2.2.2.2.2.2.2.2.1 (c.at_ 46 rfl rfl) e7.2.2.2.2.2.2.2.2.2.2.1 (c.at_ 47 rfl rfl) (by rfl) (by decide +kernel) (c.at_ 48 rfl rfl) e7.2.2.2.2.2.2.2.2.2.2.2.1 e7.2.2.2.2.2.2.2.2.2.2.2.2.1 e7.2.2.2.2.2.2.2.2.2.2.2.2.2.1 e7.2.2.2.2.2.2.2.2.2.2.2.2.2.2.1 e7.2.2.2.2.2.2.2.2.2.2.2.2.2.2.2.1 e7.2.2.2.2.2.2.2.2.2.2.2.2.2.2.2.2.1 e7.2.2.2.2.2.2.2.2.2.2.2.2.2.2.2.2.2.1 e7.2.2.2.2.2.2.2.2.2.2.2.2.2.2.2.2.2.2.1 e7.2.2.2.2.2.2.2.2.2.2.2.2.2.2.2.2.2.2.2.1 e7.2.2.2.2.2.2.2.2.2.2.2.2.2.2.2.2.2.2.2.2.1 e7.2.2.2.2.2.2.2.2.2.2.2.2.2.2.2.2.2.2.2.2.2.1 e7.2.2.2.2.2.2.2.2.2.2.2.2.2.2.2.2.2.2.2.2.2.2.1 e7.2.2.2.2.2.2.2.2.2.2.2.2.2.2.2.2.2.2.2.2.2.2.2.1 e7.2.2.2.2.2.2.2.2.2.2.2.2.2.2.2.2.2.2.2.2.2.2.2.2 e8.1 e8.2.1 (c.at_ 49 rfl rfl) e8.2.2.1 (c.at_ 50 rfl rfl) (by rfl) (by decide +kernel) (c.at_ 51 rfl rfl) e8.2.2.2.1 e8.2.2.2.2.1 e8.2.2.2.2.2.1 e8.2.2.2.2.2.2.1 e8.2.2.2.2.2.2.2.1 e8.2.2.2.2.2.2.2.2.1 e8.2.2.2.2.2.2.2.2.2.1 e8.2.2.2.2.2.2.2.2.2.2.1 e8.2.2.2.2.2.2.2.2.2.2.2.1 e8.2.2.2.2.2.2.2.2.2.2.2.2.1 e8.2.2.2.2.2.2.2.2.2.2.2.2.2.1 e8.2.2.2.2.2.2.2.2.2.2.2.2.2.2.1 e8.2.2.2.2.2.2.2.2.2.2.2.2.2.2.2.1 e8.2.2.2.2.2.2.2.2.2.2.2.2.2.2.2.2.1 e8.2.2.2.2.2.2.2.2.2.2.2.2.2.2.2.2.2.1 e8.2.2.2.2.2.2.2.2.2.2.2.2.2.2.2.2.2.2.1 (c.at_ 52 rfl rfl) e8.2.2.2.2.2.2.2.2.2.2.2.2.2.2.2.2.2.2.2.1 (c.at_ 53 rfl rfl) (by rfl) (by decide +kernel) (c.at_ 54 rfl rfl) e8.2.2.2.2.2.2.2.2.2.2.2.2.2.2.2.2.2.2.2.2.1 e8.2.2.2.2.2.2.2.2.2.2.2.2.2.2.2.2.2.2.2.2.2.1 e8.2.2.2.2.2.2.2.2.2.2.2.2.2.2.2.2.2.2.2.2.2.2.1 e8.2.2.2.2.2.2.2.2.2.2.2.2.2.2.2.2.2.2.2.2.2.2.2.1 e8.2.2.2.2.2.2.2.2.2.2.2.2.2.2.2.2.2.2.2.2.2.2.2.2 e9.1 e9.2.1 e9.2.2.1 e9.2.2.2.1 e9.2.2.2.2.1 e9.2.2.2.2.2.1 e9.2.2.2.2.2.2.1 e9.2.2.2.2.2.2.2.1 e9.2.2.2.2.2.2.2.2.1 e9.2.2.2.2.2.2.2.2.2.1 e9.2.2.2.2.2.2.2.2.2.2.1 (c.at_ 55 rfl rfl) e9.2.2.2.2.2.2.2.2.2.2.2.1 (c.at_ 56 rfl rfl) (by rfl) (by decide +kernel) (c.at_ 57 rfl rfl) e9.2.2.2.2.2.2.2.2.2.2.2.2.1 e9.2.2.2.2.2.2.2.2.2.2.2.2.2.1 e9.2.2.2.2.2.2.2.2.2.2.2.2.2.2.1 e9.2.2.2.2.2.2.2.2.2.2.2.2.2.2.2.1 e9.2.2.2.2.2.2.2.2.2.2.2.2.2.2.2.2.1 e9.2.2.2.2.2.2.2.2.2.2.2.2.2.2.2.2.2.1 e9.2.2.2.2.2.2.2.2.2.2.2.2.2.2.2.2.2.2.1 e9.2.2.2.2.2.2.2.2.2.2.2.2.2.2.2.2.2.2.2.1 e9.2.2.2.2.2.2.2.2.2.2.2.2.2.2.2.2.2.2.2.2.1 e9.2.2.2.2.2.2.2.2.2.2.2.2.2.2.2.2.2.2.2.2.2.1 e9.2.2.2.2.2.2.2.2.2.2.2.2.2.2.2.2.2.2.2.2.2.2.1 e9.2.2.2.2.2.2.2.2.2.2.2.2.2.2.2.2.2.2.2.2.2.2.2.1 e9.2.2.2.2.2.2.2.2.2.2.2.2.2.2.2.2.2.2.2.2.2.2.2.2 e10.1 e10.2.1 e10.2.2.1 e10.2.2.2.1 e10.2.2.2.2.1 e10.2.2.2.2.2.1 e10.2.2.2.2.2.2.1 e10.2.2.2.2.2.2.2.1 e10.2.2.2.2.2.2.2.2.1 e10.2.2.2.2.2.2.2.2.2.1 e10.2.2.2.2.2.2.2.2.2.2.1 e10.2.2.2.2.2.2.2.2.2.2.2.1 e10.2.2.2.2.2.2.2.2.2.2.2.2.1 e10.2.2.2.2.2.2.2.2.2.2.2.2.2.1 e10.2.2.2.2.2.2.2.2.2.2.2.2.2.2.1 e10.2.2.2.2.2.2.2.2.2.2.2.2.2.2.2.1 e10.2.2.2.2.2.2.2.2.2.2.2.2.2.2.2.2.1 e10.2.2.2.2.2.2.2.2.2.2.2.2.2.2.2.2.2.1 e10.2.2.2.2.2.2.2.2.2.2.2.2.2.2.2.2.2.2.1 e10.2.2.2.2.2.2.2.2.2.2.2.2.2.2.2.2.2.2.2.1 e10.2.2.2.2.2.2.2.2.2.2.2.2.2.2.2.2.2.2.2.2.1 e10.2.2.2.2.2.2.2.2.2.2.2.2.2.2.2.2.2.2.2.2.2.1 e10.2.2.2.2.2.2.2.2.2.2.2.2.2.2.2.2.2.2.2.2.2.2.1 e10.2.2.2.2.2.2.2.2.2.2.2.2.2.2.2.2.2.2.2.2.2.2.2.1 e10.2.2.2.2.2.2.2.2.2.2.2.2.2.2.2.2.2.2.2.2.2.2.2.2 (c.at_ 58 rfl rfl) (by decide) (by rfl) e11.1 e11.2.1 e11.2.2.1 e11.2.2.2.1 e11.2.2.2.2.1 e11.2.2.2.2.2.1 e11.2.2.2.2.2.2.1 e11.2.2.2.2.2.2.2.1 e11.2.2.2.2.2.2.2.2.1 e11.2.2.2.2.2.2.2.2.2.1 e11.2.2.2.2.2.2.2.2.2.2.1 e11.2.2.2.2.2.2.2.2.2.2.2.1 e11.2.2.2.2.2.2.2.2.2.2.2.2.1 e11.2.2.2.2.2.2.2.2.2.2.2.2.2.1 e11.2.2.2.2.2.2.2.2.2.2.2.2.2.2.1 e11.2.2.2.2.2.2.2.2.2.2.2.2.2.2.2.1 e11.2.2.2.2.2.2.2.2.2.2.2.2.2.2.2.2.1 e11.2.2.2.2.2.2.2.2.2.2.2.2.2.2.2.2.2.1 e11.2.2.2.2.2.2.2.2.2.2.2.2.2.2.2.2.2.2.1 e11.2.2.2.2.2.2.2.2.2.2.2.2.2.2.2.2.2.2.2.1 e11.2.2.2.2.2.2.2.2.2.2.2.2.2.2.2.2.2.2.2.2.1 e11.2.2.2.2.2.2.2.2.2.2.2.2.2.2.2.2.2.2.2.2.2.1 e11.2.2.2.2.2.2.2.2.2.2.2.2.2.2.2.2.2.2.2.2.2.2.1 e11.2.2.2.2.2.2.2.2.2.2.2.2.2.2.2.2.2.2.2.2.2.2.2.1 e11.2.2.2.2.2.2.2.2.2.2.2.2.2.2.2.2.2.2.2.2.2.2.2.2 e12.1 e12.2.1 e12.2.2.1 e12.2.2.2.1 e12.2.2.2.2.1 e12.2.2.2.2.2.1 e12.2.2.2.2.2.2.1 e12.2.2.2.2.2.2.2.1 e12.2.2.2.2.2.2.2.2.1 e12.2.2.2.2.2.2.2.2.2.1 e12.2.2.2.2.2.2.2.2.2.2.1 e12.2.2.2.2.2.2.2.2.2.2.2.1 e12.2.2.2.2.2.2.2.2.2.2.2.2.1 e12.2.2.2.2.2.2.2.2.2.2.2.2.2.1 e12.2.2.2.2.2.2.2.2.2.2.2.2.2.2.1 e12.2.2.2.2.2.2.2.2.2.2.2.2.2.2.2.1 e12.2.2.2.2.2.2.2.2.2.2.2.2.2.2.2.2.1 e12.2.2.2.2.2.2.2.2.2.2.2.2.2.2.2.2.2.1 e12.2.2.2.2.2.2.2.2.2.2.2.2.2.2.2.2.2.2.1 e12.2.2.2.2.2.2.2.2.2.2.2.2.2.2.2.2.2.2.2.1 e12.2.2.2.2.2.2.2.2.2.2.2.2.2.2.2.2.2.2.2.2.1 e12.2.2.2.2.2.2.2.2.2.2.2.2.2.2.2.2.2.2.2.2.2.1 e12.2.2.2.2.2.2.2.2.2.2.2.2.2.2.2.2.2.2.2.2.2.2.1 e12.2.2.2.2.2.2.2.2.2.2.2.2.2.2.2.2.2.2.2.2.2.2.2.1 e12.2.2.2.2.2.2.2.2.2.2.2.2.2.2.2.2.2.2.2.2.2.2.2.2 e13.1 e13.2.1 e13.2.2.1 e13.2.2.2.1 e13.2.2.2.2.1 e13.2.2.2.2.2.1 e13.2.2.2.2.2.2.1 e13.2.2.2.2.2.2.2.1 e13.2.2.2.2.2.2.2.2.1 e13.2.2.2.2.2.2.2.2.2.1 e13.2.2.2.2.2.2.2.2.2.2.1 e13.2.2.2.2.2.2.2.2.2.2.2.1 e13.2.2.2.2.2.2.2.2.2.2.2.2.1 e13.2.2.2.2.2.2.2.2.2.2.2.2.2.1 e13.2.2.2.2.2.2.2.2.2.2.2.2.2.2.1 e13.2.2.2.2.2.2.2.2.2.2.2.2.2.2.2.1 e13.2.2.2.2.2.2.2.2.2.2.2.2.2.2.2.2.1 e13.2.2.2.2.2.2.2.2.2.2.2.2.2.2.2.2.2.1 e13.2.2.2.2.2.2.2.2.2.2.2.2.2.2.2.2.2.2.1 e13.2.2.2.2.2.2.2.2.2.2.2.2.2.2.2.2.2.2.2.1 e13.2.2.2.2.2.2.2.2.2.2.2.2.2.2.2.2.2.2.2.2.1 e13.2.2.2.2.2.2.2.2.2.2.2.2.2.2.2.2.2.2.2.2.2.1 e13.2.2.2.2.2.2.2.2.2.2.2.2.2.2.2.2.2.2.2.2.2.2.1 e13.2.2.2.2.2.2.2.2.2.2.2.2.2.2.2.2.2.2.2.2.2.2.2.1 e13.2.2.2.2.2.2.2.2.2.2.2.2.2.2.2.2.2.2.2.2.2.2.2.2 e14.1 e14.2.1 e14.2.2.1 e14.2.2.2.1 e14.2.2.2.2.1 e14.2.2.2.2.2.1 e14.2.2.2.2.2.2.1 e14.2.2.2.2.2.2.2.1 e14.2.2.2.2.2.2.2.2.1 e14.2.2.2.2.2.2.2.2.2.1 e14.2.2.2.2.2.2.2.2.2.2.1 e14.2.2.2.2.2.2.2.2.2.2.2.1 e14.2.2.2.2.2.2.2.2.2.2.2.2.1 e14.2.2.2.2.2.2.2.2.2.2.2.2.2.1 e14.2.2.2.2.2.2.2.2.2.2.2.2.2.2.1 e14.2.2.2.2.2.2.2.2.2.2.2.2.2.2.2.1 e14.2.2.2.2.2.2.2.2.2.2.2.2.2.2.2.2.1 e14.2.2.2.2.2.2.2.2.2.2.2.2.2.2.2.2.2.1 e14.2.2.2.2.2.2.2.2.2.2.2.2.2.2.2.2.2.2.1 e14.2.2.2.2.2.2.2.2.2.2.2.2.2.2.2.2.2.2.2.1 e14.2.2.2.2.2.2.2.2.2.2.2.2.2.2.2.2.2.2.2.2.1 e14.2.2.2.2.2.2.2.2.2.2.2.2.2.2.2.2.2.2.2.2.2.1 e14.2.2.2.2.2.2.2.2.2.2.2.2.2.2.2.2.2.2.2.2.2.2.1 e14.2.2.2.2.2.2.2.2.2.2.2.2.2.2.2.2.2.2.2.2.2.2.2.1 e14.2.2.2.2.2.2.2.2.2.2.2.2.2.2.2.2.2.2.2.2.2.2.2.2 e15.1 e15.2.1 e15.2.2.1 e15.2.2.2.1 e15.2.2.2.2.1 e15.2.2.2.2.2.1 e15.2.2.2.2.2.2.1 e15.2.2.2.2.2.2.2.1 e15.2.2.2.2.2.2.2.2.1 e15.2.2.2.2.2.2.2.2.2.1 e15.2.2.2.2.2.2.2.2.2.2.1 e15.2.2.2.2.2.2.2.2.2.2.2.1 e15.2.2.2.2.2.2.2.2.2.2.2.2.1 e15.2.2.2.2.2.2.2.2.2.2.2.2.2.1 e15.2.2.2.2.2.2.2.2.2.2.2.2.2.2.1 e15.2.2.2.2.2.2.2.2.2.2.2.2.2.2.2.1 e15.2.2.2.2.2.2.2.2.2.2.2.2.2.2.2.2.1 e15.2.2.2.2.2.2.2.2.2.2.2.2.2.2.2.2.2.1 e15.2.2.2.2.2.2.2.2.2.2.2.2.2.2.2.2.2.2.1 e15.2.2.2.2.2.2.2.2.2.2.2.2.2.2.2.2.2.2.2.1 e15.2.2.2.2.2.2.2.2.2.2.2.2.2.2.2.2.2.2.2.2.1 e15.2.2.2.2.2.2.2.2.2.2.2.2.2.2.2.2.2.2.2.2.2.1 e15.2.2.2.2.2.2.2.2.2.2.2.2.2.2.2.2.2.2.2.2.2.2.1 e15.2.2.2.2.2.2.2.2.2.2.2.2.2.2.2.2.2.2.2.2.2.2.2.1 e15.2.2.2.2.2.2.2.2.2.2.2.2.2.2.2.2.2.2.2.2.2.2.2.2 e16.1 e16.2.1 e16.2.2.1 e16.2.2.2.1 e16.2.2.2.2.1 e16.2.2.2.2.2.1 e16.2.2.2.2.2.2.1 e16.2.2.2.2.2.2.2.1 e16.2.2.2.2.2.2.2.2.1 e16.2.2.2.2.2.2.2.2.2.1 e16.2.2.2.2.2.2.2.2.2.2.1 e16.2.2.2.2.2.2.2.2.2.2.2.1 e16.2.2.2.2.2.2.2.2.2.2.2.2.1 e16.2.2.2.2.2.2.2.2.2.2.2.2.2.1 e16.2.2.2.2.2.2.2.2.2.2.2.2.2.2.1 e16.2.2.2.2.2.2.2.2.2.2.2.2.2.2.2.1 e16.2.2.2.2.2.2.2.2.2.2.2.2.2.2.2.2.1 e16.2.2.2.2.2.2.2.2.2.2.2.2.2.2.2.2.2.1 e16.2.2.2.2.2.2.2.2.2.2.2.2.2.2.2.2.2.2.1 e16.2.2.2.2.2.2.2.2.2.2.2.2.2.2.2.2.2.2.2.1 e16.2.2.2.2.2.2.2.2.2.2.2.2.2.2.2.2.2.2.2.2.1 e16.2.2.2.2.2.2.2.2.2.2.2.2.2.2.2.2.2.2.2.2.2.1 e16.2.2.2.2.2.2.2.2.2.2.2.2.2.2.2.2.2.2.2.2.2.2.1 e16.2.2.2.2.2.2.2.2.2.2.2.2.2.2.2.2.2.2.2.2.2.2.2.1 e16.2.2.2.2.2.2.2.2.2.2.2.2.2.2.2.2.2.2.2.2.2.2.2.2 e17.1 e17.2.1 e17.2.2.1 e17.2.2.2.1 e17.2.2.2.2.1 e17.2.2.2.2.2.1 e17.2.2.2.2.2.2.1 e17.2.2.2.2.2.2.2.1 e17.2.2.2.2.2.2.2.2.1 e17.2.2.2.2.2.2.2.2.2.1 e17.2.2.2.2.2.2.2.2.2.2.1 e17.2.2.2.2.2.2.2.2.2.2.2.1 e17.2.2.2.2.2.2.2.2.2.2.2.2.1 e17.2.2.2.2.2.2.2.2.2.2.2.2.2.1 e17.2.2.2.2.2.2.2.2.2.2.2.2.2.2.1 e17.2.2.2.2.2.2.2.2.2.2.2.2.2.2.2.1 e17.2.2.2.2.2.2.2.2.2.2.2.2.2.2.2.2.1 e17.2.2.2.2.2.2.2.2.2.2.2.2.2.2.2.2.2.1 e17.2.2.2.2.2.2.2.2.2.2.2.2.2.2.2.2.2.2.1 e17.2.2.2.2.2.2.2.2.2.2.2.2.2.2.2.2.2.2.2.1 e17.2.2.2.2.2.2.2.2.2.2.2.2.2.2.2.2.2.2.2.2.1 e17.2.2.2.2.2.2.2.2.2.2.2.2.2.2.2.2.2.2.2.2.2.1 e17.2.2.2.2.2.2.2.2.2.2.2.2.2.2.2.2.2.2.2.2.2.2.1 e17.2.2.2.2.2.2.2.2.2.2.2.2.2.2.2.2.2.2.2.2.2.2.2.1 e17.2.2.2.2.2.2.2.2.2.2.2.2.2.2.2.2.2.2.2.2.2.2.2.2 e18.1 e18.2.1 e18.2.2.1 e18.2.2.2.1 e18.2.2.2.2.1 e18.2.2.2.2.2.1 e18.2.2.2.2.2.2.1 e18.2.2.2.2.2.2.2.1 e18.2.2.2.2.2.2.2.2.1 e18.2.2.2.2.2.2.2.2.2.1 e18.2.2.2.2.2.2.2.2.2.2.1 e18.2.2.2.2.2.2.2.2.2.2.2.1 e18.2.2.2.2.2.2.2.2.2.2.2.2.1 e18.2.2.2.2.2.2.2.2.2.2.2.2.2.1 e18.2.2.2.2.2.2.2.2.2.2.2.2.2.2.1 e18.2.2.2.2.2.2.2.2.2.2.2.2.2.2.2.1 e18.2.2.2.2.2.2.2.2.2.2.2.2.2.2.2.2.1 e18.2.2.2.2.2.2.2.2.2.2.2.2.2.2.2.2.2.1 e18.2.2.2.2.2.2.2.2.2.2.2.2.2.2.2.2.2.2.1 e18.2.2.2.2.2.2.2.2.2.2.2.2.2.2.2.2.2.2.2.1 e18.2.2.2.2.2.2.2.2.2.2.2.2.2.2.2.2.2.2.2.2.1 e18.2.2.2.2.2.2.2.2.2.2.2.2.2.2.2.2.2.2.2.2.2.1 e18.2.2.2.2.2.2.2.2.2.2.2.2.2.2.2.2.2.2.2.2.2.2.1 e18.2.2.2.2.2.2.2.2.2.2.2.2.2.2.2.2.2.2.2.2.2.2.2.1 e18.2.2.2.2.2.2.2.2.2.2.2.2.2.2.2.2.2.2.2.2.2.2.2.2 e19.1 e19.2.1 e19.2.2.1 e19.2.2.2.1 e19.2.2.2.2.1 e19.2.2.2.2.2.1 e19.2.2.2.2.2.2.1 e19.2.2.2.2.2.2.2.1 e19.2.2.2.2.2.2.2.2.1 e19.2.2.2.2.2.2.2.2.2.1 e19.2.2.2.2.2.2.2.2.2.2.1 e19.2.2.2.2.2.2.2.2.2.2.2.1 e19.2.2.2.2.2.2.2.2.2.2.2.2.1 e19.2.2.2.2.2.2.2.2.2.2.2.2.2.1 e19.2.2.2.2.2.2.2.2.2.2.2.2.2.2.1 e19.2.2.2.2.2.2.2.2.2.2.2.2.2.2.2.1 e19.2.2.2.2.2.2.2.2.2.2.2.2.2.2.2.2.1 e19.2.2.2.2.2.2.2.2.2.2.2.2.2.2.2.2.2.1 e19.2.2.2.2.2.2.2.2.2.2.2.2.2.2.2.2.2.2.1 e19.2.2.2.2.2.2.2.2.2.2.2.2.2.2.2.2.2.2.2.1 e19.2.2.2.2.2.2.2.2.2.2.2.2.2.2.2.2.2.2.2.2.1 e19.2.2.2.2.2.2.2.2.2.2.2.2.2.2.2.2.2.2.2.2.2.1 e19.2.2.2.2.2.2.2.2.2.2.2.2.2.2.2.2.2.2.2.2.2.2.1 e19.2.2.2.2.2.2.2.2.2.2.2.2.2.2.2.2.2.2.2.2.2.2.2.1 e19.2.2.2.2.2.2.2.2.2.2.2.2.2.2.2.2.2.2.2.2.2.2.2.2 e20.1 e20.2.1 e20.2.2.1 e20.2.2.2.1 e20.2.2.2.2.1 e20.2.2.2.2.2.1 e20.2.2.2.2.2.2.1 e20.2.2.2.2.2.2.2.1 e20.2.2.2.2.2.2.2.2.1 e20.2.2.2.2.2.2.2.2.2.1 e20.2.2.2.2.2.2.2.2.2.2.1 e20.2.2.2.2.2.2.2.2.2.2.2.1 e20.2.2.2.2.2.2.2.2.2.2.2.2.1 e20.2.2.2.2.2.2.2.2.2.2.2.2.2.1 e20.2.2.2.2.2.2.2.2.2.2.2.2.2.2.1 e20.2.2.2.2.2.2.2.2.2.2.2.2.2.2.2.1 e20.2.2.2.2.2.2.2.2.2.2.2.2.2.2.2.2.1 e20.2.2.2.2.2.2.2.2.2.2.2.2.2.2.2.2.2.1 e20.2.2.2.2.2.2.2.2.2.2.2.2.2.2.2.2.2.2.1 e20.2.2.2.2.2.2.2.2.2.2.2.2.2.2.2.2.2.2.2.1 e20.2.2.2.2.2.2.2.2.2.2.2.2.2.2.2.2.2.2.2.2.1 e20.2.2.2.2.2.2.2.2.2.2.2.2.2.2.2.2.2.2.2.2.2.1 e20.2.2.2.2.2.2.2.2.2.2.2.2.2.2.2.2.2.2.2.2.2.2.1 e20.2.2.2.2.2.2.2.2.2.2.2.2.2.2.2.2.2.2.2.2.2.2.2.1 e20.2.2.2.2.2.2.2.2.2.2.2.2.2.2.2.2.2.2.2.2.2.2.2.2 e21.1 e21.2.1 e21.2.2.1 e21.2.2.2.1 e21.2.2.2.2.1 e21.2.2.2.2.2.1 e21.2.2.2.2.2.2.1 e21.2.2.2.2.2.2.2.1 e21.2.2.2.2.2.2.2.2 (by decide)
