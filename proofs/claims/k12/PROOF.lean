import PyProof.Rows.All
import Wide.All
import OpenK.AllK
import Wide.FinOn
import HandS.ForMost
import HandS.Deep
import HandS.HotCalls
import HandS.IsInst
import HandS.Defaults
import HandS.SortInts
import HandS.SortRule
import HandS.Wide
import HandS.MakeKwOnly
import HandS.HeadHook2
import HandS.Head2
import HandS.HeadEnd
import PyProof.Rows.PlainNe
import HandS.OwnEq
import HandS.HeadHook4
import HandS.SetFor
import HandS.Strs
import KE.KTupSum
import KE.KRevSl
import PyProof.SeqRoads
import PyProof.ListOps
import HandS.Style
import HandS.TupAny
import PyProof.Rows.ReprOcc
import HandS.ClsMeth
import HandS.ExcInit
import HandS.ExcInitHot
import HandS.ExcOwn
import HandS.ExcIs
import HandS.ExcField
import KE.KExcIs
import HandS.SetKeys
import PyProof.LongRange
import HandS.RaiseMore
import PySem.Challenge.RW_nightturn_k12_home_days_near_and_far
set_option Elab.async false
set_option linter.all false
set_option maxRecDepth 100000
set_option maxHeartbeats 4000000
/-! The tree layer, part A: trees, worlds, steps. -/
namespace TL
open PySem PySem.Spec PyProof.Rows L2

/-- a python value as a tree: an atom, a mutable cell of the store, or frozen data -/
inductive T where
  | v (x : V)
  | cel (n : Nat)
  | lst (xs : List T)
  | scr (xs : List T)
  | tup (xs : List T)
  | dK (ks : List Key) (xs : List T)
  | dT (ks : List (List Key)) (xs : List T)
  | set (S : Int → Bool) (n : Nat)
  | ins (C : Addr) (ns : List Str) (xs : List T)
  | exc (a d C : Addr) (ns : List Str) (xs : List T)

abbrev I (i : Int) : T := .v (.int i)
abbrev B (b : Bool) : T := .v (.bl b)
abbrev S (x : Str) : T := .v (.str x)
abbrev N0 : T := .v .non

/-- what is frozen, and where the cells stand -/
structure Wd where
  F : Addr → Prop
  ad : Nat → Option Addr

abbrev Store := Nat → Option T
abbrev TEnv := List (Option T)
def updS (L : Store) (n : Nat) (o : Option T) : Store := fun m => if m = n then o else L m
theorem updS_same {L : Store} {n : Nat} {o : Option T} : updS L n o n = o := by unfold updS; rw [if_pos rfl]
theorem updS_ne {L : Store} {n m : Nat} {o : Option T} (h : m ≠ n) : updS L n o m = L m := by unfold updS; rw [if_neg h]

mutual
inductive Rp (K : PySem.W.Frag) (W : Wd) (H : Hp) : T → V → Prop
  | v (x : V) : Rp K W H (.v x) x
  | cel {n : Nat} {a : Addr} (h : W.ad n = some a) : Rp K W H (.cel n) (.ref a)
  | lst {a : Addr} {ts : List T} {vs : List V} (f : W.F a) (h : H a = some (.lst vs)) (r : RpL K W H ts vs) : Rp K W H (.lst ts) (.ref a)
  | scr {a : Addr} {ts : List T} {vs : List V} (h : (W.F a ∧ ∃ o, H a = some (.frz o (.lst vs))) ∨ ∃ (o : Obj) (its : Array Value) (n : Nat), K.lookup a = some o ∧ o.cls = .type "list" ∧ o.dict = none ∧ o.data = .seq its n ∧ its.size ≤ sizeLine ∧ Vals vs its.toList)
      (r : RpL K W H ts vs) : Rp K W H (.scr ts) (.ref a)
  | tup {a : Addr} {ts : List T} {vs : List V} (f : W.F a) (h : H a = some (.tup vs)) (r : RpL K W H ts vs) : Rp K W H (.tup ts) (.ref a)
  | dK {a : Addr} {ks : List Key} {ts : List T} {vs : List V} (f : W.F a) (h : Rd H a (.dK (ks.zip vs))) (l : ks.length = vs.length) (r : RpL K W H ts vs) : Rp K W H (.dK ks ts) (.ref a)
  | dT {a : Addr} {ks : List (List Key)} {ts : List T} {vs : List V} (f : W.F a) (h : Rd H a (.dT (ks.zip vs))) (l : ks.length = vs.length) (r : RpL K W H ts vs) : Rp K W H (.dT ks ts) (.ref a)
  | set {a : Addr} {S : Int → Bool} {n : Nat} (f : W.F a) (h : Rd H a (.set S n)) : Rp K W H (.set S n) (.ref a)
  | ins {a C dx : Addr} {ns : List Str} {ts : List T} {vs : List V} (f : W.F a) (h : H a = some (.ins C dx (ns.zip vs))) (l : ns.length = vs.length) (r : RpL K W H ts vs) : Rp K W H (.ins C ns ts) (.ref a)
  | exc {a d C : Addr} {ns : List Str} {ts : List T} {vs : List V} {ws : List (Str × V)} (f : W.F d) (h : H d = some (.xd ws)) (l : ns.map (fun n => ws.lookup n) = vs.map some) (r : RpL K W H ts vs) : Rp K W H (.exc a d C ns ts) (.ref a)
inductive RpL (K : PySem.W.Frag) (W : Wd) (H : Hp) : List T → List V → Prop
  | nil : RpL K W H [] []
  | cons {t : T} {ts : List T} {x : V} {xs : List V} (h : Rp K W H t x) (r : RpL K W H ts xs) : RpL K W H (t :: ts) (x :: xs)
end

section
variable {K : PySem.W.Frag} {W W' : Wd} {H H' : Hp}
/-- what may be locked while a loop walks it -/
def NoLk : HO → Bool
  | .dK _ => false
  | .dT _ => false
  | .set _ _ => false
  | .frz _ u => NoLk u
  | _ => true
/-- what a walk may lock for good -/
def LkO : HO → Bool
  | .dK _ => true
  | .dT _ => true
  | .set _ _ => true
  | _ => false
theorem lkO_no {o : HO} (h : NoLk o = true) : LkO o = false := by cases o <;> first | rfl | (simp [NoLk] at h)
structure Keep (F : Addr → Prop) (H H' : Hp) : Prop where
  o : ∀ a o, F a → NoLk o = true → H a = some o → H' a = some o
  d : ∀ a u, F a → NoLk u = false → Rd H a u → Rd H' a u
theorem Keep.refl {F : Addr → Prop} {H : Hp} : Keep F H H := ⟨fun _ _ _ _ h => h, fun _ _ _ _ h => h⟩
theorem Keep.all {F : Addr → Prop} {H H' : Hp} (h : ∀ a o, F a → H a = some o → H' a = some o) : Keep F H H' := ⟨fun a o f _ e => h a o f e, fun a u f _ r => by
  rcases r with r | ⟨o, r⟩
  · exact .inl (h a _ f r)
  · exact .inr ⟨o, h a _ f r⟩⟩
mutual
theorem Rp.mono (hF : ∀ a, W.F a → W'.F a) (ha : ∀ (n : Nat) (a : Addr), W.ad n = some a → W'.ad n = some a) (hH : Keep W.F H H') : ∀ (t : T) (x : V), Rp K W H t x → Rp K W' H' t x
  | .v _, _, h => by cases h; exact .v _
  | .cel n, _, h => by cases h with | cel h => exact .cel (ha _ _ h)
  | .lst ts, _, h => by cases h with | lst f h r => exact .lst (hF _ f) (hH.o _ _ f rfl h) (RpL.mono hF ha hH ts _ r)
  | .scr ts, _, h => by
    cases h with
    | scr h r =>
      refine .scr ?_ (RpL.mono hF ha hH ts _ r)
      rcases h with ⟨f, o, h⟩ | h
      · exact .inl ⟨hF _ f, o, hH.o _ _ f rfl h⟩
      · exact .inr h
  | .tup ts, _, h => by cases h with | tup f h r => exact .tup (hF _ f) (hH.o _ _ f rfl h) (RpL.mono hF ha hH ts _ r)
  | .dK ks ts, _, h => by cases h with | dK f h l r => exact .dK (hF _ f) (hH.d _ _ f rfl h) l (RpL.mono hF ha hH ts _ r)
  | .dT ks ts, _, h => by cases h with | dT f h l r => exact .dT (hF _ f) (hH.d _ _ f rfl h) l (RpL.mono hF ha hH ts _ r)
  | .set S n, _, h => by cases h with | set f h => exact .set (hF _ f) (hH.d _ _ f rfl h)
  | .ins C ns ts, _, h => by cases h with | ins f h l r => exact .ins (hF _ f) (hH.o _ _ f rfl h) l (RpL.mono hF ha hH ts _ r)
  | .exc a d C ns ts, _, h => by cases h with | exc f h l r => exact .exc (hF _ f) (hH.o _ _ f rfl h) l (RpL.mono hF ha hH ts _ r)
theorem RpL.mono (hF : ∀ a, W.F a → W'.F a) (ha : ∀ (n : Nat) (a : Addr), W.ad n = some a → W'.ad n = some a) (hH : Keep W.F H H') : ∀ (ts : List T) (xs : List V), RpL K W H ts xs → RpL K W' H' ts xs
  | [], _, h => by cases h; exact .nil
  | t :: ts, _, h => by cases h with | cons h r => exact .cons (Rp.mono hF ha hH t _ h) (RpL.mono hF ha hH ts _ r)
end
theorem RpL.length : ∀ {ts : List T} {xs : List V}, RpL K W H ts xs → ts.length = xs.length
  | [], _, h => by cases h; rfl
  | _ :: _, _, h => by cases h with | cons _ r => exact congrArg Nat.succ r.length
theorem RpL.append : ∀ {ts us : List T} {xs ys : List V}, RpL K W H ts xs → RpL K W H us ys → RpL K W H (ts ++ us) (xs ++ ys)
  | [], _, _, _, h, h2 => by cases h; exact h2
  | _ :: _, _, _, _, h, h2 => by cases h with | cons h r => exact .cons h (r.append h2)
theorem RpL.get : ∀ {ts : List T} {xs : List V} {i : Nat} {t : T}, RpL K W H ts xs → ts[i]? = some t → ∃ x, xs[i]? = some x ∧ Rp K W H t x
  | [], _, _, _, h, e => by simp at e
  | t :: ts, _, 0, _, h, e => by
    cases h with
    | cons h r =>
      simp at e; subst e; exact ⟨_, rfl, h⟩
  | t :: ts, _, i + 1, _, h, e => by
    cases h with
    | cons h r =>
      obtain ⟨x, e1, e2⟩ := r.get (i := i) (by simpa using e)
      exact ⟨x, by simpa using e1, e2⟩
theorem RpL.get' : ∀ {ts : List T} {xs : List V} {i : Nat} {x : V}, RpL K W H ts xs → xs[i]? = some x → ∃ t, ts[i]? = some t ∧ Rp K W H t x := fun {ts xs i x} r e => by
  obtain ⟨h, _⟩ := List.getElem?_eq_some_iff.mp e
  have h2 : i < ts.length := by rw [r.length]; exact h
  obtain ⟨x', e1, e2⟩ := r.get (List.getElem?_eq_getElem h2)
  rw [e] at e1; cases e1
  exact ⟨_, List.getElem?_eq_getElem h2, e2⟩
theorem RpL.set : ∀ {ts : List T} {xs : List V} {t : T} {x : V} (i : Nat), RpL K W H ts xs → Rp K W H t x → RpL K W H (ts.set i t) (xs.set i x)
  | [], _, _, _, _, h, _ => by cases h; exact .nil
  | _ :: _, _, _, _, 0, h, q => by cases h with | cons _ r => exact .cons q r
  | _ :: _, _, _, _, i + 1, h, q => by cases h with | cons h r => exact .cons h (r.set i q)
theorem RpL.take : ∀ {ts : List T} {xs : List V} (n : Nat), RpL K W H ts xs → RpL K W H (ts.take n) (xs.take n)
  | _, _, 0, _ => by simp only [List.take_zero]; exact .nil
  | [], _, n + 1, h => by cases h; exact .nil
  | _ :: _, _, n + 1, h => by cases h with | cons h r => exact .cons h (r.take n)
theorem RpL.drop : ∀ {ts : List T} {xs : List V} (n : Nat), RpL K W H ts xs → RpL K W H (ts.drop n) (xs.drop n)
  | _, _, 0, h => h
  | [], _, n + 1, h => by cases h; exact .nil
  | _ :: _, _, n + 1, h => by cases h with | cons h r => exact r.drop n
theorem RpL.reverse {ts : List T} {xs : List V} (h : RpL K W H ts xs) : RpL K W H ts.reverse xs.reverse := by
  induction ts generalizing xs with
  | nil => cases h; exact .nil
  | cons t ts ih =>
    cases h with
    | cons h r =>
      rw [List.reverse_cons, List.reverse_cons]
      exact (ih r).append (.cons h .nil)
/-- atoms -/
theorem RpL.atoms {α : Type} (f : α → V) : ∀ {l : List α} {xs : List V}, RpL K W H (l.map fun a => T.v (f a)) xs → xs = l.map f
  | [], _, h => by cases h; rfl
  | _ :: _, _, h => by
    cases h with
    | cons h r =>
      cases h
      exact congrArg _ (RpL.atoms f r)
theorem RpL.of_atoms {α : Type} (f : α → V) : ∀ (l : List α), RpL K W H (l.map fun a => T.v (f a)) (l.map f)
  | [] => .nil
  | _ :: l => .cons (.v _) (RpL.of_atoms f l)
end

/-- a cell's content -/
def CellR (K : PySem.W.Frag) (W : Wd) (H : Hp) : T → Addr → Prop
  | .lst ts, a => ∃ vs, H a = some (.lst vs) ∧ RpL K W H ts vs
  | .dK ks ts, a => ∃ vs, H a = some (.dK (ks.zip vs)) ∧ ks.length = vs.length ∧ RpL K W H ts vs
  | .dT ks ts, a => ∃ vs, H a = some (.dT (ks.zip vs)) ∧ ks.length = vs.length ∧ RpL K W H ts vs
  | .set S n, a => H a = some (.set S n)
  | .ins C ns ts, a => ∃ dx vs, H a = some (.ins C dx (ns.zip vs)) ∧ ns.length = vs.length ∧ RpL K W H ts vs
  | _, _ => False
theorem CellR.mono {K : PySem.W.Frag} {W W' : Wd} {H H' : Hp} {t : T} {a : Addr} (hF : ∀ a, W.F a → W'.F a) (ha : ∀ (n : Nat) (a : Addr), W.ad n = some a → W'.ad n = some a) (hH : Keep W.F H H') (he : H' a = H a) (h : CellR K W H t a) : CellR K W' H' t a := by
  cases t with
  | v x => exact h
  | cel n => exact h
  | tup ts => exact h
  | scr ts => exact h
  | exc a d C ns ts => exact h
  | lst ts => obtain ⟨vs, e, r⟩ := h; exact ⟨vs, he.trans e, RpL.mono hF ha hH _ _ r⟩
  | dK ks ts => obtain ⟨vs, e, l, r⟩ := h; exact ⟨vs, he.trans e, l, RpL.mono hF ha hH _ _ r⟩
  | dT ks ts => obtain ⟨vs, e, l, r⟩ := h; exact ⟨vs, he.trans e, l, RpL.mono hF ha hH _ _ r⟩
  | set S n => exact he.trans h
  | ins C ns ts => obtain ⟨dx, vs, e, l, r⟩ := h; exact ⟨dx, vs, he.trans e, l, RpL.mono hF ha hH _ _ r⟩
theorem CellR.some {K : PySem.W.Frag} {W : Wd} {H : Hp} {t : T} {a : Addr} (h : CellR K W H t a) : H a ≠ none := by
  cases t with
  | v x => exact h.elim
  | cel n => exact h.elim
  | tup ts => exact h.elim
  | scr ts => exact h.elim
  | exc a d C ns ts => exact h.elim
  | lst ts => obtain ⟨vs, e, r⟩ := h; rw [e]; exact fun z => nomatch z
  | dK ks ts => obtain ⟨vs, e, l, r⟩ := h; rw [e]; exact fun z => nomatch z
  | dT ks ts => obtain ⟨vs, e, l, r⟩ := h; rw [e]; exact fun z => nomatch z
  | set S n =>
    have e : H a = _ := h
    rw [e]; exact fun z => nomatch z
  | ins C ns ts => obtain ⟨dx, vs, e, l, r⟩ := h; rw [e]; exact fun z => nomatch z
/-- frozen: the cell is from now on a tree -/
theorem CellR.rp {K : PySem.W.Frag} {W : Wd} {H : Hp} {t : T} {a : Addr} (f : W.F a) (h : CellR K W H t a) : Rp K W H t (.ref a) := by
  cases t with
  | v x => exact h.elim
  | cel n => exact h.elim
  | tup ts => exact h.elim
  | scr ts => exact h.elim
  | exc a d C ns ts => exact h.elim
  | lst ts => obtain ⟨vs, e, r⟩ := h; exact .lst f e r
  | dK ks ts => obtain ⟨vs, e, l, r⟩ := h; exact .dK f (.inl e) l r
  | dT ks ts => obtain ⟨vs, e, l, r⟩ := h; exact .dT f (.inl e) l r
  | set S n => exact .set f (.inl h)
  | ins C ns ts => obtain ⟨dx, vs, e, l, r⟩ := h; exact .ins f e l r

def Live (L : Store) (n : Nat) : Prop := ∃ t, L n = some t
structure SR (K : PySem.W.Frag) (W : Wd) (H : Hp) (L : Store) : Prop where
  fin : ∃ b : Nat, ∀ n, b ≤ n → W.ad n = none
  at_ : ∀ n, Live L n → W.ad n ≠ none
  fh : ∀ a, W.F a → H a ≠ none
  nf : ∀ (n : Nat) (a : Addr), Live L n → W.ad n = some a → ¬ W.F a
  inj : ∀ (n m : Nat) (a : Addr), Live L n → Live L m → W.ad n = some a → W.ad m = some a → n = m
  cel : ∀ (n : Nat) (t : T) (a : Addr), L n = some t → W.ad n = some a → CellR K W H t a
structure Step (W : Wd) (L : Store) (H : Hp) (W' : Wd) (L' : Store) (H' : Hp) : Prop where
  F : ∀ a, W.F a → W'.F a
  F' : ∀ a, W'.F a → W.F a ∨ H a = none ∨ ∃ n, Live L n ∧ W.ad n = some a
  ad : ∀ (n : Nat) (a : Addr), W.ad n = some a → W'.ad n = some a
  new : ∀ (n : Nat) (a : Addr), W.ad n = none → W'.ad n = some a → H a = none
  live : ∀ n, W.ad n ≠ none → Live L' n → Live L n
  keep : ∀ a o, H a = some o → LkO o = false → (∀ n, Live L n → W.ad n ≠ some a) → H' a = some o
  kd : ∀ a o, H a = some o → LkO o = true → (∀ n, Live L n → W.ad n ≠ some a) → H' a = some o ∨ (W'.F a ∧ ∃ od, H' a = some (.frz od o))
  dom : ∀ a, H a ≠ none → H' a ≠ none
theorem Step.refl {W : Wd} {L : Store} {H : Hp} : Step W L H W L H :=
  ⟨fun _ h => h, fun _ h => .inl h, fun _ _ h => h, fun n a h e => by (rw [h] at e; cases e), fun _ _ h => h, fun _ _ h _ _ => h, fun _ _ h _ _ => .inl h, fun _ h => h⟩
section
variable {K : PySem.W.Frag} {W W1 W2 : Wd} {L L1 Lb : Store} {H H1 H2 : Hp}
theorem none_of_dom {p : Addr} (d : ∀ a, H a ≠ none → H1 a ≠ none) (h : H1 p = none) : H p = none := by
  cases e : H p with
  | none => rfl
  | some o => exact absurd h (d p (by rw [e]; exact fun z => nomatch z))
theorem SR.adh (s : SR K W H L) (n : Nat) (a : Addr) (l : Live L n) (e : W.ad n = some a) : H a ≠ none := by
  obtain ⟨t, l⟩ := l
  exact (s.cel n t a l e).some
theorem Step.trans (a : Step W L H W1 L1 H1) (b : Step W1 L1 H1 W2 Lb H2) : Step W L H W2 Lb H2 where
  F := fun x h => b.F x (a.F x h)
  F' := fun x h => by
    rcases b.F' x h with h | h | ⟨n, h1, h2⟩
    · exact a.F' x h
    · exact .inr (.inl (none_of_dom a.dom h))
    · cases q : W.ad n with
      | none => exact .inr (.inl (a.new n x q h2))
      | some y =>
        have e := a.ad n y q
        rw [h2] at e; cases e
        exact .inr (.inr ⟨n, a.live n (by rw [q]; exact fun z => nomatch z) h1, q⟩)
  ad := fun n x h => b.ad n x (a.ad n x h)
  new := fun n x h e => by
    cases q : W1.ad n with
    | none => exact none_of_dom a.dom (b.new n x q e)
    | some y =>
      have e1 := b.ad n y q
      rw [e] at e1; cases e1
      exact a.new n x h q
  live := fun n hn h => a.live n hn (b.live n (by
    cases q : W.ad n with
    | none => exact absurd q hn
    | some y => rw [a.ad n y q]; exact fun z => nomatch z) h)
  keep := fun x o e lk h => b.keep x o (a.keep x o e lk h) lk fun n l z => by
    cases q : W.ad n with
    | none =>
      have e1 := a.new n x q z
      rw [e] at e1; cases e1
    | some y =>
      have e1 := a.ad n y q
      rw [z] at e1; cases e1
      exact h n (a.live n (by rw [q]; exact fun z => nomatch z) l) q
  kd := fun x o e lk h => by
    have hn : ∀ n, Live L1 n → W1.ad n ≠ some x := fun n l z => by
      cases q : W.ad n with
      | none =>
        have e1 := a.new n x q z
        rw [e] at e1; cases e1
      | some y =>
        have e1 := a.ad n y q
        rw [z] at e1; cases e1
        exact h n (a.live n (by rw [q]; exact fun z => nomatch z) l) q
    rcases a.kd x o e lk h with e1 | ⟨f1, od, e1⟩
    · exact b.kd x o e1 lk hn
    · exact .inr ⟨b.F x f1, od, b.keep x _ e1 rfl hn⟩
  dom := fun x h => b.dom x (a.dom x h)
/-- frozen things are kept -/
theorem Step.rd (a : Step W L H W1 L1 H1) (s : SR K W H L) : Keep W.F H H1 where
  o := fun x o f nl e => a.keep x o e (lkO_no nl) fun n l z => s.nf n x l z f
  d := fun x u f nl r => by
    have hn : ∀ n, Live L n → W.ad n ≠ some x := fun n l z => s.nf n x l z f
    rcases r with r | ⟨od, r⟩
    · cases q : LkO u with
      | true =>
        rcases a.kd x u r q hn with e | ⟨_, od, e⟩
        · exact .inl e
        · exact .inr ⟨od, e⟩
      | false => exact .inl (a.keep x u r q hn)
    · exact .inr ⟨od, a.keep x _ r rfl hn⟩
theorem Rp.step {t : T} {x : V} (r : Rp K W H t x) (a : Step W L H W1 L1 H1) (s : SR K W H L) : Rp K W1 H1 t x := Rp.mono a.F a.ad (a.rd s) t x r
theorem RpL.step {ts : List T} {xs : List V} (r : RpL K W H ts xs) (a : Step W L H W1 L1 H1) (s : SR K W H L) : RpL K W1 H1 ts xs := RpL.mono a.F a.ad (a.rd s) ts xs r

theorem rd_new {F : Addr → Prop} {p : Addr} {o : HO} (hp : H p = none) : Keep F H (upd H p o) := .all fun x u _ h => by rw [upd_ne (ne_of_none h hp)]; exact h
/-- a new object, not (yet) ours -/
theorem SR.new {p : Addr} {o : HO} (s : SR K W H L) (hp : H p = none) : SR K W (upd H p o) L where
  fin := s.fin
  at_ := s.at_
  fh := fun a f => by
    by_cases e : a = p
    · subst e; rw [upd_same]; exact fun z => nomatch z
    · rw [upd_ne e]; exact s.fh a f
  nf := s.nf
  inj := s.inj
  cel := fun n t a h e => (s.cel n t a h e).mono (fun _ h => h) (fun _ _ h => h) (rd_new hp) (upd_ne fun z => by
    subst z
    exact s.adh n a ⟨t, h⟩ e hp)
theorem Step.newp {p : Addr} {o : HO} (hp : H p = none) : Step W L H W L (upd H p o) where
  F := fun _ h => h
  F' := fun _ h => .inl h
  ad := fun _ _ h => h
  new := fun n a h e => by rw [h] at e; cases e
  live := fun _ _ h => h
  keep := fun a o' e _ _ => by rw [upd_ne (ne_of_none e hp)]; exact e
  kd := fun a o' e _ _ => .inl (by rw [upd_ne (ne_of_none e hp)]; exact e)
  dom := fun a h => by
    by_cases e : a = p
    · subst e; exact absurd hp h
    · rw [upd_ne e]; exact h
theorem Rp.newp {p : Addr} {o : HO} {t : T} {x : V} (hp : H p = none) (r : Rp K W H t x) : Rp K W (upd H p o) t x := Rp.mono (fun _ h => h) (fun _ _ h => h) (rd_new hp) t x r
theorem RpL.newp {p : Addr} {o : HO} {ts : List T} {xs : List V} (hp : H p = none) (r : RpL K W H ts xs) : RpL K W (upd H p o) ts xs := RpL.mono (fun _ h => h) (fun _ _ h => h) (rd_new hp) ts xs r
/-- freeze an address that is no live cell -/
def Wd.frz (W : Wd) (a : Addr) : Wd := ⟨fun b => W.F b ∨ b = a, W.ad⟩
theorem SR.frz {a : Addr} (s : SR K W H L) (ha : H a ≠ none) (hn : ∀ n : Nat, Live L n → W.ad n ≠ some a) : SR K (W.frz a) H L where
  fin := s.fin
  at_ := s.at_
  fh := fun b f => by
    rcases f with f | f
    · exact s.fh b f
    · subst f; exact ha
  nf := fun n b l e f => by
    rcases f with f | f
    · exact s.nf n b l e f
    · subst f; exact hn n l e
  inj := s.inj
  cel := fun n t b h e => (s.cel n t b h e).mono (W' := W.frz a) (fun _ h => Or.inl h) (fun _ _ h => h) .refl rfl
theorem Rp.frz {a : Addr} {t : T} {x : V} (r : Rp K W H t x) : Rp K (W.frz a) H t x := Rp.mono (W' := W.frz a) (fun _ h => Or.inl h) (fun _ _ h => h) .refl t x r
theorem RpL.frz {a : Addr} {ts : List T} {xs : List V} (r : RpL K W H ts xs) : RpL K (W.frz a) H ts xs := RpL.mono (W' := W.frz a) (fun _ h => Or.inl h) (fun _ _ h => h) .refl ts xs r
theorem CellR.frz {a b : Addr} {t : T} (r : CellR K W H t b) : CellR K (W.frz a) H t b := r.mono (W' := W.frz a) (fun _ h => Or.inl h) (fun _ _ h => h) .refl rfl
/-- a step, then a freeze of what was new at its start -/
theorem Step.frz {a : Addr} (h : Step W L H W1 L1 H1) (ha : H a = none ∨ ∃ n, Live L n ∧ W.ad n = some a) : Step W L H (W1.frz a) L1 H1 where
  F := fun b f => .inl (h.F b f)
  F' := fun b f => by
    rcases f with f | f
    · exact h.F' b f
    · subst f; exact .inr ha
  ad := h.ad
  new := h.new
  live := h.live
  keep := h.keep
  kd := fun b o e lk q => (h.kd b o e lk q).imp id fun ⟨f, z⟩ => ⟨.inl f, z⟩
  dom := h.dom
/-- adopt an address as a cell, by a number that is free -/
def Wd.cell (W : Wd) (n : Nat) (a : Addr) : Wd := ⟨W.F, fun m => if m = n then some a else W.ad m⟩
theorem cell_same {n : Nat} {a : Addr} : (W.cell n a).ad n = some a := by show (if n = n then some a else W.ad n) = _; rw [if_pos rfl]
theorem cell_ne {n m : Nat} {a : Addr} (h : m ≠ n) : (W.cell n a).ad m = W.ad m := by show (if m = n then some a else W.ad m) = _; rw [if_neg h]
theorem cell_up {n : Nat} {a : Addr} (hn : W.ad n = none) : ∀ (m : Nat) (b : Addr), W.ad m = some b → (W.cell n a).ad m = some b := fun m b h => by
  rw [cell_ne (fun z => by subst z; rw [hn] at h; cases h)]; exact h
theorem SR.cell {n : Nat} {a : Addr} {t : T} (s : SR K W H L) (h0 : W.ad n = none) (hc : CellR K W H t a) (hf : ¬ W.F a) (hn : ∀ m : Nat, Live L m → W.ad m ≠ some a) : SR K (W.cell n a) H (updS L n (some t)) where
  fin := by
    obtain ⟨b, hb⟩ := s.fin
    refine ⟨max b (n + 1), fun m hm => ?_⟩
    rw [cell_ne (by omega)]
    exact hb m (by omega)
  at_ := fun m ⟨u, l⟩ => by
    by_cases e : m = n
    · subst e; rw [cell_same]; exact fun z => nomatch z
    · rw [cell_ne e]; rw [updS_ne e] at l; exact s.at_ m ⟨u, l⟩
  fh := s.fh
  nf := fun m b ⟨u, l⟩ e => by
    by_cases q : m = n
    · subst q; rw [cell_same] at e; cases e; exact hf
    · rw [cell_ne q] at e; rw [updS_ne q] at l; exact s.nf m b ⟨u, l⟩ e
  inj := fun m1 m2 b ⟨u1, l1⟩ ⟨u2, l2⟩ e1 e2 => by
    by_cases q1 : m1 = n
    · by_cases q2 : m2 = n
      · rw [q1, q2]
      · rw [updS_ne q2] at l2
        rw [cell_ne q2] at e2
        rw [q1, cell_same] at e1; cases e1
        exact absurd e2 (hn m2 ⟨u2, l2⟩)
    · rw [updS_ne q1] at l1
      rw [cell_ne q1] at e1
      by_cases q2 : m2 = n
      · rw [q2, cell_same] at e2; cases e2
        exact absurd e1 (hn m1 ⟨u1, l1⟩)
      · rw [updS_ne q2] at l2
        rw [cell_ne q2] at e2
        exact s.inj m1 m2 b ⟨u1, l1⟩ ⟨u2, l2⟩ e1 e2
  cel := fun m u b l e => by
    have up : ∀ (u : T) (c : Addr), CellR K W H u c → CellR K (W.cell n a) H u c := fun u c h => h.mono (W := W) (W' := W.cell n a) (fun _ h => h) (cell_up h0) .refl rfl
    by_cases q : m = n
    · rw [q, updS_same] at l; cases l
      rw [q, cell_same] at e; cases e
      exact up _ _ hc
    · rw [updS_ne q] at l
      rw [cell_ne q] at e
      exact up _ _ (s.cel m u b l e)
theorem Rp.cell {n : Nat} {a : Addr} {t : T} {x : V} (h0 : W.ad n = none) (r : Rp K W H t x) : Rp K (W.cell n a) H t x := Rp.mono (W := W) (W' := W.cell n a) (fun _ h => h) (cell_up h0) .refl t x r
theorem RpL.cell {n : Nat} {a : Addr} {ts : List T} {xs : List V} (h0 : W.ad n = none) (r : RpL K W H ts xs) : RpL K (W.cell n a) H ts xs := RpL.mono (W := W) (W' := W.cell n a) (fun _ h => h) (cell_up h0) .refl ts xs r
theorem Step.cell {n : Nat} {a : Addr} {t : Option T} (h : Step W L H W1 L1 H1) (h0 : W1.ad n = none) (ha : H a = none) : Step W L H (W1.cell n a) (updS L1 n t) H1 where
  F := h.F
  F' := h.F'
  ad := fun m b e => cell_up h0 m b (h.ad m b e)
  new := fun m b e1 e2 => by
    by_cases q : m = n
    · rw [q, cell_same] at e2; cases e2; exact ha
    · rw [cell_ne q] at e2; exact h.new m b e1 e2
  live := fun m hm ⟨u, l⟩ => by
    have q : m ≠ n := fun z => by
      subst z
      cases e : W.ad m with
      | none => exact hm e
      | some b => rw [h.ad m b e] at h0; cases h0
    rw [updS_ne q] at l
    exact h.live m hm ⟨u, l⟩
  keep := h.keep
  kd := h.kd
  dom := h.dom
/-- a live cell is written -/
theorem SR.write {a : Addr} {n : Nat} {t t' : T} {o : HO} (s : SR K W H L) (hl : L n = some t) (ha : W.ad n = some a) (hc : CellR K W (upd H a o) t' a) : SR K W (upd H a o) (updS L n (some t')) where
  fin := s.fin
  at_ := fun m ⟨u, l⟩ => by
    by_cases e : m = n
    · subst e; exact s.at_ m ⟨t, hl⟩
    · rw [updS_ne e] at l; exact s.at_ m ⟨u, l⟩
  fh := fun b f => by
    by_cases e : b = a
    · subst e; rw [upd_same]; exact fun z => nomatch z
    · rw [upd_ne e]; exact s.fh b f
  nf := fun m b ⟨u, l⟩ e => by
    by_cases hm : m = n
    · subst hm; exact s.nf m b ⟨t, hl⟩ e
    · rw [updS_ne hm] at l; exact s.nf m b ⟨u, l⟩ e
  inj := fun m1 m2 b ⟨u1, l1⟩ ⟨u2, l2⟩ e1 e2 => by
    have k : ∀ m u, updS L n (some t') m = some u → Live L m := fun m u l => by
      by_cases hm : m = n
      · subst hm; exact ⟨t, hl⟩
      · rw [updS_ne hm] at l; exact ⟨u, l⟩
    exact s.inj m1 m2 b (k m1 u1 l1) (k m2 u2 l2) e1 e2
  cel := fun m u b l e => by
    by_cases hm : m = n
    · subst hm
      rw [updS_same] at l
      cases l
      rw [ha] at e; cases e
      exact hc
    · rw [updS_ne hm] at l
      have hb : b ≠ a := fun z => by subst z; exact hm (s.inj m n b ⟨u, l⟩ ⟨t, hl⟩ e ha)
      exact (s.cel m u b l e).mono (fun _ h => h) (fun _ _ h => h) (.all fun x v f h => by
        have hx : x ≠ a := fun z => by subst z; exact s.nf n x ⟨t, hl⟩ ha f
        rw [upd_ne hx]; exact h) (upd_ne hb)
theorem Step.write {a : Addr} {n : Nat} {t t' : T} {o : HO} (hl : L n = some t) (ha : W.ad n = some a) : Step W L H W (updS L n (some t')) (upd H a o) where
  F := fun _ h => h
  F' := fun _ h => .inl h
  ad := fun _ _ h => h
  new := fun m b h e => by rw [h] at e; cases e
  live := fun m hm ⟨u, l⟩ => by
    by_cases e : m = n
    · subst e; exact ⟨t, hl⟩
    · rw [updS_ne e] at l; exact ⟨u, l⟩
  keep := fun b o' e _ h => by
    have hb : b ≠ a := fun z => by subst z; exact h n ⟨t, hl⟩ ha
    rw [upd_ne hb]; exact e
  kd := fun b o' e _ h => .inl (by
    have hb : b ≠ a := fun z => by subst z; exact h n ⟨t, hl⟩ ha
    rw [upd_ne hb]; exact e)
  dom := fun b h => by
    by_cases hb : b = a
    · subst hb; rw [upd_same]; exact fun z => nomatch z
    · rw [upd_ne hb]; exact h
theorem Rp.write {a : Addr} {n : Nat} {t u : T} {x : V} {o : HO} (s : SR K W H L) (hl : L n = some t) (ha : W.ad n = some a) (r : Rp K W H u x) : Rp K W (upd H a o) u x :=
  Rp.mono (fun _ h => h) (fun _ _ h => h) (.all fun y v f h => by
    have hx : y ≠ a := fun z => by subst z; exact s.nf n y ⟨t, hl⟩ ha f
    rw [upd_ne hx]; exact h) u x r
theorem RpL.write {a : Addr} {n : Nat} {t : T} {us : List T} {xs : List V} {o : HO} (s : SR K W H L) (hl : L n = some t) (ha : W.ad n = some a) (r : RpL K W H us xs) : RpL K W (upd H a o) us xs :=
  RpL.mono (fun _ h => h) (fun _ _ h => h) (.all fun y v f h => by
    have hx : y ≠ a := fun z => by subst z; exact s.nf n y ⟨t, hl⟩ ha f
    rw [upd_ne hx]; exact h) us xs r
/-- some live cells are let go: they are no cells of ours any more -/
theorem SR.less (s : SR K W H L) (h : ∀ n t, L1 n = some t → L n = some t) : SR K W H L1 where
  fin := s.fin
  at_ := fun n ⟨t, l⟩ => s.at_ n ⟨t, h n t l⟩
  fh := s.fh
  nf := fun n a ⟨t, l⟩ e => s.nf n a ⟨t, h n t l⟩ e
  inj := fun n m a ⟨t, l⟩ ⟨u, l2⟩ e1 e2 => s.inj n m a ⟨t, h n t l⟩ ⟨u, h m u l2⟩ e1 e2
  cel := fun n t a l e => s.cel n t a (h n t l) e
theorem Step.less (a : Step W L H W1 L1 H1) (h : ∀ n t, Lb n = some t → L1 n = some t) : Step W L H W1 Lb H1 :=
  ⟨a.F, a.F', a.ad, a.new, fun n hn ⟨t, l⟩ => a.live n hn ⟨t, h n t l⟩, a.keep, a.kd, a.dom⟩
theorem less_kill {n : Nat} : ∀ m t, updS L n none m = some t → L m = some t := fun m t h => by
  by_cases e : m = n
  · subst e; rw [updS_same] at h; cases h
  · rw [updS_ne e] at h; exact h
/-- a live cell is frozen -/
theorem SR.kill {a : Addr} {n : Nat} {t : T} (s : SR K W H L) (hl : L n = some t) (ha : W.ad n = some a) : SR K (W.frz a) H (updS L n none) :=
  (s.less (less_kill (n := n))).frz (s.adh n a ⟨t, hl⟩ ha) fun m ⟨u, l⟩ e => by
    by_cases hm : m = n
    · subst hm; rw [updS_same] at l; cases l
    · rw [updS_ne hm] at l; exact hm (s.inj m n a ⟨u, l⟩ ⟨t, hl⟩ e ha)
theorem Step.kill {a : Addr} {n : Nat} {t : T} (hl : L n = some t) (ha : W.ad n = some a) : Step W L H (W.frz a) (updS L n none) H :=
  (Step.refl.less (less_kill (n := n))).frz (.inr ⟨n, ⟨t, hl⟩, ha⟩)
end

/-! ### environments -/
def EnvR (K : PySem.W.Frag) (W : Wd) (H : Hp) (ρ : TEnv) (σ : L2.St) : Prop := ρ.length = σ.length ∧ ∀ (i : Nat) (t : T), ρ[i]? = some (some t) → ∃ x, σ[i]? = some (some x) ∧ Rp K W H t x
section
variable {K : PySem.W.Frag} {W W1 : Wd} {L L1 : Store} {H H1 : Hp} {ρ : TEnv} {σ : L2.St}
theorem EnvR.step (e : EnvR K W H ρ σ) (a : Step W L H W1 L1 H1) (s : SR K W H L) : EnvR K W1 H1 ρ σ :=
  ⟨e.1, fun i t h => let ⟨x, h1, h2⟩ := e.2 i t h; ⟨x, h1, h2.step a s⟩⟩
theorem EnvR.set {i : Nat} {t : T} {x : V} (e : EnvR K W H ρ σ) (r : Rp K W H t x) : EnvR K W H (ρ.set i (some t)) (σ.set i (some x)) := by
  refine ⟨by rw [List.length_set, List.length_set]; exact e.1, fun j u h => ?_⟩
  by_cases hj : i = j
  · subst hj
    have hi : i < ρ.length := by
      have := (List.getElem?_eq_some_iff.mp h).1
      rwa [List.length_set] at this
    rw [List.getElem?_set_self hi] at h
    cases h
    exact ⟨x, by rw [List.getElem?_set_self (by rw [← e.1]; exact hi)], r⟩
  · rw [List.getElem?_set_ne hj] at h
    obtain ⟨y, h1, h2⟩ := e.2 j u h
    exact ⟨y, by rw [List.getElem?_set_ne hj]; exact h1, h2⟩
def wipeT (ρ : TEnv) : List Nat → TEnv
  | [] => ρ
  | v :: vs => (wipeT ρ vs).set v none
theorem EnvR.forget {i : Nat} {o : Option V} (e : EnvR K W H ρ σ) : EnvR K W H (ρ.set i none) (σ.set i o) := by
  refine ⟨by rw [List.length_set, List.length_set]; exact e.1, fun j u h => ?_⟩
  by_cases hj : i = j
  · subst hj
    have hi : i < ρ.length := by
      have := (List.getElem?_eq_some_iff.mp h).1
      rwa [List.length_set] at this
    rw [List.getElem?_set_self hi] at h
    cases h
  · rw [List.getElem?_set_ne hj] at h
    obtain ⟨y, h1, h2⟩ := e.2 j u h
    exact ⟨y, by rw [List.getElem?_set_ne hj]; exact h1, h2⟩
theorem EnvR.wipe (e : EnvR K W H ρ σ) : ∀ vs : List Nat, EnvR K W H (wipeT ρ vs) (L2.wipe σ vs)
  | [] => e
  | v :: vs => by
    unfold wipeT L2.wipe
    exact (EnvR.wipe e vs).forget
end
end TL


/-! The tree layer, part B: contexts, expressions. -/
namespace TL
open PySem PySem.Spec PyProof.Rows L2

/-- results: a tree; a new object that is nobody's yet -/
inductive R where
  | v (t : T)
  | n (t : T)
def RR (K : PySem.W.Frag) (W : Wd) (Lz : Store) (H0 H : Hp) : R → V → Prop
  | .v t, x => Rp K W H t x
  | .n t, x => ∃ a, x = .ref a ∧ H0 a = none ∧ ¬ W.F a ∧ (∀ n : Nat, Live Lz n → W.ad n ≠ some a) ∧ CellR K W H t a

/-- where the code stands -/
structure Cq (cm : Bool) (CX : CXT) (P : Program) (w : World) (K : PySem.W.Frag) (mg : Str → Option Value) (base : Heap) (k : Nat) (N : List Str) (sc : Scope) (fs : Str → Bool) (X : Cx) : Prop where
  hP : X.prog = P
  hw : X.w = w
  hK : X.K = K
  hmg : X.mg = mg
  hb : X.base = base
  hN : X.N = N
  hsc : X.env.scope = sc
  calm : cm = true → X.calm = true
  room : cm = true → Room k X.A
  roomH : L2H.RoomH k X.A
  gd : X.A.guards = some []
  nd : N.Nodup
  kind : sc.kind = .function
  fn : X.fn = fs
  cx : ∀ (st : List Env) (H : Hp) (s : Shared) (e : Value) (s' : Shared), CX st H s E0 e s' → False

/-- .. ahead of any except suite -/
abbrev Ct (CX : CXT) (P : Program) (w : World) (K : PySem.W.Frag) (mg : Str → Option Value) (base : Heap) (k : Nat) (N : List Str) (sc : Scope) (fs : Str → Bool) (X : Cx) : Prop := Cq true CX P w K mg base k N sc fs X
def wpE (X : Cx) (e : Expr) (σ : L2.St) (H : Hp) (Q : VK) : Prop := ∀ (pins : List (Addr × Obj)) (s : Shared), Inv X pins σ H s → wpAny (model X.prog X.w) X.A (eval e X.env) (EP X pins σ Q) X.xe s
def wpT (X : Cx) (e : Expr) (σ : L2.St) (H : Hp) (Q : Bool → Hp → Prop) : Prop := ∀ (pins : List (Addr × Obj)) (s : Shared), Inv X pins σ H s → wpAny (model X.prog X.w) X.A (isTrue e X.env (eval e X.env)) (TP X pins σ Q) X.xe s
def wpW (X : Cx) (e : Expr) (σ : L2.St) (H : Hp) (Q : Bool → Hp → Prop) : Prop := ∀ (wh : Sem Value) (pins : List (Addr × Obj)) (s : Shared), Inv X pins σ H s → wpAny (model X.prog X.w) X.A (isTrue e X.env wh) (TP X pins σ Q) X.xe s
def wpA (X : Cx) (es : List Expr) (σ : L2.St) (H : Hp) (Q : List V → Hp → Prop) : Prop := ∀ (pos : Pos) (pins : List (Addr × Obj)) (s : Shared), Inv X pins σ H s → wpAny (model X.prog X.w) X.A (spliced (backTo pos (starEach es X.env))) (AP X pins σ Q) X.xe s
theorem pe_wp {X : Cx} {e : Expr} : PE X e (wpE X e) := ⟨fun pins s _ _ _ I h => h pins s I⟩
theorem pt_wp {X : Cx} {e : Expr} : PT X e (wpT X e) := ⟨fun pins s _ _ _ I h => h pins s I⟩
theorem pw_wp {X : Cx} {e : Expr} : PW X e (wpW X e) := ⟨fun wh pins s _ _ _ I h => h wh pins s I⟩
theorem pa_wp {X : Cx} {es : List Expr} : PA X es (wpA X es) := ⟨fun pos pins s _ _ _ I h => h pos pins s I⟩
theorem wp_pe {X : Cx} {e : Expr} {t : TE} {σ : L2.St} {H : Hp} {Q : VK} (h : PE X e t) (q : t σ H Q) : wpE X e σ H Q := fun pins s I => h.run pins s σ H Q I q
theorem wp_pt {X : Cx} {e : Expr} {t : TT} {σ : L2.St} {H : Hp} {Q : Bool → Hp → Prop} (h : PT X e t) (q : t σ H Q) : wpT X e σ H Q := fun pins s I => h.run pins s σ H Q I q
theorem wp_pw {X : Cx} {e : Expr} {t : TT} {σ : L2.St} {H : Hp} {Q : Bool → Hp → Prop} (h : PW X e t) (q : t σ H Q) : wpW X e σ H Q := fun wh pins s I => h.run wh pins s σ H Q I q
theorem wp_pa {X : Cx} {es : List Expr} {t : TA} {σ : L2.St} {H : Hp} {Q : List V → Hp → Prop} (h : PA X es t) (q : t σ H Q) : wpA X es σ H Q := fun pos pins s I => h.run pos pins s σ H Q I q

/-- e gives r, the store is L' behind it -/
structure Ev (X : Cx) (e : Expr) (ρ : TEnv) (L : Store) (r : R) (L' : Store) : Prop where
  go : ∀ (W : Wd) (H : Hp) (σ : L2.St) (Q : VK), SR X.K W H L → EnvR X.K W H ρ σ → (∀ x W' H', Step W L H W' L' H' → SR X.K W' H' L' → RR X.K W' L' H H' r x → Q x H') → wpE X e σ H Q
instance {X : Cx} {e : Expr} {ρ : TEnv} {L : Store} {r : R} {L' : Store} : CoeFun (Ev X e ρ L r L') (fun _ => ∀ (W : Wd) (H : Hp) (σ : L2.St) (Q : VK), SR X.K W H L → EnvR X.K W H ρ σ → (∀ x W' H', Step W L H W' L' H' → SR X.K W' H' L' → RR X.K W' L' H H' r x → Q x H') → wpE X e σ H Q) := ⟨Ev.go⟩
structure EvB (X : Cx) (e : Expr) (ρ : TEnv) (L : Store) (b : Bool) (L' : Store) : Prop where
  go : ∀ (W : Wd) (H : Hp) (σ : L2.St) (Q : Bool → Hp → Prop), SR X.K W H L → EnvR X.K W H ρ σ → (∀ W' H', Step W L H W' L' H' → SR X.K W' H' L' → Q b H') → wpT X e σ H Q
instance {X : Cx} {e : Expr} {ρ : TEnv} {L : Store} {b : Bool} {L' : Store} : CoeFun (EvB X e ρ L b L') (fun _ => ∀ (W : Wd) (H : Hp) (σ : L2.St) (Q : Bool → Hp → Prop), SR X.K W H L → EnvR X.K W H ρ σ → (∀ W' H', Step W L H W' L' H' → SR X.K W' H' L' → Q b H') → wpT X e σ H Q) := ⟨EvB.go⟩
structure EvW (X : Cx) (e : Expr) (ρ : TEnv) (L : Store) (b : Bool) (L' : Store) : Prop where
  go : ∀ (W : Wd) (H : Hp) (σ : L2.St) (Q : Bool → Hp → Prop), SR X.K W H L → EnvR X.K W H ρ σ → (∀ W' H', Step W L H W' L' H' → SR X.K W' H' L' → Q b H') → wpW X e σ H Q
instance {X : Cx} {e : Expr} {ρ : TEnv} {L : Store} {b : Bool} {L' : Store} : CoeFun (EvW X e ρ L b L') (fun _ => ∀ (W : Wd) (H : Hp) (σ : L2.St) (Q : Bool → Hp → Prop), SR X.K W H L → EnvR X.K W H ρ σ → (∀ W' H', Step W L H W' L' H' → SR X.K W' H' L' → Q b H') → wpW X e σ H Q) := ⟨EvW.go⟩
structure EvA (X : Cx) (es : List Expr) (ρ : TEnv) (L : Store) (ts : List T) (L' : Store) : Prop where
  go : ∀ (W : Wd) (H : Hp) (σ : L2.St) (Q : List V → Hp → Prop), SR X.K W H L → EnvR X.K W H ρ σ → (∀ xs W' H', Step W L H W' L' H' → SR X.K W' H' L' → RpL X.K W' H' ts xs → Q xs H') → wpA X es σ H Q
instance {X : Cx} {es : List Expr} {ρ : TEnv} {L : Store} {ts : List T} {L' : Store} : CoeFun (EvA X es ρ L ts L') (fun _ => ∀ (W : Wd) (H : Hp) (σ : L2.St) (Q : List V → Hp → Prop), SR X.K W H L → EnvR X.K W H ρ σ → (∀ xs W' H', Step W L H W' L' H' → SR X.K W' H' L' → RpL X.K W' H' ts xs → Q xs H') → wpA X es σ H Q) := ⟨EvA.go⟩

section
variable {cm : Bool} {CX : CXT} {P : Program} {w : World} {K : PySem.W.Frag} {mg : Str → Option Value} {base : Heap} {k : Nat} {N : List Str} {sc : Scope} {fs : Str → Bool} {X : Cx}
variable {e a b c : Expr} {es : List Expr} {ρ : TEnv} {L L1 Lb Lc : Store} {t u : T} {ts : List T} {pos : Pos} {i j : Int}

/-- a new object is frozen -/
theorem Ev.fz (h : Ev X e ρ L (.n t) L1) : Ev X e ρ L (.v t) L1 := ⟨fun W H σ Q s en q => h W H σ Q s en fun x W1 H1 st s1 r => by
  obtain ⟨a, rfl, hn, hf, hc, cr⟩ := r
  exact q _ (W1.frz a) H1 (st.frz (.inl hn)) (s1.frz cr.some hc) (CellR.rp (.inr rfl) cr.frz)⟩
theorem Ev.eq {r r' : R} (h : Ev X e ρ L r L1) (e1 : r = r') : Ev X e ρ L r' L1 := e1 ▸ h
theorem EvB.eq {x y : Bool} (h : EvB X e ρ L x L1) (e1 : x = y) : EvB X e ρ L y L1 := e1 ▸ h

/-! names and constants -/
def nmOk (N : List Str) (sc : Scope) (i : Nat) (x : Str) : Bool :=
  decide (N[i]? = some x) && (match sc.names.lookup x with | some .local => true | some .cell => true | some .free => true | _ => false) && !(x == ("__debug__" : Str)) && !(x == ("__classdict__" : Str))
def glOk (sc : Scope) (x : Str) : Bool := (match sc.names.lookup x with | some .globalImplicit => true | _ => false) && !(x == ("__debug__" : Str)) && !decide (x = "__name__")
theorem nmOk_of {N : List Str} {sc : Scope} {i : Nat} {x : Str} (h : nmOk N sc i x = true) : N[i]? = some x ∧ Vis sc x ∧ (x == ("__debug__" : Str)) = false ∧ (x == ("__classdict__" : Str)) = false := by
  unfold nmOk at h
  simp only [Bool.and_eq_true, decide_eq_true_eq, Bool.not_eq_true'] at h
  obtain ⟨⟨⟨h1, h2⟩, h3⟩, h4⟩ := h
  refine ⟨h1, ?_, h3, h4⟩
  unfold Vis
  split at h2
  · exact .inl (by assumption)
  · exact .inr (.inl (by assumption))
  · exact .inr (.inr (by assumption))
  · cases h2
theorem glOk_of {sc : Scope} {x : Str} (h : glOk sc x = true) : sc.names.lookup x = some .globalImplicit ∧ (x == ("__debug__" : Str)) = false ∧ x ≠ "__name__" := by
  unfold glOk at h
  simp only [Bool.and_eq_true, decide_eq_true_eq, Bool.not_eq_true', decide_eq_false_iff_not] at h
  obtain ⟨⟨h1, h2⟩, h3⟩ := h
  refine ⟨?_, h2, h3⟩
  split at h1
  · assumption
  · cases h1
theorem Cq.gl {x : Str} (ct : Cq cm CX P w K mg base k N sc fs X) (h : glOk sc x = true) : Gl X x := by
  show X.env.scope.names.lookup x = some .globalImplicit
  rw [ct.hsc]; exact (glOk_of h).1

theorem ev_var (ct : Cq cm CX P w K mg base k N sc fs X) (n : Nat) {x : Str} (hρ : ρ[n]? = some (some t)) (h : nmOk N sc n x = true) : Ev X (.Name x pos) ρ L (.v t) L := by
  refine ⟨fun W H σ Q s en q => ?_⟩
  obtain ⟨h1, h2, h3, h4⟩ := nmOk_of h
  obtain ⟨y, e1, e2⟩ := en.2 n t hρ
  exact wp_pe (pe_var (by rw [ct.hN]; exact h1) (by rw [ct.hsc]; exact h2) h3 h4) ⟨y, e1, q y W H .refl s e2⟩
theorem ev_atom {x : V} (h : PE X e (tC x)) : Ev X e ρ L (.v (.v x)) L := ⟨fun W H σ Q s _ q => wp_pe h (q x W H .refl s (.v x))⟩
theorem ev_int {j pos} : Ev X (.Constant (.int i) j pos) ρ L (.v (I i)) L := ev_atom pe_int
theorem ev_bl {x : Bool} {j pos} : Ev X (.Constant (.bool x) j pos) ρ L (.v (B x)) L := ev_atom pe_bl
theorem ev_non {j pos} : Ev X (.Constant .none j pos) ρ L (.v N0) L := ev_atom pe_non
theorem ev_str {x : Str} {j pos} : Ev X (.Constant (.str x) j pos) ρ L (.v (S x)) L := ev_atom pe_str
/-- a module's constant, class or def as a value -/
theorem ev_glob (ct : Cq cm CX P w K mg base k N sc fs X) {x : Str} {y : V} {u : Value} (hm : mg x = some u) (r : RelV y u) (h : glOk sc x = true) : Ev X (.Name x pos) ρ L (.v (.v y)) L :=
  ev_atom (pe_glob (ct.gl h) (by rw [ct.hmg]; exact hm) r (glOk_of h).2.1)
theorem ev_blt (ct : Cq cm CX P w K mg base k N sc fs X) {x : Str} {y : V} {u : Value} (hm : mg x = none) (hb : bootBuiltins x = some u) (r : RelV y u) (h : glOk sc x = true) : Ev X (.Name x pos) ρ L (.v (.v y)) L :=
  ev_atom (pe_bltn (ct.gl h) (by rw [ct.hmg]; exact hm) hb r (glOk_of h).2.2 (glOk_of h).2.1)

/-! operators by values -/
/-- r gives z of the trees ta, tb, the store as it was -/
def OpT (K : PySem.W.Frag) (r : R2) (ta tb : T) (L : Store) (z : R) : Prop :=
  ∀ (W : Wd) (H : Hp) (x y : V) (Q : VK), SR K W H L → Rp K W H ta x → Rp K W H tb y → (∀ v W' H', Step W L H W' L H' → SR K W' H' L → RR K W' L H H' z v → Q v H') → r x y H Q
theorem RR.back {W' : Wd} {Lz : Store} {H0 H1 H2 : Hp} {r : R} {x : V} (h : RR K W' Lz H1 H2 r x) (d : ∀ a, H0 a ≠ none → H1 a ≠ none) : RR K W' Lz H0 H2 r x := by
  cases r with
  | v t => exact h
  | n t =>
    obtain ⟨a, e, h1, h2, h3, h4⟩ := h
    refine ⟨a, e, ?_, h2, h3, h4⟩
    cases q : H0 a with
    | none => rfl
    | some o => exact absurd h1 (d a (by rw [q]; exact fun z => nomatch z))
theorem ev_op2 {r : R2} {z : R} {f : Expr} (hp : ∀ {ta tb : TE}, PE X a ta → PE X b tb → PE X f (tOp r ta tb)) (ha : Ev X a ρ L (.v t) L1) (hb : Ev X b ρ L1 (.v u) Lb) (hr : OpT X.K r t u Lb z) : Ev X f ρ L z Lb := by
  refine ⟨fun W H σ Q s en q => ?_⟩
  refine wp_pe (hp pe_wp pe_wp) ?_
  refine ha W H σ _ s en fun x W1 H1 st1 s1 r1 => ?_
  refine hb W1 H1 σ _ s1 (en.step st1 s) fun y W2 H2 st2 s2 r2 => ?_
  refine hr W2 H2 x y Q s2 (Rp.step r1 st2 s1) r2 fun v W3 H3 st3 s3 r3 => ?_
  exact q v W3 H3 ((st1.trans st2).trans st3) s3 (r3.back fun a h => st2.dom a (st1.dom a h))
theorem ev_bin {op : Operator} {r : R2} {z : R} (ho : OpR X (binaryOp op) r) (ha : Ev X a ρ L (.v t) L1) (hb : Ev X b ρ L1 (.v u) Lb) (hr : OpT X.K r t u Lb z) : Ev X (.BinOp a op b pos) ρ L z Lb :=
  ev_op2 (fun h1 h2 => pe_op ho h1 h2) ha hb hr
theorem ot_I0 {g : Int → Int → V} : OpT K (rI0 g) (I i) (I j) L (.v (.v (g i j))) := fun W H x y Q s r1 r2 q => by
  cases r1; cases r2
  exact ⟨i, j, rfl, rfl, q _ W H .refl s (.v _)⟩
theorem ot_I {C : Int → Int → Prop} {g : Int → Int → V} (h : C i j) : OpT K (rI C g) (I i) (I j) L (.v (.v (g i j))) := fun W H x y Q s r1 r2 q => by
  cases r1; cases r2
  exact ⟨i, j, rfl, rfl, h, q _ W H .refl s (.v _)⟩
theorem ev_add (ha : Ev X a ρ L (.v (I i)) L1) (hb : Ev X b ρ L1 (.v (I j)) Lb) : Ev X (.BinOp a .Add b pos) ρ L (.v (I (i + j))) Lb := ev_bin op_add ha hb ot_I0
theorem ev_sub (ha : Ev X a ρ L (.v (I i)) L1) (hb : Ev X b ρ L1 (.v (I j)) Lb) : Ev X (.BinOp a .Sub b pos) ρ L (.v (I (i - j))) Lb := ev_bin op_sub ha hb ot_I0
theorem ev_mul (ha : Ev X a ρ L (.v (I i)) L1) (hb : Ev X b ρ L1 (.v (I j)) Lb) (h : CMul i j) : Ev X (.BinOp a .Mult b pos) ρ L (.v (I (i * j))) Lb := ev_bin op_mul ha hb (ot_I h)
theorem ev_mod (ha : Ev X a ρ L (.v (I i)) L1) (hb : Ev X b ρ L1 (.v (I j)) Lb) (h : 0 < j) : Ev X (.BinOp a .Mod b pos) ρ L (.v (I (i % j))) Lb := ev_bin op_mod ha hb (ot_I (C := fun _ j => 0 < j) h)
theorem ev_fdiv (ha : Ev X a ρ L (.v (I i)) L1) (hb : Ev X b ρ L1 (.v (I j)) Lb) (h : CDiv i j) : Ev X (.BinOp a .FloorDiv b pos) ρ L (.v (I (i / j))) Lb := ev_bin op_fdiv ha hb (ot_I h)
theorem ev_pow (ha : Ev X a ρ L (.v (I i)) L1) (hb : Ev X b ρ L1 (.v (I j)) Lb) (h : CPow i j) : Ev X (.BinOp a .Pow b pos) ρ L (.v (I (i ^ j.toNat))) Lb := ev_bin op_pow ha hb (ot_I h)
theorem ev_neg (ha : Ev X a ρ L (.v (I i)) L1) : Ev X (.UnaryOp .USub a pos) ρ L (.v (I (-i))) L1 := by
  refine ⟨fun W H σ Q s en q => ?_⟩
  refine wp_pe (pe_un un_neg pe_wp) ?_
  refine ha W H σ _ s en fun x W1 H1 st1 s1 r1 => ?_
  cases r1
  exact ⟨i, rfl, q _ W1 H1 st1 s1 (.v _)⟩

/-! comparisons -/
theorem ev_cmp {op : CmpOp} {r : R2} {z : R} (ho : OpR X (compareOp op) r) (ha : Ev X a ρ L (.v t) L1) (hb : Ev X b ρ L1 (.v u) Lb) (hr : OpT X.K r t u Lb z) (hm : behindInMarks op b = false) : Ev X (.Compare a [op] [b] pos) ρ L z Lb :=
  ev_op2 (fun h1 h2 => pe_cmpR ho h1 h2 hm) ha hb hr
theorem eb_cmp {op : CmpOp} {r : R2} {z : Bool} (ho : OpR X (compareOp op) r) (ha : Ev X a ρ L (.v t) L1) (hb : Ev X b ρ L1 (.v u) Lb) (hr : OpT X.K r t u Lb (.v (B z))) (hm : behindInMarks op b = false) : EvB X (.Compare a [op] [b] pos) ρ L z Lb := by
  refine ⟨fun W H σ Q s en q => ?_⟩
  refine wp_pt (pt_cmpR ho pe_wp pe_wp hm) ?_
  refine ha W H σ _ s en fun x W1 H1 st1 s1 r1 => ?_
  refine hb W1 H1 σ _ s1 (en.step st1 s) fun y W2 H2 st2 s2 r2 => ?_
  refine hr W2 H2 x y _ s2 (Rp.step r1 st2 s1) r2 fun v W3 H3 st3 s3 r3 => ?_
  cases r3
  exact ⟨z, rfl, q W3 H3 ((st1.trans st2).trans st3) s3⟩
theorem ev_lt (ha : Ev X a ρ L (.v (I i)) L1) (hb : Ev X b ρ L1 (.v (I j)) Lb) : Ev X (.Compare a [.Lt] [b] pos) ρ L (.v (B (decide (i < j)))) Lb := ev_cmp op_lt ha hb ot_I0 (nomark _)
theorem ev_le (ha : Ev X a ρ L (.v (I i)) L1) (hb : Ev X b ρ L1 (.v (I j)) Lb) : Ev X (.Compare a [.LtE] [b] pos) ρ L (.v (B (decide (i ≤ j)))) Lb := ev_cmp op_le ha hb ot_I0 (nomark _)
theorem ev_gt (ha : Ev X a ρ L (.v (I i)) L1) (hb : Ev X b ρ L1 (.v (I j)) Lb) : Ev X (.Compare a [.Gt] [b] pos) ρ L (.v (B (decide (j < i)))) Lb := ev_cmp op_gt ha hb ot_I0 (nomark _)
theorem ev_ge (ha : Ev X a ρ L (.v (I i)) L1) (hb : Ev X b ρ L1 (.v (I j)) Lb) : Ev X (.Compare a [.GtE] [b] pos) ρ L (.v (B (decide (j ≤ i)))) Lb := ev_cmp op_ge ha hb ot_I0 (nomark _)
theorem eb_lt (ha : Ev X a ρ L (.v (I i)) L1) (hb : Ev X b ρ L1 (.v (I j)) Lb) : EvB X (.Compare a [.Lt] [b] pos) ρ L (decide (i < j)) Lb := eb_cmp op_lt ha hb ot_I0 (nomark _)
theorem eb_le (ha : Ev X a ρ L (.v (I i)) L1) (hb : Ev X b ρ L1 (.v (I j)) Lb) : EvB X (.Compare a [.LtE] [b] pos) ρ L (decide (i ≤ j)) Lb := eb_cmp op_le ha hb ot_I0 (nomark _)
theorem eb_gt (ha : Ev X a ρ L (.v (I i)) L1) (hb : Ev X b ρ L1 (.v (I j)) Lb) : EvB X (.Compare a [.Gt] [b] pos) ρ L (decide (j < i)) Lb := eb_cmp op_gt ha hb ot_I0 (nomark _)
theorem eb_ge (ha : Ev X a ρ L (.v (I i)) L1) (hb : Ev X b ρ L1 (.v (I j)) Lb) : EvB X (.Compare a [.GtE] [b] pos) ρ L (decide (j ≤ i)) Lb := eb_cmp op_ge ha hb ot_I0 (nomark _)
/-- == of data: atoms, lists, tuples of any depth -/
def pdV : V → Option PyData
  | .non => some .none
  | .bl b => some (.bool b)
  | .int i => some (.int i)
  | .str x => some (.str x)
  | _ => none
mutual
def pd : T → Option PyData
  | .v x => pdV x
  | .lst ts => (pdL ts).map .list
  | .tup ts => (pdL ts).map .tuple
  | _ => none
def pdL : List T → Option (List PyData)
  | [] => some []
  | t :: ts => match pd t, pdL ts with
    | some d, some ds => some (d :: ds)
    | _, _ => none
end
theorem dp_atom {H : Hp} : ∀ {x : V} {d : PyData}, pdV x = some d → Dp K H x d := fun {x d} h => by
  cases x <;> simp [pdV] at h <;> subst h
  · exact .non
  · exact .bl _
  · exact .int _
  · exact .str _
mutual
theorem dp_of {W : Wd} {H : Hp} : ∀ (t : T) (x : V) (d : PyData), Rp K W H t x → pd t = some d → Dp K H x d
  | .v y, x, d, r, h => by
    cases r
    unfold pd at h
    exact dp_atom h
  | .lst ts, x, d, r, h => by
    unfold pd at h
    cases q : pdL ts with
    | none => rw [q] at h; cases h
    | some ds =>
      rw [q] at h; cases h
      cases r with
      | lst f h r => exact .lst (.inl (.inl h)) (dpL_of ts _ ds r q)
  | .tup ts, x, d, r, h => by
    unfold pd at h
    cases q : pdL ts with
    | none => rw [q] at h; cases h
    | some ds =>
      rw [q] at h; cases h
      cases r with
      | tup f h r => exact .tup (.inl (.inl h)) (dpL_of ts _ ds r q)
  | .cel _, _, _, _, h => by unfold pd at h; cases h
  | .scr _, _, _, _, h => by unfold pd at h; cases h
  | .dK _ _, _, _, _, h => by unfold pd at h; cases h
  | .dT _ _, _, _, _, h => by unfold pd at h; cases h
  | .set _ _, _, _, _, h => by unfold pd at h; cases h
  | .ins _ _ _, _, _, _, h => by unfold pd at h; cases h
  | .exc _ _ _ _ _, _, _, _, h => by unfold pd at h; cases h
theorem dpL_of {W : Wd} {H : Hp} : ∀ (ts : List T) (xs : List V) (ds : List PyData), RpL K W H ts xs → pdL ts = some ds → DpAll K H xs ds
  | [], xs, ds, r, h => by
    unfold pdL at h; cases h; cases r; exact .nil
  | t :: ts, xs, ds, r, h => by
    unfold pdL at h
    cases q1 : pd t with
    | none => rw [q1] at h; cases h
    | some d =>
      cases q2 : pdL ts with
      | none => rw [q1, q2] at h; cases h
      | some es =>
        rw [q1, q2] at h; cases h
        cases r with
        | cons r rs => exact .cons (dp_of t _ d r q1) (dpL_of ts _ es rs q2)
end
/-- data that may be compared -/
def shp (t : T) : Bool := match pd t with
  | some d => SeqAt.shaped d
  | none => false
def eqT (t u : T) : Bool := match pd t, pd u with
  | some d, some e => PyData.eqv d e
  | _, _ => false
theorem shp_of {t : T} (h : shp t = true) : ∃ d, pd t = some d ∧ SeqAt.shaped d = true := by
  unfold shp at h
  cases q : pd t with
  | none => rw [q] at h; cases h
  | some d => rw [q] at h; exact ⟨d, rfl, h⟩
theorem ot_eqD (h1 : shp t = true) (h2 : shp u = true) : OpT K (rEqD K) t u L (.v (B (eqT t u))) := fun W H x y Q s r1 r2 q => by
  obtain ⟨d, e1, s1⟩ := shp_of h1
  obtain ⟨e, e2, s2⟩ := shp_of h2
  refine ⟨d, e, dp_of t x d r1 e1, dp_of u y e r2 e2, s1, s2, ?_⟩
  have : eqT t u = PyData.eqv d e := by unfold eqT; rw [e1, e2]
  rw [← this]
  exact q _ W H .refl s (.v _)
theorem ot_neD (h1 : shp t = true) (h2 : shp u = true) : OpT K (rNeD K) t u L (.v (B (!eqT t u))) := fun W H x y Q s r1 r2 q => by
  obtain ⟨d, e1, s1⟩ := shp_of h1
  obtain ⟨e, e2, s2⟩ := shp_of h2
  refine ⟨d, e, dp_of t x d r1 e1, dp_of u y e r2 e2, s1, s2, ?_⟩
  have : eqT t u = PyData.eqv d e := by unfold eqT; rw [e1, e2]
  rw [← this]
  exact q _ W H .refl s (.v _)
theorem Cq.u64 (ct : Cq cm CX P w K mg base k N sc fs X) : X.A.units + 64 < cLine := by have := ct.roomH.un; omega
theorem Cq.u65 (ct : Cq cm CX P w K mg base k N sc fs X) : X.A.units + 65 < cLine := by have := ct.roomH.un; omega
theorem Cq.u1 (ct : Cq cm CX P w K mg base k N sc fs X) : X.A.units + 1 < cLine := by have := ct.roomH.un; omega
theorem ev_eq (ct : Cq cm CX P w K mg base k N sc fs X) (ha : Ev X a ρ L (.v t) L1) (hb : Ev X b ρ L1 (.v u) Lb) (h1 : shp t = true) (h2 : shp u = true) : Ev X (.Compare a [.Eq] [b] pos) ρ L (.v (B (eqT t u))) Lb := ev_cmp (op_eqD ct.u64) ha hb (ot_eqD h1 h2) (nomark _)
theorem ev_ne (ct : Cq cm CX P w K mg base k N sc fs X) (ha : Ev X a ρ L (.v t) L1) (hb : Ev X b ρ L1 (.v u) Lb) (h1 : shp t = true) (h2 : shp u = true) : Ev X (.Compare a [.NotEq] [b] pos) ρ L (.v (B (!eqT t u))) Lb := ev_cmp (op_neD ct.u64) ha hb (ot_neD h1 h2) (nomark _)
theorem eb_eq (ct : Cq cm CX P w K mg base k N sc fs X) (ha : Ev X a ρ L (.v t) L1) (hb : Ev X b ρ L1 (.v u) Lb) (h1 : shp t = true) (h2 : shp u = true) : EvB X (.Compare a [.Eq] [b] pos) ρ L (eqT t u) Lb := eb_cmp (op_eqD ct.u64) ha hb (ot_eqD h1 h2) (nomark _)
theorem eb_ne (ct : Cq cm CX P w K mg base k N sc fs X) (ha : Ev X a ρ L (.v t) L1) (hb : Ev X b ρ L1 (.v u) Lb) (h1 : shp t = true) (h2 : shp u = true) : EvB X (.Compare a [.NotEq] [b] pos) ρ L (!eqT t u) Lb := eb_cmp (op_neD ct.u64) ha hb (ot_neD h1 h2) (nomark _)
/-- == of ints -/
theorem ot_eqI : OpT K rEq (I i) (I j) L (.v (B (decide (i = j)))) := fun W H x y Q s r1 r2 q => by
  cases r1; cases r2
  have : decide (i = j) = decide (V.int i = V.int j) := by
    by_cases e : i = j
    · subst e; simp
    · rw [decide_eq_false e, decide_eq_false (fun z => e (V.int.inj z))]
  exact ⟨rfl, by rw [← this]; exact q _ W H .refl s (.v _)⟩
theorem ot_neI : OpT K rNe (I i) (I j) L (.v (B (!decide (i = j)))) := fun W H x y Q s r1 r2 q => by
  cases r1; cases r2
  have : decide (i = j) = decide (V.int i = V.int j) := by
    by_cases e : i = j
    · subst e; simp
    · rw [decide_eq_false e, decide_eq_false (fun z => e (V.int.inj z))]
  exact ⟨rfl, by rw [← this]; exact q _ W H .refl s (.v _)⟩
theorem ev_eqI (ha : Ev X a ρ L (.v (I i)) L1) (hb : Ev X b ρ L1 (.v (I j)) Lb) : Ev X (.Compare a [.Eq] [b] pos) ρ L (.v (B (decide (i = j)))) Lb := ev_cmp op_eq ha hb ot_eqI (nomark _)
theorem ev_neI (ha : Ev X a ρ L (.v (I i)) L1) (hb : Ev X b ρ L1 (.v (I j)) Lb) : Ev X (.Compare a [.NotEq] [b] pos) ρ L (.v (B (!decide (i = j)))) Lb := ev_cmp op_ne ha hb ot_neI (nomark _)
theorem eb_eqI (ha : Ev X a ρ L (.v (I i)) L1) (hb : Ev X b ρ L1 (.v (I j)) Lb) : EvB X (.Compare a [.Eq] [b] pos) ρ L (decide (i = j)) Lb := eb_cmp op_eq ha hb ot_eqI (nomark _)
theorem eb_neI (ha : Ev X a ρ L (.v (I i)) L1) (hb : Ev X b ρ L1 (.v (I j)) Lb) : EvB X (.Compare a [.NotEq] [b] pos) ρ L (!decide (i = j)) Lb := eb_cmp op_ne ha hb ot_neI (nomark _)
/-- is None -/
def isN : T → Bool
  | .v x => decide (x = .non)
  | _ => false
theorem isN_of {W : Wd} {H : Hp} {x : V} (r : Rp K W H t x) : decide (x = .non) = isN t := by
  cases r <;> simp [isN]
theorem ot_isN : OpT K (fun x y H Q => y = .non ∧ Q (.bl (decide (x = .non))) H) t N0 L (.v (B (isN t))) := fun W H x y Q s r1 r2 q => by
  cases r2
  exact ⟨rfl, by rw [isN_of r1]; exact q _ W H .refl s (.v _)⟩
theorem ot_notN : OpT K (fun x y H Q => y = .non ∧ Q (.bl (!decide (x = .non))) H) t N0 L (.v (B (!isN t))) := fun W H x y Q s r1 r2 q => by
  cases r2
  exact ⟨rfl, by rw [isN_of r1]; exact q _ W H .refl s (.v _)⟩
theorem ev_isN (ha : Ev X a ρ L (.v t) L1) {j p} : Ev X (.Compare a [.Is] [.Constant .none j p] pos) ρ L (.v (B (isN t))) L1 := ev_cmp op_isN ha ev_non ot_isN (nomark _)
theorem eb_isN (ha : Ev X a ρ L (.v t) L1) {j p} : EvB X (.Compare a [.Is] [.Constant .none j p] pos) ρ L (isN t) L1 := eb_cmp op_isN ha ev_non ot_isN (nomark _)
theorem ev_notN (ha : Ev X a ρ L (.v t) L1) {j p} : Ev X (.Compare a [.IsNot] [.Constant .none j p] pos) ρ L (.v (B (!isN t))) L1 := ev_cmp op_notN ha ev_non ot_notN (nomark _)
theorem eb_notN (ha : Ev X a ρ L (.v t) L1) {j p} : EvB X (.Compare a [.IsNot] [.Constant .none j p] pos) ρ L (!isN t) L1 := eb_cmp op_notN ha ev_non ot_notN (nomark _)
/-- x in a list of data -/
def inT (x : T) : T → Bool
  | .lst ts => ts.any fun y => eqT y x
  | .tup ts => ts.any fun y => eqT y x
  | _ => false
theorem any_pd {ts : List T} {ds : List PyData} {x : T} {d : PyData} (h : pdL ts = some ds) (hd : pd x = some d) : (ds.any fun z => PyData.eqv z d) = ts.any fun y => eqT y x := by
  induction ts generalizing ds with
  | nil => unfold pdL at h; cases h; rfl
  | cons t ts ih =>
    unfold pdL at h
    cases q1 : pd t with
    | none => rw [q1] at h; cases h
    | some d1 =>
      cases q2 : pdL ts with
      | none => rw [q1, q2] at h; cases h
      | some es =>
        rw [q1, q2] at h; cases h
        have e1 : eqT t x = PyData.eqv d1 d := by unfold eqT; rw [q1, hd]
        rw [List.any_cons, List.any_cons, ih q2, e1]
theorem pd_lst {ts : List T} {d : PyData} (h : pd (.lst ts) = some d) : ∃ ds, d = .list ds ∧ pdL ts = some ds := by
  unfold pd at h
  cases q : pdL ts with
  | none => rw [q] at h; cases h
  | some ds => rw [q] at h; cases h; exact ⟨ds, rfl, rfl⟩
theorem ot_inD (h1 : shp t = true) (h2 : shp (.lst ts) = true) : OpT K (rInD K) t (.lst ts) L (.v (B (inT t (.lst ts)))) := fun W H x y Q s r1 r2 q => by
  obtain ⟨d, e1, s1⟩ := shp_of h1
  obtain ⟨e, e2, s2⟩ := shp_of h2
  obtain ⟨ds, rfl, e3⟩ := pd_lst e2
  refine ⟨d, ds, dp_of t x d r1 e1, dp_of _ y _ r2 e2, s1, s2, ?_⟩
  rw [any_pd e3 e1]
  exact q _ W H .refl s (.v _)
theorem ot_notInD (h1 : shp t = true) (h2 : shp (.lst ts) = true) : OpT K (rNotInD K) t (.lst ts) L (.v (B (!inT t (.lst ts)))) := fun W H x y Q s r1 r2 q => by
  obtain ⟨d, e1, s1⟩ := shp_of h1
  obtain ⟨e, e2, s2⟩ := shp_of h2
  obtain ⟨ds, rfl, e3⟩ := pd_lst e2
  refine ⟨d, ds, dp_of t x d r1 e1, dp_of _ y _ r2 e2, s1, s2, ?_⟩
  rw [any_pd e3 e1]
  exact q _ W H .refl s (.v _)
theorem ev_in (ct : Cq cm CX P w K mg base k N sc fs X) (ha : Ev X a ρ L (.v t) L1) (hb : Ev X b ρ L1 (.v (.lst ts)) Lb) (h1 : shp t = true) (h2 : shp (.lst ts) = true) (hm : behindInMarks .In b = false := by rfl) : Ev X (.Compare a [.In] [b] pos) ρ L (.v (B (inT t (.lst ts)))) Lb := ev_cmp (op_inD ct.u65) ha hb (ot_inD h1 h2) hm
theorem eb_in (ct : Cq cm CX P w K mg base k N sc fs X) (ha : Ev X a ρ L (.v t) L1) (hb : Ev X b ρ L1 (.v (.lst ts)) Lb) (h1 : shp t = true) (h2 : shp (.lst ts) = true) (hm : behindInMarks .In b = false := by rfl) : EvB X (.Compare a [.In] [b] pos) ρ L (inT t (.lst ts)) Lb := eb_cmp (op_inD ct.u65) ha hb (ot_inD h1 h2) hm
theorem ev_nin (ct : Cq cm CX P w K mg base k N sc fs X) (ha : Ev X a ρ L (.v t) L1) (hb : Ev X b ρ L1 (.v (.lst ts)) Lb) (h1 : shp t = true) (h2 : shp (.lst ts) = true) (hm : behindInMarks .NotIn b = false := by rfl) : Ev X (.Compare a [.NotIn] [b] pos) ρ L (.v (B (!inT t (.lst ts)))) Lb := ev_cmp (op_notInD ct.u65) ha hb (ot_notInD h1 h2) hm
theorem eb_nin (ct : Cq cm CX P w K mg base k N sc fs X) (ha : Ev X a ρ L (.v t) L1) (hb : Ev X b ρ L1 (.v (.lst ts)) Lb) (h1 : shp t = true) (h2 : shp (.lst ts) = true) (hm : behindInMarks .NotIn b = false := by rfl) : EvB X (.Compare a [.NotIn] [b] pos) ρ L (!inT t (.lst ts)) Lb := eb_cmp (op_notInD ct.u65) ha hb (ot_notInD h1 h2) hm
/-- a op b op' c -/
theorem ev_chain {op op' : CmpOp} {r r' : R2} {z z' : Bool} {o : T} (ho : OpR X (compareOp op) r) (ho' : OpR X (compareOp op') r') (ha : Ev X a ρ L (.v t) L1) (hb : Ev X b ρ L1 (.v u) Lb) (hr : OpT X.K r t u Lb (.v (B z)))
    (hc : z = true → Ev X c ρ Lb (.v o) Lb) (hr' : z = true → OpT X.K r' u o Lb (.v (B z'))) (hm : lastMarks [op, op'] [b, c] = false := by with_unfolding_all rfl) : Ev X (.Compare a [op, op'] [b, c] pos) ρ L (.v (B (z && z'))) Lb := by
  refine ⟨fun W H σ Q s en q => ?_⟩
  refine wp_pe (pe_chain ho ho' pe_wp pe_wp pe_wp hm) ?_
  refine ha W H σ _ s en fun x W1 H1 st1 s1 r1 => ?_
  refine hb W1 H1 σ _ s1 (en.step st1 s) fun y W2 H2 st2 s2 r2 => ?_
  refine hr W2 H2 x y _ s2 (Rp.step r1 st2 s1) r2 fun v W3 H3 st3 s3 r3 => ?_
  cases r3
  refine ⟨z, rfl, ?_⟩
  have st13 := (st1.trans st2).trans st3
  cases z with
  | false =>
    show Q (.bl false) H3
    exact q _ W3 H3 st13 s3 (.v _)
  | true =>
    show wpE X c σ H3 _
    refine hc rfl W3 H3 σ _ s3 (en.step st13 s) fun o' W4 H4 st4 s4 r4 => ?_
    refine hr' rfl W4 H4 y o' Q s4 (Rp.step (Rp.step r2 st3 s2) st4 s3) r4 fun v W5 H5 st5 s5 r5 => ?_
    cases r5
    exact q _ W5 H5 ((st13.trans st4).trans st5) s5 (.v _)
theorem eb_val (h : Ev X e ρ L (.v (B z)) L1) (he : ∀ whole, isTrue e X.env whole = (do let v ← whole; standAt e.pos; holding [v] (truthy v)) := by intro _; rfl) : EvB X e ρ L z L1 := by
  refine ⟨fun W H σ Q s en q => ?_⟩
  refine wp_pt (pt_val pe_wp he) ?_
  refine h W H σ _ s en fun x W1 H1 st1 s1 r1 => ?_
  cases r1
  exact ⟨z, rfl, q W1 H1 st1 s1⟩
theorem ev_leltI {x y z : Int} (ha : Ev X a ρ L (.v (I x)) L1) (hb : Ev X b ρ L1 (.v (I y)) Lb) (hc : decide (x ≤ y) = true → Ev X c ρ Lb (.v (I z)) Lb) (hm : lastMarks [.LtE, .Lt] [b, c] = false := by with_unfolding_all rfl) : Ev X (.Compare a [.LtE, .Lt] [b, c] pos) ρ L (.v (B (decide (x ≤ y) && decide (y < z)))) Lb :=
  ev_chain op_le op_lt ha hb ot_I0 hc (fun _ => ot_I0) hm
theorem ev_leleI {x y z : Int} (ha : Ev X a ρ L (.v (I x)) L1) (hb : Ev X b ρ L1 (.v (I y)) Lb) (hc : decide (x ≤ y) = true → Ev X c ρ Lb (.v (I z)) Lb) (hm : lastMarks [.LtE, .LtE] [b, c] = false := by with_unfolding_all rfl) : Ev X (.Compare a [.LtE, .LtE] [b, c] pos) ρ L (.v (B (decide (x ≤ y) && decide (y ≤ z)))) Lb :=
  ev_chain op_le op_le ha hb ot_I0 hc (fun _ => ot_I0) hm

/-! truth -/
theorem eb_not {z : Bool} (h : EvB X a ρ L z L1) : EvB X (.UnaryOp .Not a pos) ρ L (!z) L1 := by
  refine ⟨fun W H σ Q s en q => ?_⟩
  refine wp_pt (pt_not pt_wp) ?_
  exact h W H σ _ s en fun W1 H1 st1 s1 => q W1 H1 st1 s1
theorem ew_and1 {z : Bool} (h : EvB X a ρ L z L1) : EvW X (.BoolOp .And [a] pos) ρ L z L1 := ⟨fun W H σ Q s en q => wp_pw (pw_and1 pt_wp) (h W H σ Q s en q)⟩
theorem ew_or1 {z : Bool} (h : EvB X a ρ L z L1) : EvW X (.BoolOp .Or [a] pos) ρ L z L1 := ⟨fun W H σ Q s en q => wp_pw (pw_or1 pt_wp) (h W H σ Q s en q)⟩
/-- and: the second is asked where the first holds; the store is not turned by it -/
theorem ew_and {y z : Bool} (ha : EvB X a ρ L y L1) (hb : y = true → EvW X (.BoolOp .And (b :: es) pos) ρ L1 z L1) : EvW X (.BoolOp .And (a :: b :: es) pos) ρ L (y && z) L1 := by
  refine ⟨fun W H σ Q s en q => ?_⟩
  refine wp_pw (pw_and pt_wp pw_wp) ?_
  refine ha W H σ _ s en fun W1 H1 st1 s1 => ?_
  cases y with
  | true =>
    show wpW X _ σ H1 Q
    exact hb rfl W1 H1 σ Q s1 (en.step st1 s) fun W2 H2 st2 s2 => q W2 H2 (st1.trans st2) s2
  | false =>
    show Q false H1
    exact q W1 H1 st1 s1
theorem ew_or {y z : Bool} (ha : EvB X a ρ L y L1) (hb : y = false → EvW X (.BoolOp .Or (b :: es) pos) ρ L1 z L1) : EvW X (.BoolOp .Or (a :: b :: es) pos) ρ L (y || z) L1 := by
  refine ⟨fun W H σ Q s en q => ?_⟩
  refine wp_pw (pw_or pt_wp pw_wp) ?_
  refine ha W H σ _ s en fun W1 H1 st1 s1 => ?_
  cases y with
  | true =>
    show Q true H1
    exact q W1 H1 st1 s1
  | false =>
    show wpW X _ σ H1 Q
    exact hb rfl W1 H1 σ Q s1 (en.step st1 s) fun W2 H2 st2 s2 => q W2 H2 (st1.trans st2) s2
theorem EvW.tst {z : Bool} (h : EvW X e ρ L z L1) : EvB X e ρ L z L1 := ⟨fun W H σ Q s en q pins st I => h W H σ Q s en q _ pins st I⟩
/-- values that are bools -/
theorem ev_not {z : Bool} (h : Ev X a ρ L (.v (B z)) L1) : Ev X (.UnaryOp .Not a pos) ρ L (.v (B (!z))) L1 := by
  refine ⟨fun W H σ Q s en q => ?_⟩
  refine wp_pe (pe_not pe_wp) ?_
  refine h W H σ _ s en fun x W1 H1 st1 s1 r1 => ?_
  cases r1
  exact ⟨z, rfl, q _ W1 H1 st1 s1 (.v _)⟩
theorem ev_bool1 {op} {r : R} (h : Ev X a ρ L r L1) : Ev X (.BoolOp op [a] pos) ρ L r L1 := ⟨fun W H σ Q s en q => wp_pe (pe_one pe_wp) (h W H σ Q s en q)⟩
theorem ev_and {y z : Bool} (ha : Ev X a ρ L (.v (B y)) L1) (hb : y = true → Ev X (.BoolOp .And (b :: es) pos) ρ L1 (.v (B z)) L1) : Ev X (.BoolOp .And (a :: b :: es) pos) ρ L (.v (B (y && z))) L1 := by
  refine ⟨fun W H σ Q s en q => ?_⟩
  refine wp_pe (pe_and pe_wp pe_wp) ?_
  refine ha W H σ _ s en fun x W1 H1 st1 s1 r1 => ?_
  cases r1
  refine ⟨y, rfl, ?_⟩
  cases y with
  | true =>
    show wpE X _ σ H1 Q
    exact hb rfl W1 H1 σ Q s1 (en.step st1 s) fun v W2 H2 st2 s2 r2 => q v W2 H2 (st1.trans st2) s2 r2
  | false =>
    show Q (.bl false) H1
    exact q _ W1 H1 st1 s1 (.v _)
theorem ev_or {y z : Bool} (ha : Ev X a ρ L (.v (B y)) L1) (hb : y = false → Ev X (.BoolOp .Or (b :: es) pos) ρ L1 (.v (B z)) L1) : Ev X (.BoolOp .Or (a :: b :: es) pos) ρ L (.v (B (y || z))) L1 := by
  refine ⟨fun W H σ Q s en q => ?_⟩
  refine wp_pe (pe_or pe_wp pe_wp) ?_
  refine ha W H σ _ s en fun x W1 H1 st1 s1 r1 => ?_
  cases r1
  refine ⟨y, rfl, ?_⟩
  cases y with
  | true =>
    show Q (.bl true) H1
    exact q _ W1 H1 st1 s1 (.v _)
  | false =>
    show wpE X _ σ H1 Q
    exact hb rfl W1 H1 σ Q s1 (en.step st1 s) fun v W2 H2 st2 s2 r2 => q v W2 H2 (st1.trans st2) s2 r2
theorem ev_ifT {r : R} (hc : EvB X c ρ L true L1) (ha : Ev X a ρ L1 r Lb) : Ev X (.IfExp c a b pos) ρ L r Lb := by
  refine ⟨fun W H σ Q s en q => ?_⟩
  refine wp_pe (pe_ifExp pt_wp pe_wp pe_wp) ?_
  refine hc W H σ _ s en fun W1 H1 st1 s1 => ?_
  show wpE X _ σ H1 Q
  exact ha W1 H1 σ Q s1 (en.step st1 s) fun v W2 H2 st2 s2 r2 => q v W2 H2 (st1.trans st2) s2 (r2.back st1.dom)
theorem ev_ifF {r : R} (hc : EvB X c ρ L false L1) (hb : Ev X b ρ L1 r Lb) : Ev X (.IfExp c a b pos) ρ L r Lb := by
  refine ⟨fun W H σ Q s en q => ?_⟩
  refine wp_pe (pe_ifExp pt_wp pe_wp pe_wp) ?_
  refine hc W H σ _ s en fun W1 H1 st1 s1 => ?_
  show wpE X _ σ H1 Q
  exact hb W1 H1 σ Q s1 (en.step st1 s) fun v W2 H2 st2 s2 r2 => q v W2 H2 (st1.trans st2) s2 (r2.back st1.dom)
/-- a if c else b, both ways; the store behind is the same -/
theorem ev_if {z : Bool} {ra rb : R} (hc : EvB X c ρ L z L1) (ha : z = true → Ev X a ρ L1 ra Lb) (hb : z = false → Ev X b ρ L1 rb Lb) : Ev X (.IfExp c a b pos) ρ L (if z = true then ra else rb) Lb := by
  cases z with
  | true => exact ev_ifT hc (ha rfl)
  | false => exact ev_ifF hc (hb rfl)
theorem ev_ifV {z : Bool} {ta tb : T} (hc : EvB X c ρ L z L1) (ha : z = true → Ev X a ρ L1 (.v ta) Lb) (hb : z = false → Ev X b ρ L1 (.v tb) Lb) : Ev X (.IfExp c a b pos) ρ L (.v (if z = true then ta else tb)) Lb := by
  cases z with
  | true => exact ev_ifT hc (ha rfl)
  | false => exact ev_ifF hc (hb rfl)

/-! lists of expressions, displays -/
theorem ea_nil : EvA X [] ρ L [] L := ⟨fun W H σ Q s _ q => wp_pa pa_nil (q [] W H .refl s .nil)⟩
theorem se1 {n : Str} {p : Pos} {r : List Expr} {env : Env} : starEach (.Name n p :: r) env = (false, eval (.Name n p) env) :: starEach r env := rfl
theorem se2 {c : Const} {j p} {r : List Expr} {env : Env} : starEach (.Constant c j p :: r) env = (false, eval (.Constant c j p) env) :: starEach r env := rfl
theorem se3 {l : List Expr} {p : Pos} {r : List Expr} {env : Env} : starEach (.List l p :: r) env = (false, eval (.List l p) env) :: starEach r env := rfl
theorem se4 {l : List Expr} {j p} {r : List Expr} {env : Env} : starEach (.Tuple l j p :: r) env = (false, eval (.Tuple l j p) env) :: starEach r env := rfl
theorem se5 {f : Expr} {l k p} {r : List Expr} {env : Env} : starEach (.Call f l k p :: r) env = (false, eval (.Call f l k p) env) :: starEach r env := rfl
theorem se6 {x y : Expr} {o p} {r : List Expr} {env : Env} : starEach (.BinOp x o y p :: r) env = (false, eval (.BinOp x o y p) env) :: starEach r env := rfl
theorem se7 {x y : Expr} {p} {r : List Expr} {env : Env} : starEach (.Subscript x y p :: r) env = (false, eval (.Subscript x y p) env) :: starEach r env := rfl
theorem se8 {x : Expr} {n p} {r : List Expr} {env : Env} : starEach (.Attribute x n p :: r) env = (false, eval (.Attribute x n p) env) :: starEach r env := rfl
theorem se9 {x : Expr} {g s p} {r : List Expr} {env : Env} : starEach (.ListComp x g s p :: r) env = (false, eval (.ListComp x g s p) env) :: starEach r env := rfl
theorem ea_cons (ha : Ev X e ρ L (.v t) L1) (hb : EvA X es ρ L1 ts Lb) (hs : starEach (e :: es) X.env = (false, eval e X.env) :: starEach es X.env := by first | with_reducible exact se1 | with_reducible exact se2 | with_reducible exact se3 | with_reducible exact se4 | with_reducible exact se5 | with_reducible exact se6 | with_reducible exact se7 | with_reducible exact se8 | with_reducible exact se9 | rfl) : EvA X (e :: es) ρ L (t :: ts) Lb := by
  refine ⟨fun W H σ Q s en q => ?_⟩
  refine wp_pa (pa_cons pe_wp pa_wp hs) ?_
  refine ha W H σ _ s en fun x W1 H1 st1 s1 r1 => ?_
  refine hb W1 H1 σ _ s1 (en.step st1 s) fun xs W2 H2 st2 s2 r2 => ?_
  exact q _ W2 H2 (st1.trans st2) s2 (.cons (Rp.step r1 st2 s1) r2)
theorem sz_small {n : Nat} (h : n ≤ 100000) : n ≤ sizeLine := Nat.le_trans h (by decide)
/-- a new object p, laid -/
theorem new_n {W : Wd} {H : Hp} {p : Addr} {o : HO} (s : SR K W H L) (hp : H p = none) (hc : CellR K W (upd H p o) t p) : RR K W L H (upd H p o) (.n t) (.ref p) :=
  ⟨p, rfl, hp, fun f => s.fh p f hp, fun n l h => s.adh n p l h hp, hc⟩
theorem ev_lst (ha : EvA X es ρ L ts L1) (hl : es.length ≤ 100000) (hl2 : ts.length = es.length) : Ev X (.List es pos) ρ L (.n (.lst ts)) L1 := by
  refine ⟨fun W H σ Q s en q => ?_⟩
  refine wp_pe (pe_lst pa_wp) ?_
  refine ha W H σ _ s en fun xs W1 H1 st1 s1 r1 => ⟨sz_small (by rw [← r1.length, hl2]; exact hl), fun p hp => ?_⟩
  exact q _ W1 _ (st1.trans (.newp hp)) (s1.new hp) ((new_n (t := .lst ts) s1 hp ⟨xs, upd_same, r1.newp hp⟩).back st1.dom)
theorem ev_tup {x1} (ha : EvA X es ρ L ts L1) (hl : es.length ≤ 100000) (hl2 : ts.length = es.length) : Ev X (.Tuple es x1 pos) ρ L (.v (.tup ts)) L1 := by
  refine ⟨fun W H σ Q s en q => ?_⟩
  refine wp_pe (pe_tup pa_wp) ?_
  refine ha W H σ _ s en fun xs W1 H1 st1 s1 r1 => ⟨sz_small (by rw [← r1.length, hl2]; exact hl), fun p hp => ?_⟩
  have st2 : Step W L H W1 L1 (upd H1 p (.tup xs)) := st1.trans (.newp hp)
  have hn : H p = none := by
    cases e : H p with
    | none => rfl
    | some o => exact absurd hp (st1.dom p (by rw [e]; exact fun z => nomatch z))
  refine q _ (W1.frz p) _ (st2.frz (.inl hn)) ((s1.new hp).frz (by rw [upd_same]; exact fun z => nomatch z) fun n l h => s1.adh n p l h hp) ?_
  exact .tup (.inr rfl) upd_same (r1.newp hp).frz
end
end TL


/-! The tree layer, part C: subscripts, calls, fields, comprehensions. -/
namespace TL
open PySem PySem.Spec PyProof.Rows L2

theorem none_back {W W' : Wd} {L L' : Store} {H H' : Hp} {p : Addr} (st : Step W L H W' L' H') (h : H' p = none) : H p = none := by
  cases e : H p with
  | none => rfl
  | some o => exact absurd h (st.dom p (by rw [e]; exact fun z => nomatch z))

/-- a list that may be read: a frozen one, the script, a cell -/
def LstT (L : Store) (t : T) (ts : List T) : Prop := t = .lst ts ∨ t = .scr ts ∨ ∃ n, t = .cel n ∧ L n = some (.lst ts)
theorem lst_sq {K : PySem.W.Frag} {W : Wd} {H : Hp} {L : Store} {t : T} {ts : List T} {x : V} (s : SR K W H L) (r : Rp K W H t x) (h : LstT L t ts) : ∃ a vs, x = .ref a ∧ SqL K H a vs ∧ RpL K W H ts vs := by
  rcases h with rfl | rfl | ⟨n, rfl, e⟩
  · cases r with | lst f h r => exact ⟨_, _, rfl, .inl (.inl h), r⟩
  · cases r with
    | scr h r =>
      rcases h with ⟨f, o, h⟩ | h
      · exact ⟨_, _, rfl, .inl (.inr ⟨o, h⟩), r⟩
      · exact ⟨_, _, rfl, .inr h, r⟩
  · cases r with
    | cel h =>
      obtain ⟨vs, e1, r⟩ := s.cel n _ _ e h
      exact ⟨_, vs, rfl, .inl (.inl e1), r⟩
/-- .. that is no script -/
def LstM (L : Store) (t : T) (ts : List T) : Prop := t = .lst ts ∨ ∃ n, t = .cel n ∧ L n = some (.lst ts)
theorem lst_m {K : PySem.W.Frag} {W : Wd} {H : Hp} {L : Store} {t : T} {ts : List T} {x : V} (s : SR K W H L) (r : Rp K W H t x) (h : LstM L t ts) : ∃ a vs, x = .ref a ∧ H a = some (.lst vs) ∧ RpL K W H ts vs := by
  rcases h with rfl | ⟨n, rfl, e⟩
  · cases r with | lst f h r => exact ⟨_, _, rfl, h, r⟩
  · cases r with
    | cel h =>
      obtain ⟨vs, e1, r⟩ := s.cel n _ _ e h
      exact ⟨_, vs, rfl, e1, r⟩
/-- an instance that may be read -/
def InsT (L : Store) (t : T) (C : Addr) (ns : List Str) (ts : List T) : Prop := t = .ins C ns ts ∨ ∃ n, t = .cel n ∧ L n = some (.ins C ns ts)
theorem ins_at {K : PySem.W.Frag} {W : Wd} {H : Hp} {L : Store} {t : T} {C : Addr} {ns : List Str} {ts : List T} {x : V} (s : SR K W H L) (r : Rp K W H t x) (h : InsT L t C ns ts) : ∃ a dx vs, x = .ref a ∧ H a = some (.ins C dx (ns.zip vs)) ∧ ns.length = vs.length ∧ RpL K W H ts vs := by
  rcases h with rfl | ⟨n, rfl, e⟩
  · cases r with | ins f h l r => exact ⟨_, _, _, rfl, h, l, r⟩
  · cases r with
    | cel h =>
      obtain ⟨dx, vs, e1, l, r⟩ := s.cel n _ _ e h
      exact ⟨_, dx, vs, rfl, e1, l, r⟩
theorem lookup_zip {K : PySem.W.Frag} {W : Wd} {H : Hp} {f : Str} : ∀ {ns : List Str} {ts : List T} {vs : List V} {u : T}, RpL K W H ts vs → (ns.zip ts).lookup f = some u → ∃ x, (ns.zip vs).lookup f = some x ∧ Rp K W H u x
  | [], _, _, _, _, e => by simp at e
  | n :: ns, [], _, _, _, e => by simp at e
  | n :: ns, t :: ts, _, u, r, e => by
    cases r with
    | cons r rs =>
      rename_i x xs
      rw [List.zip_cons_cons, List.lookup_cons] at e
      rw [List.zip_cons_cons, List.lookup_cons]
      cases q : f == n with
      | true => rw [q] at e; cases e; exact ⟨_, rfl, r⟩
      | false => rw [q] at e; exact lookup_zip rs e
theorem lookup_zip_none {K : PySem.W.Frag} {W : Wd} {H : Hp} {f : Str} : ∀ {ns : List Str} {ts : List T} {vs : List V}, RpL K W H ts vs → (ns.zip ts).lookup f = none → (ns.zip vs).lookup f = none
  | [], _, _, _, _ => by simp
  | n :: ns, [], _, r, e => by cases r; simp
  | n :: ns, t :: ts, _, r, e => by
    cases r with
    | cons r rs =>
      rw [List.zip_cons_cons, List.lookup_cons] at e
      rw [List.zip_cons_cons, List.lookup_cons]
      cases q : f == n with
      | true => rw [q] at e; cases e
      | false => rw [q] at e; exact lookup_zip_none rs e
theorem atI_rp {K : PySem.W.Frag} {W : Wd} {H : Hp} {ts : List T} {vs : List V} {i : Int} {t : T} (r : RpL K W H ts vs) (h : atI ts i = some t) : ∃ x, atI vs i = some x ∧ Rp K W H t x := by
  unfold atI at h ⊢
  rw [← r.length]
  cases q : ixN ts.length i with
  | none => rw [q] at h; cases h
  | some j =>
    rw [q] at h
    have h' : ts[j]? = some t := h
    exact r.get h'
def cutT {α : Type} (xs : List α) (lo hi : Option Int) : List α := (xs.drop (HT.sIx xs.length 0 lo)).take (HT.sIx xs.length xs.length hi - HT.sIx xs.length 0 lo)
theorem cut_rp {K : PySem.W.Frag} {W : Wd} {H : Hp} {ts : List T} {vs : List V} (r : RpL K W H ts vs) (lo hi : Option Int) : RpL K W H (cutT ts lo hi) (cutV vs lo hi) := by
  unfold cutT cutV
  rw [r.length]
  exact (r.drop _).take _

/-! iterators -/
def wpI (X : Cx) (tg iter : Expr) (σ : L2.St) (H : Hp) (R : It → Hp → Prop) : Prop := ∀ (pins : List (Addr × Obj)) (s : Shared), Inv X pins σ H s →
  wpAny (model X.prog X.w) X.A (eval iter X.env) (fun v s1 => wpAny (model X.prog X.w) X.A (pyIter v) (PIE X pins σ tg R) X.xe s1) X.xe s
theorem pi_wp {X : Cx} {tg iter : Expr} : PI X tg iter (wpI X tg iter) := ⟨fun pins s _ _ _ I h => h pins s I⟩
theorem wp_pi {X : Cx} {tg iter : Expr} {t : TI} {σ : L2.St} {H : Hp} {R : It → Hp → Prop} (h : PI X tg iter t) (q : t σ H R) : wpI X tg iter σ H R := fun pins s I => h.run pins s σ H R I q
/-- the iterator gives just the items ts, whatever the turns do to cells -/
structure WalkT (K : PySem.W.Frag) (W : Wd) (L : Store) (H : Hp) (J : It) (ts : List T) : Prop where
  turn : ∀ (i : Nat) (t : T), ts[i]? = some t → ∀ W1 L1 H1, Step W L H W1 L1 H1 → SR K W1 H1 L1 → J.go i H1 ∧ ∀ x H2, J.yld i H1 x H2 → ∃ W2, Step W1 L1 H1 W2 L1 H2 ∧ SR K W2 H2 L1 ∧ Rp K W2 H2 t x
  stop : ∀ W1 L1 H1, Step W L H W1 L1 H1 → SR K W1 H1 L1 → J.stop ts.length H1
structure EvI (X : Cx) (tg iter : Expr) (ρ : TEnv) (L : Store) (ts : List T) (L' : Store) : Prop where
  go : ∀ (W : Wd) (H : Hp) (σ : L2.St) (R : It → Hp → Prop), SR X.K W H L → EnvR X.K W H ρ σ → (∀ J W' H', Step W L H W' L' H' → SR X.K W' H' L' → WalkT X.K W' L' H' J ts → R J H') → wpI X tg iter σ H R
instance {X : Cx} {tg iter : Expr} {ρ : TEnv} {L : Store} {ts : List T} {L' : Store} : CoeFun (EvI X tg iter ρ L ts L') (fun _ => ∀ (W : Wd) (H : Hp) (σ : L2.St) (R : It → Hp → Prop), SR X.K W H L → EnvR X.K W H ρ σ → (∀ J W' H', Step W L H W' L' H' → SR X.K W' H' L' → WalkT X.K W' L' H' J ts → R J H') → wpI X tg iter σ H R) := ⟨EvI.go⟩

section
variable {cm : Bool} {CX : CXT} {P : Program} {w : World} {K : PySem.W.Frag} {mg : Str → Option Value} {base : Heap} {k : Nat} {N : List Str} {sc : Scope} {fs : Str → Bool} {X : Cx}
variable {e a b c tg iter : Expr} {es : List Expr} {ρ : TEnv} {L L1 Lb Lc : Store} {t u : T} {ts us : List T} {pos p : Pos} {i j : Int}

theorem walk_list {W : Wd} {H : Hp} {l : Addr} {vs : List V} (s : SR K W H L) (hs : W.F l ∧ H l = some (.lst vs)) (r : RpL K W H ts vs) : WalkT K W L H (Itl K l) ts where
  turn := fun i t hi W1 L1 H1 st s1 => by
    have q : SqL K H1 l vs := .inl (.inl (st.keep _ _ hs.2 rfl fun n lv z => s.nf n _ lv z hs.1))
    obtain ⟨x, e1, e2⟩ := r.get hi
    refine ⟨⟨vs, x, q, e1⟩, fun y H2 hy => ?_⟩
    obtain ⟨rfl, hy⟩ := hy
    have := hy vs q
    rw [e1] at this; cases this
    exact ⟨W1, .refl, s1, e2.step st s⟩
  stop := fun W1 L1 H1 st s1 => ⟨vs, .inl (.inl (st.keep _ _ hs.2 rfl fun n lv z => s.nf n _ lv z hs.1)), by rw [r.length]; exact Nat.le_refl _⟩
theorem walk_scr {W : Wd} {H : Hp} {l : Addr} {vs : List V} (s : SR K W H L) (hs : Rp K W H (.scr ts) (.ref l)) : WalkT K W L H (Itl K l) ts := by
  cases hs with
  | scr h r =>
    rename_i vs
    have q : ∀ W1 L1 H1, Step W L H W1 L1 H1 → SqL K H1 l vs := fun W1 L1 H1 st => by
      rcases h with ⟨f, o, h⟩ | h
      · exact .inl (.inr ⟨o, st.keep _ _ h rfl fun n lv z => s.nf n _ lv z f⟩)
      · exact .inr h
    refine ⟨fun i t hi W1 L1 H1 st s1 => ?_, fun W1 L1 H1 st s1 => ⟨vs, q _ _ _ st, by rw [r.length]; exact Nat.le_refl _⟩⟩
    obtain ⟨x, e1, e2⟩ := r.get hi
    refine ⟨⟨vs, x, q _ _ _ st, e1⟩, fun y H2 hy => ?_⟩
    obtain ⟨rfl, hy⟩ := hy
    have := hy vs (q _ _ _ st)
    rw [e1] at this; cases this
    exact ⟨W1, .refl, s1, e2.step st s⟩
/-- for x in a list -/
theorem ei_list (h : Ev X e ρ L (.v (.lst ts)) L1) : EvI X tg e ρ L ts L1 := by
  refine ⟨fun W H σ R s en q => ?_⟩
  refine wp_pi (pi_list pe_wp) ?_
  refine h W H σ _ s en fun x W1 H1 st1 s1 r1 => ?_
  cases r1 with
  | lst f hl r => exact ⟨_, rfl, ⟨_, .inl (.inl hl)⟩, q _ W1 H1 st1 s1 (walk_list s1 ⟨f, hl⟩ r)⟩
theorem ei_scr (h : Ev X e ρ L (.v (.scr ts)) L1) : EvI X tg e ρ L ts L1 := by
  refine ⟨fun W H σ R s en q => ?_⟩
  refine wp_pi (pi_list pe_wp) ?_
  refine h W H σ _ s en fun x W1 H1 st1 s1 r1 => ?_
  obtain ⟨l, vs, rfl, hq, r⟩ := lst_sq s1 r1 (.inr (.inl rfl))
  exact ⟨_, rfl, ⟨_, hq⟩, q _ W1 H1 st1 s1 (walk_scr (vs := vs) s1 r1)⟩
theorem ei_tup (h : Ev X e ρ L (.v (.tup ts)) L1) : EvI X tg e ρ L ts L1 := by
  refine ⟨fun W H σ R s en q => ?_⟩
  refine wp_pi (pi_tup pe_wp) ?_
  refine h W H σ _ s en fun x W1 H1 st1 s1 r1 => ?_
  cases r1 with
  | tup f hl r =>
    rename_i l vs
    refine ⟨_, rfl, ⟨_, .inl (.inl hl)⟩, q _ W1 H1 st1 s1 ⟨fun i t hi W2 Lb H2 st s2 => ?_, fun W2 Lb H2 st s2 => ⟨vs, .inl (.inl (st.keep _ _ hl rfl fun n lv z => s1.nf n _ lv z f)), by rw [r.length]; exact Nat.le_refl _⟩⟩⟩
    have q : SqT X.K H2 l vs := .inl (.inl (st.keep _ _ hl rfl fun n lv z => s1.nf n _ lv z f))
    obtain ⟨x, e1, e2⟩ := r.get hi
    refine ⟨⟨vs, x, q, e1⟩, fun y H3 hy => ?_⟩
    obtain ⟨rfl, hy⟩ := hy
    have := hy vs q
    rw [e1] at this; cases this
    exact ⟨W2, .refl, s2, e2.step st s1⟩
/-- lo, lo + 1, .. -/
def rangeT (lo : Int) (n : Nat) : List Int := (List.range n).map fun (i : Nat) => lo + i
theorem rangeT_get {lo : Int} {n m : Nat} {x : Int} (h : (rangeT lo n)[m]? = some x) : m < n ∧ x = lo + m := by
  unfold rangeT at h
  rw [List.getElem?_map] at h
  cases q : (List.range n)[m]? with
  | none => rw [q] at h; cases h
  | some y =>
    rw [q] at h
    obtain ⟨h1, h2⟩ := List.getElem?_eq_some_iff.mp q
    rw [List.length_range] at h1
    rw [List.getElem_range] at h2
    subst h2
    exact ⟨h1, (Option.some.inj h).symm⟩
theorem mem_rangeT {lo x : Int} {n : Nat} : x ∈ rangeT lo n ↔ lo ≤ x ∧ x < lo + n := by
  unfold rangeT
  rw [List.mem_map]
  constructor
  · rintro ⟨i, hi, rfl⟩
    rw [List.mem_range] at hi
    omega
  · rintro ⟨h1, h2⟩
    exact ⟨(x - lo).toNat, List.mem_range.mpr (by omega), by omega⟩
theorem length_rangeT {lo : Int} {n : Nat} : (rangeT lo n).length = n := by simp [rangeT]
theorem walk_range {W : Wd} {H : Hp} {lo : Int} {n : Nat} : WalkT K W L H (Itr lo n) ((rangeT lo n).map I) where
  turn := fun i t hi W1 L1 H1 st s1 => by
    rw [List.getElem?_map] at hi
    cases q : (rangeT lo n)[i]? with
    | none => rw [q] at hi; cases hi
    | some y =>
      rw [q] at hi; cases hi
      obtain ⟨h1, rfl⟩ := rangeT_get q
      refine ⟨h1, fun x H2 hy => ?_⟩
      obtain ⟨rfl, rfl⟩ := hy
      exact ⟨W1, .refl, s1, .v _⟩
  stop := fun W1 L1 H1 st s1 => by
    show n ≤ _
    rw [List.length_map, length_rangeT]
    exact Nat.le_refl _
theorem ei_range1 (ct : Cq cm CX P w K mg base k N sc fs X) (hm : mg "range" = none) (hg : glOk sc "range" = true) (h : EvA X [a] ρ L [I j] L1) (h1 : -(2 ^ 62) ≤ j) (h2 : j < 2 ^ 62) (hs : starEach [a] X.env = [(false, eval a X.env)] := by rfl) : EvI X tg (.Call (.Name "range" p) [a] [] pos) ρ L ((rangeT 0 j.toNat).map I) L1 := by
  refine ⟨fun W H σ R s en q => ?_⟩
  refine wp_pi (pi_range1 (ct.gl hg) (by rw [ct.hmg]; exact hm) pa_wp hs) ?_
  refine h W H σ _ s en fun xs W1 H1 st1 s1 r1 => ?_
  cases r1 with
  | cons r rs =>
    cases r; cases rs
    exact ⟨j, rfl, h1, h2, q _ W1 H1 st1 s1 walk_range⟩
theorem ei_range2 (ct : Cq cm CX P w K mg base k N sc fs X) (hm : mg "range" = none) (hg : glOk sc "range" = true) (h : EvA X [a, b] ρ L [I i, I j] L1) (h1 : -(2 ^ 62) ≤ i) (h2 : i < 2 ^ 62) (h3 : -(2 ^ 62) ≤ j) (h4 : j < 2 ^ 62) (hs : starEach [a, b] X.env = [(false, eval a X.env), (false, eval b X.env)] := by rfl) (hs2 : starEach [b] X.env = [(false, eval b X.env)] := by rfl) :
    EvI X tg (.Call (.Name "range" p) [a, b] [] pos) ρ L ((rangeT i (j - i).toNat).map I) L1 := by
  refine ⟨fun W H σ R s en q => ?_⟩
  refine wp_pi (pi_range2 (ct.gl hg) (by rw [ct.hmg]; exact hm) pa_wp hs hs2) ?_
  refine h W H σ _ s en fun xs W1 H1 st1 s1 r1 => ?_
  cases r1 with
  | cons r rs =>
    cases r
    cases rs with
    | cons r rs =>
      cases r; cases rs
      exact ⟨i, j, rfl, ⟨h1, h2, h3, h4⟩, q _ W1 H1 st1 s1 walk_range⟩
/-- a tuple made on the way is frozen at once -/
theorem frz_tup {W : Wd} {H : Hp} {q : Addr} {xs : List V} {ys : List T} (s : SR K W H L) (hq : H q = none) (r : RpL K W H ys xs) : Step W L H (W.frz q) L (upd H q (.tup xs)) ∧ SR K (W.frz q) (upd H q (.tup xs)) L ∧ Rp K (W.frz q) (upd H q (.tup xs)) (.tup ys) (.ref q) :=
  ⟨(Step.newp hq).frz (.inl hq), (s.new hq).frz (by rw [upd_same]; exact fun z => nomatch z) fun n l h => s.adh n q l h hq, .tup (.inr rfl) upd_same (r.newp hq).frz⟩
/-- enumerate(list) -/
def enumT (ts : List T) : List T := (List.range ts.length).map fun (i : Nat) => .tup [I i, ts.getD i N0]
theorem enumT_get {m : Nat} {x : T} (h : (enumT ts)[m]? = some x) : ∃ y, ts[m]? = some y ∧ x = .tup [I m, y] := by
  unfold enumT at h
  rw [List.getElem?_map] at h
  cases q : (List.range ts.length)[m]? with
  | none => rw [q] at h; cases h
  | some y =>
    rw [q] at h
    obtain ⟨h1, h2⟩ := List.getElem?_eq_some_iff.mp q
    rw [List.length_range] at h1
    rw [List.getElem_range] at h2
    subst h2
    refine ⟨ts[m], List.getElem?_eq_getElem h1, ?_⟩
    have := Option.some.inj h
    rw [← this]
    simp [List.getD, List.getElem?_eq_getElem h1]
theorem ei_enum {elts : List Expr} {kk : Nat} {tpos : Pos} (ct : Cq cm CX P w K mg base k N sc fs X) (hm : mg "enumerate" = none) (hg : glOk sc "enumerate" = true) (h : EvA X [a] ρ L [.lst ts] L1) (hs : starEach [a] X.env = [(false, eval a X.env)] := by rfl) :
    EvI X (.Tuple elts kk tpos) (.Call (.Name "enumerate" p) [a] [] pos) ρ L (enumT ts) L1 := by
  refine ⟨fun W H σ R s en q => ?_⟩
  refine wp_pi (pi_enum (ct.gl hg) (by rw [ct.hmg]; exact hm) pa_wp hs) ?_
  refine h W H σ _ s en fun xs W1 H1 st1 s1 r1 => ?_
  cases r1 with
  | cons r rs =>
    cases rs
    cases r with
    | lst f hl r =>
      rename_i l vs
      refine ⟨_, _, rfl, .inl (.inl hl), q _ W1 H1 st1 s1 ⟨fun i t hi W2 Lb H2 st s2 => ?_, fun W2 Lb H2 st s2 => ⟨vs, .inl (.inl (st.keep _ _ hl rfl fun n lv z => s1.nf n _ lv z f)), by simp [enumT, r.length]⟩⟩⟩
      have q : SqL X.K H2 l vs := .inl (.inl (st.keep _ _ hl rfl fun n lv z => s1.nf n _ lv z f))
      obtain ⟨y, hy, rfl⟩ := enumT_get hi
      obtain ⟨x, e1, e2⟩ := r.get hy
      refine ⟨⟨vs, x, q, e1⟩, fun z H3 hz => ?_⟩
      obtain ⟨A, x', rfl, hA, rfl, hx⟩ := hz
      have := hx vs q
      rw [e1] at this; cases this
      exact ⟨_, frz_tup s2 hA (.cons (.v _) (.cons (e2.step st s1) .nil))⟩
/-- zip(list, list) -/
def zipT (ts us : List T) : List T := (ts.zip us).map fun q => .tup [q.1, q.2]
theorem ei_zip {elts : List Expr} {kk : Nat} {tpos : Pos} (ct : Cq cm CX P w K mg base k N sc fs X) (hm : mg "zip" = none) (hg : glOk sc "zip" = true) (h : EvA X [a, b] ρ L [.lst ts, .lst us] L1) (hs : starEach [a, b] X.env = (false, eval a X.env) :: starEach [b] X.env := by rfl) (hpl : (backTo pos (starEach [b] X.env)).any (·.1) = false := by rfl) :
    EvI X (.Tuple elts kk tpos) (.Call (.Name "zip" p) [a, b] [] pos) ρ L (zipT ts us) L1 := by
  refine ⟨fun W H σ R s en q => ?_⟩
  refine wp_pi (pi_zip (ct.gl hg) (by rw [ct.hmg]; exact hm) pa_wp hs hpl) ?_
  refine h W H σ _ s en fun xs W1 H1 st1 s1 r1 => ?_
  cases r1 with
  | cons r rs =>
    cases rs with
    | cons r' rs =>
      cases rs
      cases r with
      | lst f hl r =>
        cases r' with
        | lst f' hl' r' =>
          rename_i l vs l' vs'
          have k1 : ∀ W2 Lb H2, Step W1 L1 H1 W2 Lb H2 → SqL X.K H2 l vs := fun W2 Lb H2 st => .inl (.inl (st.keep _ _ hl rfl fun n lv z => s1.nf n _ lv z f))
          have k2 : ∀ W2 Lb H2, Step W1 L1 H1 W2 Lb H2 → SqL X.K H2 l' vs' := fun W2 Lb H2 st => .inl (.inl (st.keep _ _ hl' rfl fun n lv z => s1.nf n _ lv z f'))
          refine ⟨_, _, _, _, rfl, .inl (.inl hl), .inl (.inl hl'), q _ W1 H1 st1 s1 ⟨fun i t hi W2 Lb H2 st s2 => ?_, fun W2 Lb H2 st s2 => ⟨vs, vs', k1 _ _ _ st, k2 _ _ _ st, ?_⟩⟩⟩
          · unfold zipT at hi
            rw [List.getElem?_map] at hi
            cases q : (ts.zip us)[i]? with
            | none => rw [q] at hi; cases hi
            | some y =>
              rw [q] at hi; cases hi
              obtain ⟨y1, y2⟩ := y
              obtain ⟨h1, h2⟩ := List.getElem?_zip_eq_some.mp q
              obtain ⟨x1, e1, e2⟩ := r.get h1
              obtain ⟨x2, e3, e4⟩ := r'.get h2
              refine ⟨⟨vs, vs', x1, x2, k1 _ _ _ st, k2 _ _ _ st, e1, e3⟩, fun z H3 hz => ?_⟩
              obtain ⟨A, z1, z2, rfl, hA, rfl, hz1, hz2⟩ := hz
              have q1 := hz1 vs (k1 _ _ _ st)
              rw [e1] at q1; cases q1
              have q2 := hz2 vs' (k2 _ _ _ st)
              rw [e3] at q2; cases q2
              exact ⟨_, frz_tup s2 hA (.cons (e2.step st s1) (.cons (e4.step st s1) .nil))⟩
          · simp only [zipT, List.length_map, List.length_zip, r.length, r'.length]
            omega

/-! subscripts -/
theorem Step.R2 {W W1 W2 : Wd} {H H1 H2 : Hp} (st1 : Step W L H W1 L1 H1) (s : SR K W H L) (s1 : SR K W1 H1 L1) (st2 : Step W1 L1 H1 W2 Lb H2) : Step W L H W2 Lb H2 := st1.trans st2
theorem ev_ix {r : R2} {z : R} (hr : IxR X r) (ha : Ev X a ρ L (.v t) L1) (hb : Ev X b ρ L1 (.v u) Lb) (ho : OpT X.K r t u Lb z) (hs : PlainIx b) : Ev X (.Subscript a b pos) ρ L z Lb := ev_op2 (fun h1 h2 => pe_ix hr h1 h2 hs) ha hb ho
theorem ev_ixL (ha : Ev X a ρ L (.v t) L1) (hb : Ev X b ρ L1 (.v (I i)) Lb) (hl : LstT Lb t ts) (h : atI ts i = some u) (hs : PlainIx b := by exact fun _ _ => rfl) : Ev X (.Subscript a b pos) ρ L (.v u) Lb :=
  ev_ix ix_list ha hb (fun W H x y Q s r1 r2 q => by
    obtain ⟨l, vs, rfl, hq, r⟩ := lst_sq s r1 hl
    obtain ⟨x, e1, e2⟩ := atI_rp r h
    cases r2
    exact ⟨l, vs, i, x, rfl, rfl, hq, e1, q x W H .refl s e2⟩) hs
theorem ev_ixT (ha : Ev X a ρ L (.v (.tup ts)) L1) (hb : Ev X b ρ L1 (.v (I i)) Lb) (h : atI ts i = some u) (hs : PlainIx b := by exact fun _ _ => rfl) : Ev X (.Subscript a b pos) ρ L (.v u) Lb :=
  ev_ix ix_tup ha hb (fun W H x y Q s r1 r2 q => by
    cases r1 with
    | tup f hl r =>
      obtain ⟨x, e1, e2⟩ := atI_rp r h
      cases r2
      exact ⟨_, _, i, x, rfl, rfl, .inl (.inl hl), e1, q x W H .refl s e2⟩) hs
/-- an optional part of a slice -/
def EvO (X : Cx) (e : Option Expr) (ρ : TEnv) (L : Store) (o : Option Int) : Prop := ∃ t : TO, PO X e t ∧ ∀ (W : Wd) (H : Hp) (σ : L2.St) (Q : Option Int → Hp → Prop), SR X.K W H L → EnvR X.K W H ρ σ → (∀ W' H', Step W L H W' L H' → SR X.K W' H' L → Q o H') → t σ H Q
theorem eo_none : EvO X none ρ L none := ⟨_, po_none, fun W H σ Q s en q => q W H .refl s⟩
theorem eo_some (h : Ev X e ρ L (.v (I i)) L) : EvO X (some e) ρ L (some i) := ⟨_, po_some pe_wp, fun W H σ Q s en q => h W H σ _ s en fun x W1 H1 st1 s1 r1 => by
  cases r1
  exact ⟨i, rfl, q W1 H1 st1 s1⟩⟩
theorem ev_cutL {lo hi : Option Expr} {l h : Option Int} {p2 : Pos} (ha : Ev X a ρ L (.v t) L1) (hl : LstT L1 t ts) (h1 : EvO X lo ρ L1 l) (h2 : EvO X hi ρ L1 h) : Ev X (.Subscript a (.Slice lo hi none p2) pos) ρ L (.n (.lst (cutT ts l h))) L1 := by
  refine ⟨fun W H σ Q s en q => ?_⟩
  obtain ⟨t1, p1, q1⟩ := h1
  obtain ⟨t2, p2, q2⟩ := h2
  refine wp_pe (pe_slice sl_list pe_wp p1 p2) ?_
  refine ha W H σ _ s en fun x W1 H1 st1 s1 r1 => ?_
  refine q1 W1 H1 σ _ s1 (en.step st1 s) fun W2 H2 st2 s2 => ?_
  have st12 := st1.trans st2
  refine q2 W2 H2 σ _ s2 (en.step st12 s) fun W3 H3 st3 s3 => ?_
  obtain ⟨l, vs, rfl, hq, r⟩ := lst_sq s3 ((Rp.step r1 st2 s1).step st3 s2) hl
  refine ⟨l, vs, rfl, hq, fun p hp => ?_⟩
  have st13 := st12.trans st3
  exact q _ W3 _ (st13.trans (.newp hp)) (s3.new hp) ((new_n (t := .lst _) s3 hp ⟨_, upd_same, (cut_rp r _ _).newp hp⟩).back st13.dom)
theorem ev_cutT {lo hi : Option Expr} {l h : Option Int} {p2 : Pos} (ha : Ev X a ρ L (.v (.tup ts)) L1) (h1 : EvO X lo ρ L1 l) (h2 : EvO X hi ρ L1 h) (hw : ¬ (HT.sIx ts.length 0 l = 0 ∧ HT.sIx ts.length ts.length h = ts.length)) : Ev X (.Subscript a (.Slice lo hi none p2) pos) ρ L (.v (.tup (cutT ts l h))) L1 := by
  refine ⟨fun W H σ Q s en q => ?_⟩
  obtain ⟨t1, p1, q1⟩ := h1
  obtain ⟨t2, p2, q2⟩ := h2
  refine wp_pe (pe_slice sl_tup pe_wp p1 p2) ?_
  refine ha W H σ _ s en fun x W1 H1 st1 s1 r1 => ?_
  refine q1 W1 H1 σ _ s1 (en.step st1 s) fun W2 H2 st2 s2 => ?_
  have st12 := st1.trans st2
  refine q2 W2 H2 σ _ s2 (en.step st12 s) fun W3 H3 st3 s3 => ?_
  have r3 : Rp X.K W3 H3 (.tup ts) x := (Rp.step r1 st2 s1).step st3 s2
  cases r3 with
  | tup f hl r =>
    refine ⟨_, _, rfl, .inl (.inl hl), by rw [← r.length]; exact hw, fun p hp => ?_⟩
    have st13 := st12.trans st3
    obtain ⟨f1, f2, f3⟩ := frz_tup s3 hp (cut_rp r l h)
    exact q _ _ _ (st13.trans f1) f2 f3
/-- + of lists -/
theorem ev_cat {vs : List T} (ha : Ev X a ρ L (.v t) L1) (hb : Ev X b ρ L1 (.v u) Lb) (h1 : LstM Lb t ts) (h2 : LstM Lb u vs) (hz : ts.length + vs.length ≤ 100000) : Ev X (.BinOp a .Add b pos) ρ L (.n (.lst (ts ++ vs))) Lb :=
  ev_bin op_cat ha hb fun W H x y Q s r1 r2 q => by
    obtain ⟨l, xs, rfl, e1, r1⟩ := lst_m s r1 h1
    obtain ⟨m, ys, rfl, e2, r2⟩ := lst_m s r2 h2
    exact ⟨l, m, xs, ys, rfl, rfl, e1, e2, sz_small (by rw [← r1.length, ← r2.length]; exact hz), fun p hp => q _ W _ (.newp hp) (s.new hp) (new_n (t := .lst _) s hp ⟨_, upd_same, (r1.append r2).newp hp⟩)⟩
/-- list * int -/
theorem ev_rep (ha : Ev X a ρ L (.v t) L1) (hb : Ev X b ρ L1 (.v (I i)) Lb) (h1 : LstM Lb t ts) (h2 : -(2 ^ 63) ≤ i) (h3 : i < 2 ^ 63) (hz : ts.length * i.toNat ≤ 100000) : Ev X (.BinOp a .Mult b pos) ρ L (.n (.lst (List.replicate i.toNat ts).flatten)) Lb :=
  ev_bin op_rep ha hb fun W H x y Q s r1 r2 q => by
    obtain ⟨l, xs, rfl, e1, r1⟩ := lst_m s r1 h1
    cases r2
    refine ⟨l, i, xs, rfl, rfl, e1, h2, h3, sz_small (by rw [← r1.length]; exact hz), fun p hp => q _ W _ (.newp hp) (s.new hp) (new_n (t := .lst _) s hp ⟨_, upd_same, ?_⟩)⟩
    have hk : ∀ n : Nat, RpL X.K W H (List.replicate n ts).flatten (List.replicate n xs).flatten := fun n => by
      induction n with
      | zero => exact .nil
      | succ n ih => rw [List.replicate_succ, List.replicate_succ, List.flatten_cons, List.flatten_cons]; exact r1.append ih
    exact (hk i.toNat).newp hp
/-- + of tuples -/
theorem ev_catT {vs : List T} (ha : Ev X a ρ L (.v (.tup ts)) L1) (hb : Ev X b ρ L1 (.v (.tup vs)) Lb) (h1 : ts ≠ []) (hz : ts.length + vs.length ≤ 100000) : Ev X (.BinOp a .Add b pos) ρ L (.v (.tup (ts ++ vs))) Lb :=
  ev_bin op_catT ha hb fun W H x y Q s r1 r2 q => by
    cases r1 with
    | tup f1 e1 r1 =>
      cases r2 with
      | tup f2 e2 r2 =>
        refine ⟨_, _, _, _, rfl, rfl, .inl (.inl e1), .inl (.inl e2), fun z => h1 ?_, sz_small (by rw [← r1.length, ← r2.length]; exact hz), fun z => ?_, fun _ p hp => ?_⟩
        · subst z; cases r1; rfl
        · subst z
          cases r2
          rw [List.append_nil] at q
          exact q _ W H .refl s (.tup f1 e1 r1)
        · obtain ⟨g1, g2, g3⟩ := frz_tup s hp (r1.append r2)
          exact q _ _ _ g1 g2 g3

/-! calls -/
def Rel := List T → Store → R → Store → Prop
def spT (K : PySem.W.Frag) (Rl : Rel) : Sp := fun vs H Q _ => ∃ ts L r L' W, SR K W H L ∧ RpL K W H ts vs ∧ Rl ts L r L' ∧ ∀ x W' H', Step W L H W' L' H' → SR K W' H' L' → RR K W' L' H H' r x → Q x H'
theorem rp_atoms {W : Wd} {H : Hp} : ∀ dvs : List V, RpL K W H (dvs.map T.v) dvs
  | [] => .nil
  | x :: dvs => .cons (.v x) (rp_atoms dvs)
theorem Cq.pass (ct : Cq cm CX P w K mg base k N sc fs X) : Passes CX X E0 := fun _ _ _ _ _ _ _ h => (ct.cx _ _ _ _ _ h).elim
/-- a def keeps the relation Rl, where no repr is under way -/
structure FnT (P : Program) (w : World) (K : PySem.W.Frag) (mg : Str → Option Value) (base : Heap) (CX : CXT) (k : Nat) (f : Addr) (fd : FuncData) (ps : List Str) (Rl : Rel) : Prop where
  len : ∀ ts L r L', Rl ts L r L' → ts.length = ps.length
  go : ∀ (A : Around) (outer : List Env) (s : Shared) (H : Hp) (args : Args) (us : List Value) (vs : List V) (Q : VK), Room k A → A.guards = some [] → Env0 P w K mg base A outer s H → BindsTo s fd args (ps.zip us) → Vals vs us →
    spT K Rl vs H Q E0 → codeAny (model P w) A (.call (.ref f) args) (CR CX outer P w H s Q E0) s
/-- the callee runs, its arguments bound as us -/
theorem run_T {f : Addr} {fd : FuncData} {ps : List Str} {Rl : Rel} {j : Nat} {pins : List (Addr × Obj)} {σ : L2.St} {H : Hp} {s : Shared} {Q : VK} {us ws : List Value} {kw : List (Str × Value)} {vs : List V} (F : FnT X.prog X.w X.K X.mg X.base CX j f fd ps Rl)
    (hr : Room j X.A) (hg : X.A.guards = some []) (hx : Passes CX X E0) (I : Inv X pins σ H s) (hb : BindsTo s fd ⟨ws, kw⟩ (ps.zip us)) (r : Vals vs us) (h : spT X.K Rl vs H Q E0) : wpAny (model X.prog X.w) X.A (call (.ref f) ws kw) (EP X pins σ Q) X.xe s := by
  refine wpAny_call (codeAny_mono (F.go X.A X.stack s H ⟨ws, kw⟩ us vs Q hr hg I.env0 hb r h) fun out s' q => ?_)
  match out, q with
  | .error e, q => exact hx pins σ H s e s' I q
  | .ok (.ret u), q => exact I.after q
theorem ev_call {f : Addr} {fd : FuncData} {ps : List Str} {Rl : Rel} {j : Nat} {x : Str} {r : R} {ds : List Value} {dvs : List V} (ct : Cq true CX P w K mg base k N sc fs X) (F : FnT P w K mg base CX j f fd ps Rl) (hj : j ≤ k) (hm : mg x = some (.ref f)) (hk : PySem.W.keepIn K (.ref f) = true)
    (hb : Binds K fd ps ds) (hd : Vals dvs ds) (hg : glOk sc x = true) (ha : EvA X (e :: es) ρ L ts L1) (h : Rl (ts ++ dvs.map T.v) L1 r Lb) (he : starEach (e :: es) X.env = (false, eval e X.env) :: starEach es X.env := by rfl) (hpl : (backTo pos (starEach es X.env)).any (·.1) = false := by rfl) : Ev X (.Call (.Name x p) (e :: es) [] pos) ρ L r Lb := by
  have hx := ct.pass
  have gl := ct.gl hg
  have hr := (ct.room rfl).mono hj
  have gd := ct.gd
  obtain ⟨rfl, rfl, rfl, rfl, rfl, _, _, _, _, _, _, _, _, _⟩ := ct
  refine ⟨fun W H σ Q s en q pins st Iv => ?_⟩
  refine wpAny_Call_Name_kw (ld_glob Iv gl hm ?_ (glOk_of hg).2.1)
  refine PySem.W.callWith_K (h₀ := X.base) Iv.ok.mod.kin hk ?_ he hpl
  refine thn (ha W H σ (fun xs H1 => spT X.K Rl (xs ++ dvs) H1 Q E0) s en (fun xs W1 H1 st1 s1 r1 => ?_) pos pins st Iv) fun us s1 ⟨vs, H1, I1, rv, q1⟩ => ⟨I1.kIn, ?_⟩
  · exact ⟨_, L1, r, Lb, W1, s1, r1.append (rp_atoms dvs), h, fun x W2 H2 st2 s2 r2 => q x W2 H2 (st1.trans st2) s2 (r2.back st1.dom)⟩
  · have rr : Vals (vs ++ dvs) (us ++ ds) := rv.append hd
    have hl : (us ++ ds).length = ps.length := by
      rw [← rr.length]
      obtain ⟨ts', L', r', L'', W', _, r1, hR, _⟩ := q1
      rw [← r1.length]
      exact F.len _ _ _ _ hR
    exact run_T F hr gd hx I1 (hb s1 us I1.kIn hl) rr q1
theorem ev_call0 {f : Addr} {fd : FuncData} {ps : List Str} {Rl : Rel} {j : Nat} {x : Str} {r : R} {ds : List Value} {dvs : List V} (ct : Cq true CX P w K mg base k N sc fs X) (F : FnT P w K mg base CX j f fd ps Rl) (hj : j ≤ k) (hm : mg x = some (.ref f)) (hk : PySem.W.keepIn K (.ref f) = true)
    (hb : Binds K fd ps ds) (hd : Vals dvs ds) (hg : glOk sc x = true) (h : Rl (dvs.map T.v) L r Lb) : Ev X (.Call (.Name x p) [] [] pos) ρ L r Lb := by
  have hx := ct.pass
  have gl := ct.gl hg
  have hr := (ct.room rfl).mono hj
  have gd := ct.gd
  obtain ⟨rfl, rfl, rfl, rfl, rfl, _, _, _, _, _, _, _, _, _⟩ := ct
  refine ⟨fun W H σ Q s en q pins st Iv => ?_⟩
  refine wpAny_Call_Name_kw (ld_glob Iv gl hm ?_ (glOk_of hg).2.1)
  have hl : ([] ++ ds).length = ps.length := by
    rw [List.nil_append, ← hd.length, ← F.len _ _ _ _ h, List.length_map]
  exact PySem.W.callWith_K0 Iv.kIn hk (run_T F hr gd hx Iv (hb st [] Iv.kIn hl) hd ⟨_, L, r, Lb, W, s, rp_atoms dvs, h, fun x W2 H2 st2 s2 r2 => q x W2 H2 st2 s2 r2⟩)
/-- keywords' values -/
def wpK (X : Cx) (kws : List Keyword) (σ : L2.St) (H : Hp) (Q : List V → Hp → Prop) : Prop := ∀ (pos : Pos) (pins : List (Addr × Obj)) (s : Shared), Inv X pins σ H s → wpAny (model X.prog X.w) X.A (evalAll ((backToKw pos (keywordEach kws X.env)).map (·.2))) (AP X pins σ Q) X.xe s
theorem pk_wp {kws : List Keyword} : PK X kws (wpK X kws) := ⟨fun pos pins s _ _ _ I h => h pos pins s I⟩
structure EvK (X : Cx) (kws : List Keyword) (ρ : TEnv) (L : Store) (ts : List T) (L' : Store) : Prop where
  go : ∀ (W : Wd) (H : Hp) (σ : L2.St) (Q : List V → Hp → Prop), SR X.K W H L → EnvR X.K W H ρ σ → (∀ xs W' H', Step W L H W' L' H' → SR X.K W' H' L' → RpL X.K W' H' ts xs → Q xs H') → wpK X kws σ H Q
instance {X : Cx} {kws : List Keyword} {ρ : TEnv} {L : Store} {ts : List T} {L' : Store} : CoeFun (EvK X kws ρ L ts L') (fun _ => ∀ (W : Wd) (H : Hp) (σ : L2.St) (Q : List V → Hp → Prop), SR X.K W H L → EnvR X.K W H ρ σ → (∀ xs W' H', Step W L H W' L' H' → SR X.K W' H' L' → RpL X.K W' H' ts xs → Q xs H') → wpK X kws σ H Q) := ⟨EvK.go⟩
theorem ek_nil : EvK X [] ρ L [] L := ⟨fun W H σ Q s _ q pos pins st I => pk_nil.run pos pins st σ H Q I (q [] W H .refl s .nil)⟩
theorem ek_cons {nm : Option Str} {kpos : Pos} {kws : List Keyword} (ha : Ev X e ρ L (.v t) L1) (hb : EvK X kws ρ L1 ts Lb) : EvK X (⟨nm, e, kpos⟩ :: kws) ρ L (t :: ts) Lb := by
  refine ⟨fun W H σ Q s en q pos pins st I => ?_⟩
  refine (pk_cons pe_wp pk_wp).run pos pins st σ H Q I ?_
  refine ha W H σ _ s en fun x W1 H1 st1 s1 r1 => ?_
  refine hb W1 H1 σ _ s1 (en.step st1 s) fun xs W2 H2 st2 s2 r2 => ?_
  exact q _ W2 H2 (st1.trans st2) s2 (.cons (Rp.step r1 st2 s1) r2)
/-- f(e, .., k = v, ..): gT puts the trees in the parameters' order as gV does the values -/
theorem ev_callK {f : Addr} {fd : FuncData} {ps ks : List Str} {Rl : Rel} {j n : Nat} {x : Str} {r : R} {kws : List Keyword} {g : List Value → List Value → List Value} {gV : List V → List V → List V} {zs : List T} (gT : List T → List T → List T)
    (ct : Cq true CX P w K mg base k N sc fs X) (F : FnT P w K mg base CX j f fd ps Rl) (hj : j ≤ k) (hm : mg x = some (.ref f)) (hk : PySem.W.keepIn K (.ref f) = true)
    (hb : KBn K fd ps n ks g gV) (hgT : ∀ W H vs us, RpL K W H ts vs → RpL K W H zs us → RpL K W H (gT ts zs) (gV vs us)) (hn : ts.length = n) (hn2 : zs.length = ks.length) (hg : glOk sc x = true) (ha : EvA X (e :: es) ρ L ts L1) (hkw : EvK X kws ρ L1 zs Lb) (h : Rl (gT ts zs) Lb r Lc)
    (hall : (backToKw pos (keywordEach kws X.env)).all (·.1.isSome) = true := by rfl) (hks : (backToKw pos (keywordEach kws X.env)).filterMap (·.1) = ks := by rfl)
    (he : starEach (e :: es) X.env = (false, eval e X.env) :: starEach es X.env := by rfl)
    (hpl : ((backTo pos (starEach (e :: es) X.env)).any (·.1) || (backToKw pos (keywordEach kws X.env)).any (·.1.isNone)) = false := by rfl) : Ev X (.Call (.Name x p) (e :: es) kws pos) ρ L r Lc := by
  have hx := ct.pass
  have gl := ct.gl hg
  have hr := (ct.room rfl).mono hj
  have gd := ct.gd
  obtain ⟨rfl, rfl, rfl, rfl, rfl, _, _, _, _, _, _, _, _, _⟩ := ct
  refine ⟨fun W H σ Q s en q pins st Iv => ?_⟩
  refine wpAny_Call_Name_kw (ld_glob Iv gl hm ?_ (glOk_of hg).2.1)
  refine PySem.W.callWith_KW (h₀ := X.base) Iv.ok.mod.kin hk hall ?_ hpl he
  refine thn (ha W H σ (fun xs H1 => wpK X kws σ H1 fun ys H2 => xs.length = n ∧ ys.length = ks.length ∧ spT X.K Rl (gV xs ys) H2 Q E0) s en (fun xs W1 H1 st1 s1 r1 => ?_) pos pins st Iv) fun us s1 ⟨vs, H1, I1, rv, q1⟩ => ?_
  · refine hkw W1 H1 σ _ s1 (en.step st1 s) fun ys W2 H2 st2 s2 r2 => ⟨by rw [← r1.length]; exact hn, by rw [← r2.length]; exact hn2, ?_⟩
    have st12 := st1.trans st2
    exact ⟨_, Lb, r, Lc, W2, s2, hgT _ _ _ _ (r1.step st2 s1) r2, h, fun x W3 H3 st3 s3 r3 => q x W3 H3 (st12.trans st3) s3 (r3.back st12.dom)⟩
  · refine thn (q1 pos pins s1 I1) fun ws s2 ⟨zs', H2, I2, rz, l1, l2, q2⟩ => ⟨I2.kIn, ?_⟩
    rw [hks]
    exact run_T F hr gd hx I2 (hb.to s2 us ws I2.kIn (rv.length.symm.trans l1) (rz.length.symm.trans l2)) (hb.rel rv rz) q2
/-- o.m(..) -/
theorem ev_meth {o : Expr} {m : Str} {apos : Pos} {C f : Addr} {fd : FuncData} {ps : List Str} {Rl : Rel} {j : Nat} {r : R} {ns : List Str} {pl : Sem Bool} (ct : Cq true CX P w K mg base k N sc fs X) (cl : Cls K C) (hm : Meth K C m f) (F : FnT P w K mg base CX j f fd ps Rl) (hj : j ≤ k)
    (hb : Binds K fd ps []) (ho : Ev X o ρ L (.v t) L1) (hi : InsT L1 t C ns us) (hn : (ns.zip us).lookup m = none) (ha : EvA X (e :: es) ρ L1 ts Lb) (h : Rl (t :: ts) Lb r Lc)
    (hst : starEach (e :: es) X.env = (false, eval e X.env) :: starEach es X.env := by rfl) (hpl : (backTo pos (starEach es X.env)).any (·.1) = false := by rfl)
    (ht : eval (.Call (.Attribute o m apos) (e :: es) [] pos) X.env = (do
      let ov ← eval o X.env
      standAt apos.atName
      let (f, first) ← holding [ov] (getMethod ov m pl)
      callWith pos f first (backTo pos (starEach (e :: es) X.env)) (backToKw pos (keywordEach [] X.env))) := by rfl) : Ev X (.Call (.Attribute o m apos) (e :: es) [] pos) ρ L r Lc := by
  have hx := ct.pass
  have hr := (ct.room rfl).mono hj
  have gd := ct.gd
  obtain ⟨rfl, rfl, rfl, rfl, rfl, _, _, _, _, _, _, _, _, _⟩ := ct
  refine ⟨fun W H σ Q s en q pins st Iv => ?_⟩
  refine PySem.W.methodCall_KW (pl := pl) ?_ ht
  refine thn (ho W H σ (fun x H1 => ∃ a dx fs, x = .ref a ∧ H1 a = some (.ins C dx fs) ∧ fs.lookup m = none ∧ wpA X (e :: es) σ H1 fun vs H2 => spT X.K Rl (.ref a :: vs) H2 Q E0) s en (fun x W1 H1 st1 s1 r1 => ?_) pins st Iv) fun u s1 ⟨x, H1, I1, rx, a, dx, fl, ex, ea, l, q1⟩ => ?_
  · obtain ⟨a, dx, vs, rfl, e1, l1, rr⟩ := ins_at s1 r1 hi
    refine ⟨a, dx, _, rfl, e1, lookup_zip_none rr hn, ?_⟩
    refine ha W1 H1 σ _ s1 (en.step st1 s) fun xs W2 H2 st2 s2 r2 => ?_
    have st12 := st1.trans st2
    exact ⟨_, Lb, r, Lc, W2, s2, .cons (Rp.step r1 st2 s1) r2, h, fun x W3 H3 st3 s3 r3 => q x W3 H3 (st12.trans st3) s3 (r3.back st12.dom)⟩
  · subst ex
    obtain rfl : u = Value.ref a := rx
    refine getmeth_ok I1 ea cl hm l ?_
    refine PySem.W.callWith_K (first := [.ref a]) (h₀ := X.base) Iv.ok.mod.kin hm.kp (thn (q1 pos pins s1 I1) fun us s2 ⟨vs, H2, I2, rv, q2⟩ => ⟨I2.kIn, ?_⟩) hst hpl
    have rr : Vals (V.ref a :: vs) (Value.ref a :: us) := .cons rfl rv
    have hl : ((Value.ref a :: us) ++ []).length = ps.length := by
      rw [List.append_nil, ← rr.length]
      obtain ⟨ts', L', r', L'', W', _, r1, hR, _⟩ := q2
      rw [← r1.length]
      exact F.len _ _ _ _ hR
    have bb := hb s2 (Value.ref a :: us) I2.kIn hl
    rw [List.append_nil] at bb
    exact run_T F hr gd hx I2 bb rr q2
theorem ev_meth0 {o : Expr} {m : Str} {apos : Pos} {C f : Addr} {fd : FuncData} {ps : List Str} {Rl : Rel} {j : Nat} {r : R} {ns : List Str} {pl : Sem Bool} (ct : Cq true CX P w K mg base k N sc fs X) (cl : Cls K C) (hm : Meth K C m f) (F : FnT P w K mg base CX j f fd ps Rl) (hj : j ≤ k)
    (hb : Binds K fd ps []) (ho : Ev X o ρ L (.v t) L1) (hi : InsT L1 t C ns us) (hn : (ns.zip us).lookup m = none) (h : Rl [t] L1 r Lb)
    (ht : eval (.Call (.Attribute o m apos) [] [] pos) X.env = (do
      let ov ← eval o X.env
      standAt apos.atName
      let (f, first) ← holding [ov] (getMethod ov m pl)
      callWith pos f first (backTo pos (starEach [] X.env)) (backToKw pos (keywordEach [] X.env))) := by rfl) : Ev X (.Call (.Attribute o m apos) [] [] pos) ρ L r Lb := by
  have hx := ct.pass
  have hr := (ct.room rfl).mono hj
  have gd := ct.gd
  obtain ⟨rfl, rfl, rfl, rfl, rfl, _, _, _, _, _, _, _, _, _⟩ := ct
  refine ⟨fun W H σ Q s en q pins st Iv => ?_⟩
  refine PySem.W.methodCall_KW (pl := pl) ?_ ht
  refine thn (ho W H σ (fun x H1 => ∃ a dx fs, x = .ref a ∧ H1 a = some (.ins C dx fs) ∧ fs.lookup m = none ∧ spT X.K Rl [.ref a] H1 Q E0) s en (fun x W1 H1 st1 s1 r1 => ?_) pins st Iv) fun u s1 ⟨x, H1, I1, rx, a, dx, fl, ex, ea, l, q1⟩ => ?_
  · obtain ⟨a, dx, vs, rfl, e1, l1, rr⟩ := ins_at s1 r1 hi
    refine ⟨a, dx, _, rfl, e1, lookup_zip_none rr hn, ?_⟩
    exact ⟨_, L1, r, Lb, W1, s1, .cons r1 .nil, h, fun x W3 H3 st3 s3 r3 => q x W3 H3 (st1.trans st3) s3 (r3.back st1.dom)⟩
  · subst ex
    obtain rfl : u = Value.ref a := rx
    refine getmeth_ok I1 ea cl hm l ?_
    have hl : ([Value.ref a] ++ []).length = ps.length := by rw [← F.len _ _ _ _ h]; rfl
    exact PySem.W.callWith_K0 (first := [.ref a]) I1.kIn hm.kp (run_T F hr gd hx I1 (hb s1 [.ref a] I1.kIn hl) (show Vals [V.ref a] [Value.ref a] from .cons rfl .nil) q1)
/-- o.f -/
theorem ev_fld {o : Expr} {f : Str} {C : Addr} {ns : List Str} (cl : Cls X.K C) (hn : NoAttr X.K C f) (ho : Ev X o ρ L (.v t) L1) (hi : InsT L1 t C ns us) (hl : (ns.zip us).lookup f = some u) (hb : attributeBase o f X.env (eval o X.env) = eval o X.env := by rfl) : Ev X (.Attribute o f pos) ρ L (.v u) L1 := by
  refine ⟨fun W H σ Q s en q => ?_⟩
  refine wp_pe (pe_fld pe_wp hb) ?_
  refine ho W H σ _ s en fun x W1 H1 st1 s1 r1 => ?_
  obtain ⟨a, dx, vs, rfl, e1, l1, rr⟩ := ins_at s1 r1 hi
  obtain ⟨y, e2, r2⟩ := lookup_zip rr hl
  exact ⟨a, C, dx, _, y, rfl, e1, cl, hn, e2, q y W1 H1 st1 s1 r2⟩
/-- a new instance is made, __init__ runs: the values bound are the instance's and us -/
theorem run_makeT {f C : Addr} {fd : FuncData} {ps : List Str} {Rl : Rel} {j : Nat} {pins : List (Addr × Obj)} {σ : L2.St} {H : Hp} {s : Shared} {Q : VK} {us ws : List Value} {kw : List (Str × Value)} {vs : List V} (M : Mk X.K C f) (F : FnT X.prog X.w X.K X.mg X.base CX j f fd ps Rl)
    (hr : Room (j + 1) X.A) (hg : X.A.guards = some []) (hx : Passes CX X E0) (I : Inv X pins σ H s) (hb : ∀ (s' : Shared) (a : Addr), X.K.In s'.heap → BindsTo s' fd ⟨.ref a :: ws, kw⟩ (ps.zip (.ref a :: us))) (r : Vals vs us)
    (h : ∀ y dx, H y = none → H dx = none → dx ≠ y → spT X.K Rl (.ref y :: vs) (upd (upd H dx (.own y)) y (.ins C dx [])) (fun v H2 => v = .non ∧ Q (.ref y) H2) E0) : wpAny (model X.prog X.w) X.A (call (.ref C) ws kw) (EP X pins σ Q) X.xe s := by
  have q0 := h (s.heap.objs.size + 1) s.heap.objs.size (I.hok.fresh (Nat.le_succ _)) (I.hok.fresh (Nat.le_refl _)) (Nat.ne_of_lt (Nat.lt_succ_self _))
  have Im := Inv.made (C := C) I
  refine wpAny_call (make_map (f := f) I.kIn M.makes M.init (beq_iff_eq.mp M.fn) ?_)
  refine codeAny_mono (F.go _ X.stack _ _ ⟨Value.ref (s.heap.objs.size + 1) :: ws, kw⟩ (Value.ref (s.heap.objs.size + 1) :: us) (V.ref (s.heap.objs.size + 1) :: vs) _ (hr.make C ws kw) ?_ (Im.env0.make C ws kw) (hb _ _ Im.kIn) (.cons rfl r) q0) fun out s' q => ?_
  · simp [Around.under, Code.guards, pushGuards, hg, Code.isGuard, guardIds]
  · match out, q with
    | .error e, q => exact hx pins σ _ _ e s' Im q
    | .ok (.ret u), q =>
      obtain ⟨v, H', I3, rv, ev, q3⟩ := Im.after q
      subst ev
      exact ⟨rv, V.ref (s.heap.objs.size + 1), H', I3, rfl, q3⟩
/-- the trees of a making: from a promise of __init__ over the cell n -/
theorem make_T {Rl : Rel} {C : Addr} {ns : List Str} {gs : List T} {W : Wd} {H : Hp} {vs : List V} {Q : VK} (s : SR K W H L) (r : RpL K W H ts vs)
    (h : ∀ n, L n = none → ∃ Lz, Rl (.cel n :: ts) (updS L n (some (.ins C [] []))) (.v N0) Lz ∧ Lz n = some (.ins C ns gs) ∧ (∀ m t, Lb m = some t → Lz m = some t) ∧ Lb n = none)
    (q : ∀ y W' H', Step W L H W' Lb H' → SR K W' H' Lb → RR K W' Lb H H' (.n (.ins C ns gs)) y → Q y H') :
    ∀ y dx, H y = none → H dx = none → dx ≠ y → spT K Rl (.ref y :: vs) (upd (upd H dx (.own y)) y (.ins C dx [])) (fun v H2 => v = .non ∧ Q (.ref y) H2) E0 := by
  intro y dx hy hdx hne
  obtain ⟨n, hn⟩ : ∃ n, W.ad n = none := let ⟨b, hb⟩ := s.fin; ⟨b, hb b (Nat.le_refl _)⟩
  have hL : L n = none := by
    cases e : L n with
    | none => rfl
    | some t => exact absurd hn (s.at_ n ⟨t, e⟩)
  obtain ⟨Lz, hRl, hzn, hsub, hbn⟩ := h n hL
  have hy1 : upd H dx (.own y) y = none := by rw [upd_ne (Ne.symm hne)]; exact hy
  have st2 : Step W L H W L (upd (upd H dx (.own y)) y (.ins C dx [])) := (Step.newp hdx).trans (.newp hy1)
  have s2 : SR K W (upd (upd H dx (.own y)) y (.ins C dx [])) L := (s.new hdx).new hy1
  have yF : ¬ W.F y := fun f => s.fh y f hy
  have yc : ∀ m : Nat, Live L m → W.ad m ≠ some y := fun m l e => s.adh m y l e hy
  have s3 := s2.cell (n := n) (t := .ins C [] []) hn ⟨dx, [], upd_same, rfl, .nil⟩ yF yc
  have st3 : Step W L H (W.cell n y) (updS L n (some (.ins C [] []))) (upd (upd H dx (.own y)) y (.ins C dx [])) := st2.cell hn hy
  refine ⟨_, _, _, Lz, W.cell n y, s3, .cons (.cel cell_same) (((r.newp hdx).newp hy1).cell hn), hRl, fun v W4 H4 st4 s4 r4 => ?_⟩
  cases r4
  refine ⟨rfl, ?_⟩
  have st14 := st3.trans st4
  have e4 : W4.ad n = some y := st4.ad n y cell_same
  refine q _ W4 H4 (st14.less hsub) (s4.less hsub) ⟨y, rfl, hy, fun f => s4.nf n y ⟨_, hzn⟩ e4 f, fun m ⟨t, l⟩ e => ?_, s4.cel n _ y hzn e4⟩
  have : m = n := s4.inj m n y ⟨t, hsub m t l⟩ ⟨_, hzn⟩ e e4
  subst this
  rw [hbn] at l; cases l
/-- C(..) -/
theorem ev_make {f C : Addr} {fd : FuncData} {ps : List Str} {Rl : Rel} {j : Nat} {x : Str} {ns : List Str} {ds : List Value} {dvs : List V} (ct : Cq true CX P w K mg base k N sc fs X) (M : Mk K C f) (F : FnT P w K mg base CX j f fd ps Rl) (hj : j + 1 ≤ k) (hm : mg x = some (.ref C))
    (hb : Binds K fd ps ds) (hd : Vals dvs ds) (hg : glOk sc x = true) (ha : EvA X (e :: es) ρ L ts L1) (hlen : (ts.length + dvs.length) + 1 = ps.length)
    (h : ∀ n, L1 n = none → ∃ Lz, Rl (.cel n :: (ts ++ dvs.map T.v)) (updS L1 n (some (.ins C [] []))) (.v N0) Lz ∧ Lz n = some (.ins C ns us) ∧ (∀ m t, Lb m = some t → Lz m = some t) ∧ Lb n = none)
    (he : starEach (e :: es) X.env = (false, eval e X.env) :: starEach es X.env := by rfl) (hpl : (backTo pos (starEach es X.env)).any (·.1) = false := by rfl) : Ev X (.Call (.Name x p) (e :: es) [] pos) ρ L (.n (.ins C ns us)) Lb := by
  have hx := ct.pass
  have gl := ct.gl hg
  have hr := (ct.room rfl).mono hj
  have gd := ct.gd
  obtain ⟨rfl, rfl, rfl, rfl, rfl, _, _, _, _, _, _, _, _, _⟩ := ct
  refine ⟨fun W H σ Q s en q pins st Iv => ?_⟩
  refine wpAny_Call_Name_kw (ld_glob Iv gl hm ?_ (glOk_of hg).2.1)
  refine PySem.W.callWith_K (h₀ := X.base) Iv.ok.mod.kin M.kp ?_ he hpl
  refine thn (ha W H σ (fun xs H1 => xs.length = ts.length ∧ ∀ y dx, H1 y = none → H1 dx = none → dx ≠ y → spT X.K Rl (.ref y :: (xs ++ dvs)) (upd (upd H1 dx (.own y)) y (.ins C dx [])) (fun v H2 => v = .non ∧ Q (.ref y) H2) E0) s en (fun xs W1 H1 st1 s1 r1 => ⟨r1.length.symm, ?_⟩) pos pins st Iv) fun us' s1 ⟨vs, H1, I1, rv, l1, q1⟩ => ⟨I1.kIn, ?_⟩
  · exact make_T s1 (r1.append (rp_atoms dvs)) h fun y W2 H2 st2 s2 r2 => q y W2 H2 (st1.trans st2) s2 (r2.back st1.dom)
  · refine run_makeT (us := us' ++ ds) M F hr gd hx I1 (fun s' a Kin => ?_) (rv.append hd) q1
    exact hb s' (.ref a :: us') Kin (by rw [List.length_append, List.length_cons, ← rv.length, ← hd.length, l1]; omega)
/-- C(.., k = v, ..) -/
theorem ev_makeK {f C : Addr} {fd : FuncData} {ps ks : List Str} {Rl : Rel} {j n0 : Nat} {x : Str} {ns : List Str} {kws : List Keyword} {g : List Value → List Value → List Value} {gV : List V → List V → List V} {zs : List T} {g0 : List Value → List Value → List Value} {gV0 : List V → List V → List V} (gT : List T → List T → List T)
    (ct : Cq true CX P w K mg base k N sc fs X) (M : Mk K C f) (F : FnT P w K mg base CX j f fd ps Rl) (hj : j + 1 ≤ k) (hm : mg x = some (.ref C))
    (hb : KBn K fd ps (n0 + 1) ks g gV) (hg0 : ∀ u us ws, g (u :: us) ws = u :: g0 us ws) (hv0 : ∀ v vs zs, gV (v :: vs) zs = v :: gV0 vs zs) (hr0 : ∀ {vs us zs ws}, Vals vs us → Vals zs ws → Vals (gV0 vs zs) (g0 us ws))
    (hgT : ∀ W H vs us, RpL K W H ts vs → RpL K W H zs us → RpL K W H (gT ts zs) (gV0 vs us)) (hn : ts.length = n0) (hn2 : zs.length = ks.length) (hg : glOk sc x = true) (ha : EvA X (e :: es) ρ L ts L1) (hkw : EvK X kws ρ L1 zs Lb)
    (h : ∀ n, Lb n = none → ∃ Lz, Rl (.cel n :: gT ts zs) (updS Lb n (some (.ins C [] []))) (.v N0) Lz ∧ Lz n = some (.ins C ns us) ∧ (∀ m t, Lc m = some t → Lz m = some t) ∧ Lc n = none)
    (hall : (backToKw pos (keywordEach kws X.env)).all (·.1.isSome) = true := by rfl) (hks : (backToKw pos (keywordEach kws X.env)).filterMap (·.1) = ks := by rfl)
    (he : starEach (e :: es) X.env = (false, eval e X.env) :: starEach es X.env := by rfl)
    (hpl : ((backTo pos (starEach (e :: es) X.env)).any (·.1) || (backToKw pos (keywordEach kws X.env)).any (·.1.isNone)) = false := by rfl) : Ev X (.Call (.Name x p) (e :: es) kws pos) ρ L (.n (.ins C ns us)) Lc := by
  have hx := ct.pass
  have gl := ct.gl hg
  have hr := (ct.room rfl).mono hj
  have gd := ct.gd
  obtain ⟨rfl, rfl, rfl, rfl, rfl, _, _, _, _, _, _, _, _, _⟩ := ct
  refine ⟨fun W H σ Q s en q pins st Iv => ?_⟩
  refine wpAny_Call_Name_kw (ld_glob Iv gl hm ?_ (glOk_of hg).2.1)
  refine PySem.W.callWith_KW (h₀ := X.base) Iv.ok.mod.kin M.kp hall ?_ hpl he
  refine thn (ha W H σ (fun xs H1 => wpK X kws σ H1 fun ys H2 => xs.length = n0 ∧ ys.length = ks.length ∧ ∀ y dx, H2 y = none → H2 dx = none → dx ≠ y → spT X.K Rl (.ref y :: gV0 xs ys) (upd (upd H2 dx (.own y)) y (.ins C dx [])) (fun v H2 => v = .non ∧ Q (.ref y) H2) E0) s en (fun xs W1 H1 st1 s1 r1 => ?_) pos pins st Iv) fun us' s1 ⟨vs, H1, I1, rv, q1⟩ => ?_
  · refine hkw W1 H1 σ _ s1 (en.step st1 s) fun ys W2 H2 st2 s2 r2 => ⟨by rw [← r1.length]; exact hn, by rw [← r2.length]; exact hn2, ?_⟩
    have st12 := st1.trans st2
    exact make_T s2 (hgT _ _ _ _ (r1.step st2 s1) r2) h fun y W3 H3 st3 s3 r3 => q y W3 H3 (st12.trans st3) s3 (r3.back st12.dom)
  · refine thn (q1 pos pins s1 I1) fun ws s2 ⟨zs', H2, I2, rz, l1, l2, q2⟩ => ⟨I2.kIn, ?_⟩
    rw [hks]
    refine run_makeT (us := g0 us' ws) M F hr gd hx I2 (fun s' a Kin => ?_) (hr0 rv rz) q2
    have := hb.to s' (.ref a :: us') ws Kin (by rw [List.length_cons, ← rv.length, l1]) (rz.length.symm.trans l2)
    rw [hg0] at this
    exact this
end
end TL


/-! The tree layer, part D: targets, comprehensions, statements, defs. -/
namespace TL
open PySem PySem.Spec PyProof.Rows L2

/-! targets -/
/-- σ2 is σ but at the slots js -/
def OnlyAt (js : List Nat) (σ σ2 : L2.St) : Prop := σ2.length = σ.length ∧ ∀ i, i ∉ js → σ2[i]? = σ[i]?
theorem OnlyAt.refl {js : List Nat} {σ : L2.St} : OnlyAt js σ σ := ⟨rfl, fun _ _ => rfl⟩
theorem OnlyAt.set {i : Nat} {σ : L2.St} {o : Option V} : OnlyAt [i] σ (σ.set i o) := ⟨List.length_set, fun j h => List.getElem?_set_ne (by intro e; exact h (by rw [e]; exact List.mem_cons_self))⟩
theorem OnlyAt.app {js ks : List Nat} {σ σ1 σ2 : L2.St} (a : OnlyAt js σ σ1) (b : OnlyAt ks σ1 σ2) : OnlyAt (js ++ ks) σ σ2 :=
  ⟨b.1.trans a.1, fun i h => (b.2 i fun z => h (List.mem_append_right _ z)).trans (a.2 i fun z => h (List.mem_append_left _ z))⟩
theorem wipe_get (σ : L2.St) : ∀ (vs : List Nat) (i : Nat), (L2.wipe σ vs)[i]? = if i ∈ vs ∧ i < σ.length then some none else σ[i]?
  | [], i => by simp [L2.wipe]
  | v :: vs, i => by
    unfold L2.wipe
    by_cases e : v = i
    · subst e
      by_cases h : v < σ.length
      · rw [List.getElem?_set_self (by rw [wipe_length]; exact h), if_pos ⟨List.mem_cons_self, h⟩]
      · rw [List.getElem?_eq_none (by rw [List.length_set, wipe_length]; omega), if_neg (fun z => h z.2), List.getElem?_eq_none (by omega)]
    · rw [List.getElem?_set_ne e, wipe_get σ vs i]
      by_cases h : i ∈ vs ∧ i < σ.length
      · rw [if_pos h, if_pos ⟨List.mem_cons_of_mem _ h.1, h.2⟩]
      · rw [if_neg h, if_neg (fun z => h ⟨(List.mem_cons.mp z.1).resolve_left (fun q => e q.symm), z.2⟩)]
theorem wipe_only {js vs : List Nat} {σ σ2 : L2.St} (h : OnlyAt js (L2.wipe σ vs) σ2) (hs : ∀ j ∈ js, j ∈ vs) : L2.wipe σ2 vs = L2.wipe σ vs := by
  have hl : σ2.length = σ.length := h.1.trans (wipe_length σ vs)
  apply List.ext_getElem?
  intro i
  rw [wipe_get, wipe_get, hl]
  by_cases q : i ∈ vs ∧ i < σ.length
  · rw [if_pos q, if_pos q]
  · rw [if_neg q, if_neg q]
    by_cases hj : i ∈ js
    · have hv := hs i hj
      have : ¬ i < σ.length := fun z => q ⟨hv, z⟩
      rw [List.getElem?_eq_none (by omega), List.getElem?_eq_none (by omega)]
    · rw [h.2 i hj, wipe_get, if_neg q]
def wpG (X : Cx) (tg : Expr) (v : V) (σ : L2.St) (H : Hp) (Q : L2.St → Hp → Prop) : Prop := ∀ (pins : List (Addr × Obj)) (s : Shared) (u : Value), Inv X pins σ H s → RelV v u →
  wpAny (model X.prog X.w) X.A (assign tg X.env u) (fun _ s' => ∃ σ' H', Inv X pins σ' H' s' ∧ Q σ' H') X.xe s
theorem pg_wp {X : Cx} {tg : Expr} : PG X tg (wpG X tg) := ⟨fun pins s σ H v u Q I r h => h pins s u I r⟩
theorem wp_pg {X : Cx} {tg : Expr} {t : TG} {v : V} {σ : L2.St} {H : Hp} {Q : L2.St → Hp → Prop} (h : PG X tg t) (q : t v σ H Q) : wpG X tg v σ H Q := fun pins s u I r => h.run pins s σ H v u Q I r q
/-- tg = a value of the tree t: the slots js are stored, ρ' behind it -/
structure TgT (X : Cx) (tg : Expr) (js : List Nat) (t : T) (ρ ρ' : TEnv) (L : Store) : Prop where
  go : ∀ (W : Wd) (H : Hp) (σ : L2.St) (v : V) (Q : L2.St → Hp → Prop), SR X.K W H L → EnvR X.K W H ρ σ → Rp X.K W H t v → (∀ σ', EnvR X.K W H ρ' σ' → OnlyAt js σ σ' → Q σ' H) → wpG X tg v σ H Q
instance {X : Cx} {tg : Expr} {js : List Nat} {t : T} {ρ ρ' : TEnv} {L : Store} : CoeFun (TgT X tg js t ρ ρ' L) (fun _ => ∀ (W : Wd) (H : Hp) (σ : L2.St) (v : V) (Q : L2.St → Hp → Prop), SR X.K W H L → EnvR X.K W H ρ σ → Rp X.K W H t v → (∀ σ', EnvR X.K W H ρ' σ' → OnlyAt js σ σ' → Q σ' H) → wpG X tg v σ H Q) := ⟨TgT.go⟩
def TgsT (X : Cx) (tgs : List Expr) (js : List Nat) (ts : List T) (ρ ρ' : TEnv) (L : Store) : Prop :=
  ∃ g : TGs, PGs X tgs g ∧ ∀ (W : Wd) (H : Hp) (σ : L2.St) (vs : List V) (Q : L2.St → Hp → Prop), SR X.K W H L → EnvR X.K W H ρ σ → RpL X.K W H ts vs → (∀ σ', EnvR X.K W H ρ' σ' → OnlyAt js σ σ' → Q σ' H) → g vs σ H Q
def locOk (N : List Str) (sc : Scope) (fs : Str → Bool) (i : Nat) (x : Str) : Bool := decide (N[i]? = some x) && (match sc.names.lookup x with | some .local => true | some .cell => fs x | _ => false)
theorem locOk_of {N : List Str} {sc : Scope} {fs : Str → Bool} {i : Nat} {x : Str} (h : locOk N sc fs i x = true) : N[i]? = some x ∧ (sc.names.lookup x = some .local ∨ (sc.names.lookup x = some .cell ∧ fs x = true)) := by
  unfold locOk at h
  simp only [Bool.and_eq_true, decide_eq_true_eq] at h
  obtain ⟨h1, h2⟩ := h
  refine ⟨h1, ?_⟩
  split at h2
  · exact .inl (by assumption)
  · exact .inr ⟨by assumption, h2⟩
  · cases h2
section
variable {cm : Bool} {CX : CXT} {P : Program} {w : World} {K : PySem.W.Frag} {mg : Str → Option Value} {base : Heap} {k : Nat} {N : List Str} {sc : Scope} {fs : Str → Bool} {X : Cx}
variable {e a b c tg iter : Expr} {es : List Expr} {ρ ρ' ρ1 : TEnv} {L L1 Lb Lc : Store} {t u : T} {ts us : List T} {pos p : Pos} {i j : Int}
theorem Cq.loc (ct : Cq cm CX P w K mg base k N sc fs X) {n : Nat} {x : Str} (h : locOk N sc fs n x = true) : X.N.Nodup ∧ X.N[n]? = some x ∧ Loc X.env.scope x ∧ (X.fn x = true ∨ X.env.scope.names.lookup x = some .local) := by
  obtain ⟨h1, h2⟩ := locOk_of h
  refine ⟨by rw [ct.hN]; exact ct.nd, by rw [ct.hN]; exact h1, by rw [ct.hsc]; exact h2.imp id And.left, ?_⟩
  rw [ct.hsc, ct.fn]
  rcases h2 with h2 | h2
  · exact .inr h2
  · exact .inl h2.2
theorem tg_name (ct : Cq cm CX P w K mg base k N sc fs X) (n : Nat) {x : Str} (h : locOk N sc fs n x = true) : TgT X (.Name x pos) [n] t ρ (ρ.set n (some t)) L := by
  refine ⟨fun W H σ v Q s en r q => ?_⟩
  obtain ⟨h1, h2, h3, h4⟩ := ct.loc h
  exact wp_pg (pg_name h1 h2 h3 h4) (q _ (en.set r) .set)
theorem tgs_nil : TgsT X [] [] [] ρ ρ L := ⟨_, pgs_nil, fun W H σ vs Q s en r q => by cases r; exact ⟨rfl, q σ en .refl⟩⟩
theorem tgs_cons {tgs : List Expr} {js ks : List Nat} (h1 : TgT X tg js t ρ ρ1 L) (h2 : TgsT X tgs ks ts ρ1 ρ' L) (hs : (assignEach (tg :: tgs) X.env).map (·.2) = assign tg X.env :: (assignEach tgs X.env).map (·.2) := by rfl) : TgsT X (tg :: tgs) (js ++ ks) (t :: ts) ρ ρ' L := by
  obtain ⟨g, p, q⟩ := h2
  refine ⟨_, pgs_cons pg_wp p hs, fun W H σ vs Q s en r k => ?_⟩
  cases r with
  | cons r rs =>
    refine ⟨_, _, rfl, h1 W H σ _ _ s en r fun σ1 en1 o1 => ?_⟩
    exact q W H σ1 _ Q s en1 rs fun σ2 en2 o2 => k σ2 en2 (o1.app o2)
theorem tg_tup {tgs : List Expr} {js : List Nat} {k0 : Nat} (ct : Cq true CX P w K mg base k N sc fs X) (h : TgsT X tgs js ts ρ ρ' L) (hl : ts.length = tgs.length) (hn : (assignEach tgs X.env).length = tgs.length := by rfl) (hst : (assignEach tgs X.env).findIdx? (·.1) = none := by rfl) : TgT X (.Tuple tgs k0 pos) js (.tup ts) ρ ρ' L := by
  obtain ⟨g, p, q⟩ := h
  refine ⟨fun W H σ v Q s en r k => ?_⟩
  refine wp_pg (pg_tup (ct.calm rfl) p hn hst) ?_
  cases r with
  | tup f hh rr => exact ⟨_, _, rfl, .inl (.inl hh), by rw [← rr.length, hl], q W H σ _ Q s en rr k⟩

/-! comprehensions -/
def wpC (X : Cx) (ifs : List Expr) (σ : L2.St) (H : Hp) (Q : Bool → Hp → Prop) : Prop := ∀ (pins : List (Addr × Obj)) (s : Shared), Inv X pins σ H s → wpAny (model X.prog X.w) X.A (forIn ifs true fun c r => if r = true then do let ok ← isTrue c X.env (eval c X.env); pure (ForInStep.yield ok) else pure (ForInStep.yield r)) (TP X pins σ Q) X.xe s
theorem pts_wp {X : Cx} {ifs : List Expr} : PTs X ifs (wpC X ifs) := ⟨fun pins s _ _ _ I h => h pins s I⟩
theorem wp_pts {X : Cx} {ifs : List Expr} {t : TT} {σ : L2.St} {H : Hp} {Q : Bool → Hp → Prop} (h : PTs X ifs t) (q : t σ H Q) : wpC X ifs σ H Q := fun pins s I => h.run pins s σ H Q I q
structure EvC (X : Cx) (ifs : List Expr) (ρ : TEnv) (L : Store) (z : Bool) (L' : Store) : Prop where
  go : ∀ (W : Wd) (H : Hp) (σ : L2.St) (Q : Bool → Hp → Prop), SR X.K W H L → EnvR X.K W H ρ σ → (∀ W' H', Step W L H W' L' H' → SR X.K W' H' L' → Q z H') → wpC X ifs σ H Q
instance {X : Cx} {ifs : List Expr} {ρ : TEnv} {L : Store} {z : Bool} {L' : Store} : CoeFun (EvC X ifs ρ L z L') (fun _ => ∀ (W : Wd) (H : Hp) (σ : L2.St) (Q : Bool → Hp → Prop), SR X.K W H L → EnvR X.K W H ρ σ → (∀ W' H', Step W L H W' L' H' → SR X.K W' H' L' → Q z H') → wpC X ifs σ H Q) := ⟨EvC.go⟩
theorem Cq.blk (ct : Cq cm CX P w K mg base k N sc fs X) {scope : Scope} (hk : scope.kind = .function) (s : Shared) (H : Hp) (C : Addr) (cl : List (Str × Addr)) (fp : List Addr) :
    Cq cm CX P w K mg base k N (relS scope sc) (fun x => scope.names.lookup x == some .cell) (X.blk s H scope (compEnvC scope cl C X.env) fp) where
  hP := ct.hP
  hw := ct.hw
  hK := ct.hK
  hmg := ct.hmg
  hb := ct.hb
  hN := ct.hN
  hsc := by
    show relS scope X.env.scope = _
    rw [ct.hsc]
  calm := ct.calm
  room := ct.room
  roomH := ct.roomH
  gd := ct.gd
  nd := ct.nd
  kind := hk
  fn := rfl
  cx := ct.cx
theorem ec_nil : EvC X [] ρ L true L := ⟨fun W H σ Q s en q => wp_pts pts_nil (q W H .refl s)⟩
theorem ec_one {z : Bool} (h : EvB X c ρ L z L1) : EvC X [c] ρ L z L1 := ⟨fun W H σ Q s en q => wp_pts (pts_one pt_wp) (h W H σ Q s en q)⟩
theorem step_upd {W W1 : Wd} {H H1 : Hp} {D : Addr} {o : HO} (st : Step W L H W1 L1 H1) (hD : H D = none) : Step W L H W1 L1 (upd H1 D o) :=
  ⟨st.F, st.F', st.ad, st.new, st.live, fun a u e lk h => by rw [upd_ne (ne_of_none e hD)]; exact st.keep a u e lk h, fun a u e lk h => by rw [upd_ne (ne_of_none e hD)]; exact st.kd a u e lk h, fun a h => by
    by_cases e : a = D
    · subst e; rw [upd_same]; exact fun z => nomatch z
    · rw [upd_ne e]; exact st.dom a h⟩
/-- an object that is nobody's is written -/
theorem SR.loose {W : Wd} {H : Hp} {D : Addr} {o : HO} (s : SR K W H L) (hf : ¬ W.F D) (hc : ∀ n : Nat, Live L n → W.ad n ≠ some D) : SR K W (upd H D o) L where
  fin := s.fin
  at_ := s.at_
  fh := fun a f => by
    by_cases e : a = D
    · subst e; rw [upd_same]; exact fun z => nomatch z
    · rw [upd_ne e]; exact s.fh a f
  nf := s.nf
  inj := s.inj
  cel := fun n t a h e => (s.cel n t a h e).mono (fun _ h => h) (fun _ _ h => h) (.all fun x u f q => by rw [upd_ne (fun z => by subst z; exact hf f)]; exact q) (upd_ne fun z => by
    subst z
    exact hc n ⟨t, h⟩ e)
theorem RpL.loose {W : Wd} {H : Hp} {D : Addr} {o : HO} {xs : List V} (hf : ¬ W.F D) (r : RpL K W H ts xs) : RpL K W (upd H D o) ts xs :=
  RpL.mono (fun _ h => h) (fun _ _ h => h) (.all fun x u f q => by rw [upd_ne (fun z => by subst z; exact hf f)]; exact q) ts xs r
/-- for all blocks of a comprehension -/
abbrev AllB (X : Cx) (scope : Scope) (p : Cx → Prop) : Prop := ∀ (s : Shared) (H : Hp) (C : Addr) (cl : List (Str × Addr)) (fp : List Addr), p (X.blk s H scope (compEnvC scope cl C X.env) fp)
def gB (X : Cx) (scope : Scope) (tg : Expr) : TG := fun v σ H Q => AllB X scope fun Y => wpG Y tg v σ H Q
def cB (X : Cx) (scope : Scope) (ifs : List Expr) : TT := fun σ H Q => AllB X scope fun Y => wpC Y ifs σ H Q
def eB (X : Cx) (scope : Scope) (elt : Expr) : TE := fun σ H Q => AllB X scope fun Y => wpE Y elt σ H Q
theorem pg_B {scope : Scope} (s : Shared) (H : Hp) (C : Addr) (cl : List (Str × Addr)) (fp : List Addr) : PG (X.blk s H scope (compEnvC scope cl C X.env) fp) tg (gB X scope tg) := ⟨fun pins s' σ H' v u Q I r h => h s H C cl fp pins s' u I r⟩
theorem pc_B {scope : Scope} {ifs : List Expr} (s : Shared) (H : Hp) (C : Addr) (cl : List (Str × Addr)) (fp : List Addr) : PTs (X.blk s H scope (compEnvC scope cl C X.env) fp) ifs (cB X scope ifs) := ⟨fun pins s' σ H' Q I h => h s H C cl fp pins s' I⟩
theorem pe_B {scope : Scope} (s : Shared) (H : Hp) (C : Addr) (cl : List (Str × Addr)) (fp : List Addr) : PE (X.blk s H scope (compEnvC scope cl C X.env) fp) e (eB X scope e) := ⟨fun pins s' σ H' Q I h => h s H C cl fp pins s' I⟩
/-- the items made by the first i turns -/
def made (pf : Nat → Bool) (gf : Nat → T) (i : Nat) : List T := ((List.range i).filter pf).map gf
theorem made_yes {pf : Nat → Bool} {gf : Nat → T} {i : Nat} (h : pf i = true) : made pf gf (i + 1) = made pf gf i ++ [gf i] := by
  unfold made; rw [List.range_succ, List.filter_append, List.map_append]; simp [h]
theorem made_no {pf : Nat → Bool} {gf : Nat → T} {i : Nat} (h : pf i = false) : made pf gf (i + 1) = made pf gf i := by
  unfold made; rw [List.range_succ, List.filter_append, List.map_append]; simp [h]
theorem made_len {pf : Nat → Bool} {gf : Nat → T} (i : Nat) : (made pf gf i).length ≤ i := by
  unfold made; rw [List.length_map]; have := List.length_filter_le pf (List.range i); rwa [List.length_range] at this
/-- a comprehension's turns, by number: Lf the store ahead of a turn, ρf the names in it, pf its test, gf its item -/
structure LcT (X : Cx) (tg elt : Expr) (ifs : List Expr) (scope : Scope) (vs : List Nat) (ρ : TEnv) (xs : List T) (Lf : Nat → Store) (pf : Nat → Bool) (gf : Nat → T) : Prop where
  sz : xs.length ≤ 100000
  turn : ∀ (i : Nat) (x : T), xs[i]? = some x → ∃ (js : List Nat) (ρ1 : TEnv) (Lm : Store), (∀ j ∈ js, j ∈ vs) ∧ AllB X scope (fun Y => TgT Y tg js x (wipeT ρ vs) ρ1 (Lf i)) ∧ AllB X scope (fun Y => EvC Y ifs ρ1 (Lf i) (pf i) Lm) ∧
    (pf i = true → AllB X scope fun Y => Ev Y elt ρ1 Lm (.v (gf i)) (Lf (i + 1))) ∧ (pf i = false → Lf (i + 1) = Lm)
theorem lcR {scope : Scope} {elt : Expr} {ifs : List Expr} {vs : List Nat} {xs : List T} {Lf : Nat → Store} {pf : Nat → Bool} {gf : Nat → T} (h : LcT X tg elt ifs scope vs ρ xs Lf pf gf)
    {W : Wd} {H : Hp} {σ : L2.St} {J : It} {Q : V → Hp → Prop} (s : SR X.K W H (Lf 0)) (en : EnvR X.K W H ρ σ) (hJ : WalkT X.K W (Lf 0) H J xs)
    (q : ∀ y W' H', Step W (Lf 0) H W' (Lf xs.length) H' → SR X.K W' H' (Lf xs.length) → RR X.K W' (Lf xs.length) H H' (.n (.lst (made pf gf xs.length))) y → Q y H') :
    ∀ D, H D = none → ∃ Wi : Nat → Nat → Hp → Prop, (∃ m, Wi 0 m (upd H D (.lst []))) ∧ ∀ i m H, Wi i m H →
      (J.stop i H ∧ Q (.ref D) H) ∨ (J.go i H ∧ ∃ Nx : Hp → Prop, (∀ H', Nx H' → ∃ m', m' < m ∧ Wi (i + 1) m' H') ∧ ∀ x H', J.yld i H x H' → gB X scope tg x (L2.wipe σ vs) H' fun σ2 H2 => L2.wipe σ2 vs = L2.wipe σ vs ∧ cB X scope ifs σ2 H2 fun b H3 =>
        if b = true then eB X scope elt σ2 H3 fun y H4 => ∃ acc, H4 D = some (.lst acc) ∧ acc.length < sizeLine ∧ Nx (upd H4 D (.lst (acc ++ [y]))) else Nx H3) := by
  intro D hD
  -- the turn's word
  let G : Nat → Hp → Prop := fun i H1 => ∃ W1, Step W (Lf 0) H W1 (Lf i) H1 ∧ SR X.K W1 H1 (Lf i) ∧ ¬ W1.F D ∧ (∀ n : Nat, W1.ad n ≠ some D ∨ ¬ Live (Lf i) n) ∧ ∃ acc, H1 D = some (.lst acc) ∧ RpL X.K W1 H1 (made pf gf i) acc
  have more : ∀ {W1 W2 : Wd} {La Lb : Store} {H1 H2 : Hp}, Step W1 La H1 W2 Lb H2 → SR X.K W1 H1 La → SR X.K W2 H2 Lb → ¬ W1.F D → (∀ n : Nat, W1.ad n ≠ some D ∨ ¬ Live La n) → H1 D ≠ none → ¬ W2.F D ∧ (∀ n : Nat, W2.ad n ≠ some D ∨ ¬ Live Lb n) := by
    intro W1 W2 La Lb H1 H2 st s1 s2 hf hc hd
    constructor
    · intro f
      rcases st.F' D f with f | f | ⟨n, l, e⟩
      · exact hf f
      · exact hd f
      · rcases hc n with z | z
        · exact z e
        · exact z l
    · intro n
      by_cases l : Live Lb n
      · left
        intro e
        cases q0 : W1.ad n with
        | none => exact hd (st.new n D q0 e)
        | some a =>
          have e1 := st.ad n a q0
          rw [e] at e1; cases e1
          rcases hc n with z | z
          · exact z q0
          · exact z (st.live n (by rw [q0]; exact fun z => nomatch z) l)
      · exact .inr l
  refine ⟨fun i m H1 => m = xs.length - i ∧ i ≤ xs.length ∧ G i H1, ⟨xs.length, by simp, Nat.zero_le _, W, step_upd .refl hD, s.new hD, fun f => s.fh D f hD, fun n => ?_, [], upd_same, .nil⟩, ?_⟩
  · by_cases l : Live (Lf 0) n
    · exact .inl fun e => s.adh n D l e hD
    · exact .inr l
  rintro i m H1 ⟨rfl, hi, W1, st1, s1, f1, c1, acc, eD, racc⟩
  by_cases hlt : i < xs.length
  · have hx : xs[i]? = some xs[i] := List.getElem?_eq_getElem hlt
    obtain ⟨go, yld⟩ := hJ.turn i _ hx W1 (Lf i) H1 st1 s1
    refine .inr ⟨go, G (i + 1), fun H' g => ⟨xs.length - (i + 1), by omega, rfl, hlt, g⟩, fun x H2 hy => ?_⟩
    obtain ⟨W2, st2, s2, r2⟩ := yld x H2 hy
    have dn1 : H1 D ≠ none := by rw [eD]; exact fun z => nomatch z
    obtain ⟨f2, c2⟩ := more st2 s1 s2 f1 c1 dn1
    have kD : ∀ {Wa Wb : Wd} {La Lb : Store} {Ha Hb : Hp} {o : HO}, Step Wa La Ha Wb Lb Hb → (∀ n : Nat, Wa.ad n ≠ some D ∨ ¬ Live La n) → Ha D = some o → LkO o = false → Hb D = some o := fun st c e lk => st.keep D _ e lk fun n l => (c n).resolve_right (fun z => z l)
    have eD2 := kD st2 c1 eD rfl
    have st12 := st1.trans st2
    obtain ⟨js, ρ1, Lm, hjs, ht, hc, he, hno⟩ := h.turn i _ hx
    have en2 : EnvR X.K W2 H2 (wipeT ρ vs) (L2.wipe σ vs) := (en.step st12 s).wipe vs
    intro s' H' C cl fp
    refine ht s' H' C cl fp W2 H2 _ x _ s2 en2 r2 fun σ2 en3 only => ⟨wipe_only only hjs, ?_⟩
    intro s' H' C cl fp
    refine hc s' H' C cl fp W2 H2 σ2 _ s2 en3 fun W3 H3 st3 s3 => ?_
    have dn2 : H2 D ≠ none := by rw [eD2]; exact fun z => nomatch z
    obtain ⟨f3, c3⟩ := more st3 s2 s3 f2 c2 dn2
    have eD3 := kD st3 c2 eD2 rfl
    have racc3 : RpL X.K W3 H3 (made pf gf i) acc := (racc.step st2 s1).step st3 s2
    have st13 := st12.trans st3
    cases hp : pf i with
    | true =>
      rw [if_pos rfl]
      intro s' H' C cl fp
      refine he hp s' H' C cl fp W3 H3 σ2 _ s3 (en3.step st3 s2) fun y W4 H4 st4 s4 r4 => ?_
      have dn3 : H3 D ≠ none := by rw [eD3]; exact fun z => nomatch z
      obtain ⟨f4, c4⟩ := more st4 s3 s4 f3 c3 dn3
      have eD4 := kD st4 c3 eD3 rfl
      have racc4 := racc3.step st4 s3
      have hlen : acc.length < sizeLine := by
        rw [← racc4.length]
        have h1 := made_len (pf := pf) (gf := gf) i
        have h2 := h.sz
        have h3 : (100000 : Nat) ≤ sizeLine := by decide
        omega
      refine ⟨acc, eD4, hlen, W4, step_upd (st13.trans st4) hD, s4.loose f4 (fun n l => (c4 n).resolve_right (fun z => z l)), f4, c4, acc ++ [y], upd_same, ?_⟩
      rw [made_yes hp]
      exact (racc4.append (.cons r4 .nil)).loose f4
    | false =>
      rw [if_neg Bool.false_ne_true]
      show G (i + 1) H3
      have e := hno hp
      refine ⟨W3, ?_, ?_, f3, ?_, acc, eD3, ?_⟩
      · rw [e]; exact st13
      · rw [e]; exact s3
      · rw [e]; exact c3
      · rw [made_no hp]; exact racc3
  · have e : i = xs.length := by omega
    subst e
    refine .inl ⟨hJ.stop W1 (Lf _) H1 st1 s1, q _ W1 H1 st1 s1 ⟨D, rfl, hD, f1, fun n l => (c1 n).resolve_right (fun z => z l), acc, eD, racc⟩⟩
/-- [elt for tg in iter if ..] -/
theorem ev_lc {scope : Scope} {elt : Expr} {ifs : List Expr} {own : List (Str × Nat)} {xs : List T} {Lf : Nat → Store} {pf : Nat → Bool} {gf : Nat → T} (ct : Cq true CX P w K mg base k N sc fs X) (ok : blkC N sc scope own = true) (hi : EvI X tg iter ρ L xs (Lf 0))
    (h : LcT X tg elt ifs scope (own.map (·.2)) ρ xs Lf pf gf) (hs : ∀ x, foldedSetIterable iter X.env x = pure x := by intro _; rfl) : Ev X (.ListComp elt [⟨tg, iter, ifs, 0⟩] scope pos) ρ L (.n (.lst (made pf gf xs.length))) (Lf xs.length) := by
  refine ⟨fun W H σ Q s en q => ?_⟩
  refine wp_pe (pe_lc (ct.calm rfl) (by rw [ct.hN]; exact ct.nd) pi_wp (by rw [ct.hN, ct.hsc]; exact blkOk_by ok) pg_B pc_B pe_B hs) ?_
  refine hi W H σ _ s en fun J W1 H1 st1 s1 hJ => ?_
  exact lcR h s1 (en.step st1 s) hJ fun y W2 H2 st2 s2 r2 => q y W2 H2 (st1.trans st2) s2 (r2.back st1.dom)
end
end TL


/-! The tree layer, part E: statements, defs. -/
namespace TL
open PySem PySem.Spec PyProof.Rows L2

/-- what is wanted behind statements -/
structure TK where
  nx : TEnv → Store → Prop
  rt : R → Store → Prop := fun _ _ => False
  bk : TEnv → Store → Prop := fun _ _ => False
  ct : TEnv → Store → Prop := fun _ _ => False
structure DOk (K : PySem.W.Frag) (W : Wd) (H : Hp) (L : Store) (k : TK) (D : Ends) : Prop where
  nx : ∀ ρ' L' W' H' σ', Step W L H W' L' H' → SR K W' H' L' → EnvR K W' H' ρ' σ' → k.nx ρ' L' → D.nx σ' H'
  rt : ∀ r L' W' H' x, Step W L H W' L' H' → SR K W' H' L' → RR K W' L' H H' r x → k.rt r L' → D.rt x H'
  bk : ∀ ρ' L' W' H' σ', Step W L H W' L' H' → SR K W' H' L' → EnvR K W' H' ρ' σ' → k.bk ρ' L' → D.bk σ' H'
  ct : ∀ ρ' L' W' H' σ', Step W L H W' L' H' → SR K W' H' L' → EnvR K W' H' ρ' σ' → k.ct ρ' L' → D.ct σ' H'
theorem DOk.step {K : PySem.W.Frag} {W W1 : Wd} {H H1 : Hp} {L L1 : Store} {k : TK} {D : Ends} (d : DOk K W H L k D) (st : Step W L H W1 L1 H1) : DOk K W1 H1 L1 k D where
  nx := fun ρ' L' W' H' σ' a => d.nx ρ' L' W' H' σ' (st.trans a)
  rt := fun r L' W' H' x a s r' => d.rt r L' W' H' x (st.trans a) s (r'.back st.dom)
  bk := fun ρ' L' W' H' σ' a => d.bk ρ' L' W' H' σ' (st.trans a)
  ct := fun ρ' L' W' H' σ' a => d.ct ρ' L' W' H' σ' (st.trans a)
theorem DOk.imp {K : PySem.W.Frag} {W : Wd} {H : Hp} {L : Store} {k k' : TK} {D : Ends} (d : DOk K W H L k D) (h1 : ∀ ρ L, k'.nx ρ L → k.nx ρ L) (h2 : ∀ r L, k'.rt r L → k.rt r L) (h3 : ∀ ρ L, k'.bk ρ L → k.bk ρ L) (h4 : ∀ ρ L, k'.ct ρ L → k.ct ρ L) : DOk K W H L k' D where
  nx := fun ρ' L' W' H' σ' a b c q => d.nx ρ' L' W' H' σ' a b c (h1 _ _ q)
  rt := fun r L' W' H' x a s r' q => d.rt r L' W' H' x a s r' (h2 _ _ q)
  bk := fun ρ' L' W' H' σ' a b c q => d.bk ρ' L' W' H' σ' a b c (h3 _ _ q)
  ct := fun ρ' L' W' H' σ' a b c q => d.ct ρ' L' W' H' σ' a b c (h4 _ _ q)

def wpSs (X : Cx) (ss : List Stmt) (σ : L2.St) (H : Hp) (D : Ends) : Prop := ∀ (pins : List (Addr × Obj)) (s : Shared), Inv X pins σ H s → wpAny (model X.prog X.w) X.A (execs ss X.env) (SP X pins D) X.xe s
def wpS (X : Cx) (st : Stmt) (σ : L2.St) (H : Hp) (D : Ends) : Prop := ∀ (pins : List (Addr × Obj)) (s : Shared), Inv X pins σ H s → wpAny (model X.prog X.w) X.A (exec st X.env) (SP X pins D) X.xe s
theorem pss_wp {X : Cx} {ss : List Stmt} : PSs X ss (fun D σ H => wpSs X ss σ H D) := ⟨fun pins s _ _ _ I h => h pins s I⟩
theorem ps_wp {X : Cx} {st : Stmt} : PS X st (fun D σ H => wpS X st σ H D) := ⟨fun pins s _ _ _ I h => h pins s I⟩
theorem wp_pss {X : Cx} {ss : List Stmt} {t : TS} {σ : L2.St} {H : Hp} {D : Ends} (h : PSs X ss t) (q : t D σ H) : wpSs X ss σ H D := fun pins s I => h.run pins s σ H D I q
theorem wp_ps {X : Cx} {st : Stmt} {t : TS} {σ : L2.St} {H : Hp} {D : Ends} (h : PS X st t) (q : t D σ H) : wpS X st σ H D := fun pins s I => h.run pins s σ H D I q
/-- a block; a statement -/
structure WS (X : Cx) (ss : List Stmt) (ρ : TEnv) (L : Store) (k : TK) : Prop where
  go : ∀ (W : Wd) (H : Hp) (σ : L2.St) (D : Ends), SR X.K W H L → EnvR X.K W H ρ σ → DOk X.K W H L k D → wpSs X ss σ H D
instance {X : Cx} {ss : List Stmt} {ρ : TEnv} {L : Store} {k : TK} : CoeFun (WS X ss ρ L k) (fun _ => ∀ (W : Wd) (H : Hp) (σ : L2.St) (D : Ends), SR X.K W H L → EnvR X.K W H ρ σ → DOk X.K W H L k D → wpSs X ss σ H D) := ⟨WS.go⟩
structure W1 (X : Cx) (st : Stmt) (ρ : TEnv) (L : Store) (k : TK) : Prop where
  go : ∀ (W : Wd) (H : Hp) (σ : L2.St) (D : Ends), SR X.K W H L → EnvR X.K W H ρ σ → DOk X.K W H L k D → wpS X st σ H D
instance {X : Cx} {st : Stmt} {ρ : TEnv} {L : Store} {k : TK} : CoeFun (W1 X st ρ L k) (fun _ => ∀ (W : Wd) (H : Hp) (σ : L2.St) (D : Ends), SR X.K W H L → EnvR X.K W H ρ σ → DOk X.K W H L k D → wpS X st σ H D) := ⟨W1.go⟩

section
variable {cm : Bool} {CX : CXT} {P : Program} {w : World} {K : PySem.W.Frag} {mg : Str → Option Value} {base : Heap} {kk : Nat} {N : List Str} {sc : Scope} {fs : Str → Bool} {X : Cx}
variable {e a b c tg iter : Expr} {es : List Expr} {ρ ρ' ρ1 : TEnv} {L L1 Lb Lc : Store} {t u : T} {ts us : List T} {pos p : Pos} {i j : Int} {st : Stmt} {ss rest : List Stmt} {k k' : TK}

theorem Wd.fresh {W : Wd} {H : Hp} (s : SR K W H L) : ∃ n, W.ad n = none ∧ L n = none := by
  obtain ⟨b, hb⟩ := s.fin
  refine ⟨b, hb b (Nat.le_refl _), ?_⟩
  cases e : L b with
  | none => rfl
  | some t => exact absurd (hb b (Nat.le_refl _)) (s.at_ b ⟨t, e⟩)
/-- a new thing becomes the cell n -/
theorem adopt {W W' : Wd} {H H' : Hp} {x : V} {n : Nat} (s' : SR K W' H' L1) (st : Step W L H W' L1 H') (r : RR K W' L1 H H' (.n t) x) (hn : W'.ad n = none) : ∃ Wn : Wd, Step W L H Wn (updS L1 n (some t)) H' ∧ SR K Wn H' (updS L1 n (some t)) ∧ Rp K Wn H' (.cel n) x ∧ (∀ (u : T) (y : V), Rp K W' H' u y → Rp K Wn H' u y) := by
  obtain ⟨a, rfl, h0, hf, hc, cr⟩ := r
  exact ⟨W'.cell n a, st.cell hn h0, s'.cell hn cr hf hc, .cel cell_same, fun u y h => h.cell hn⟩

theorem ws_nil (h : k.nx ρ L) : WS X [] ρ L k := ⟨fun W H σ D s en d => wp_pss pss_nil (d.nx ρ L W H σ .refl s en h)⟩
theorem ws_imp (h : WS X ss ρ L k) (h1 : ∀ ρ L, k.nx ρ L → k'.nx ρ L) (h2 : ∀ r L, k.rt r L → k'.rt r L) (h3 : ∀ ρ L, k.bk ρ L → k'.bk ρ L) (h4 : ∀ ρ L, k.ct ρ L → k'.ct ρ L) : WS X ss ρ L k' := ⟨fun W H σ D s en d => h W H σ D s en (d.imp h1 h2 h3 h4)⟩
/-- st, then the rest -/
def TK.seq (X : Cx) (rest : List Stmt) (k : TK) : TK := { k with nx := fun ρ' L' => WS X rest ρ' L' k }
theorem ws_cons (h : W1 X st ρ L (k.seq X rest)) : WS X (st :: rest) ρ L k := by
  refine ⟨fun W H σ D s en d => ?_⟩
  refine wp_pss (pss_cons ps_wp pss_wp) ?_
  exact h W H σ { D with nx := fun σ' H' => wpSs X rest σ' H' D } s en ⟨fun ρ' L' W' H' σ' st s' en' q => WS.go q W' H' σ' D s' en' (d.step st), d.rt, d.bk, d.ct⟩
/-- name = e -/
theorem w1_set (ct : Cq cm CX P w K mg base kk N sc fs X) (n : Nat) {x : Str} {p' : Pos} (hx : locOk N sc fs n x = true) (he : Ev X e ρ L (.v t) L1) (h : k.nx (ρ.set n (some t)) L1) (hs : swapsWith e (some (.Name x p')) pos.line X.env = pure false := by rfl) : W1 X (.Assign [.Name x p'] e pos) ρ L k := by
  refine ⟨fun W H σ D s en d => ?_⟩
  obtain ⟨h1, h2, h3, h4⟩ := ct.loc hx
  refine wp_ps (ps_set h1 h2 h3 pe_wp hs h4) ?_
  exact he W H σ _ s en fun y W2 H2 st2 s2 r2 => d.nx _ _ W2 H2 _ st2 s2 ((en.step st2 s).set r2) h
theorem ws_set (ct : Cq cm CX P w K mg base kk N sc fs X) (n : Nat) {x : Str} {p' : Pos} (hx : locOk N sc fs n x = true) (he : Ev X e ρ L (.v t) L1) (h : WS X rest (ρ.set n (some t)) L1 k) (hs : swapsWith e (some (.Name x p')) pos.line X.env = pure false := by rfl) : WS X (.Assign [.Name x p'] e pos :: rest) ρ L k :=
  ws_cons (w1_set ct n hx he h hs)
/-- name = e, what e makes becomes a cell -/
theorem ws_setC (ct : Cq cm CX P w K mg base kk N sc fs X) (n : Nat) {x : Str} {p' : Pos} (hx : locOk N sc fs n x = true) (he : Ev X e ρ L (.n t) L1) (h : ∀ m, L1 m = none → WS X rest (ρ.set n (some (.cel m))) (updS L1 m (some t)) k) (hs : swapsWith e (some (.Name x p')) pos.line X.env = pure false := by rfl) : WS X (.Assign [.Name x p'] e pos :: rest) ρ L k := by
  refine ws_cons ?_
  refine ⟨fun W H σ D s en d => ?_⟩
  obtain ⟨h1, h2, h3, h4⟩ := ct.loc hx
  refine wp_ps (ps_set h1 h2 h3 pe_wp hs h4) ?_
  refine he W H σ _ s en fun y W2 H2 st2 s2 r2 => ?_
  obtain ⟨m, hm, hl⟩ := Wd.fresh s2
  obtain ⟨Wn, stn, sn, rn, _⟩ := adopt s2 st2 r2 hm
  exact d.nx _ _ Wn H2 _ stn sn ((en.step stn s).set rn) (h m hl)
/-- name = [..] on one line -/
theorem ws_setLc {scope : Scope} {elt : Expr} {ifs : List Expr} {own : List (Str × Nat)} {xs : List T} {Lf : Nat → Store} {pf : Nat → Bool} {gf : Nat → T} {p1 : Pos} (ct : Cq true CX P w K mg base kk N sc fs X) (n : Nat) {x : Str} {p' : Pos} (hx : locOk N sc fs n x = true) (hxl : sc.names.lookup x = some .local)
    (ok : blkC N sc scope own = true) (hi : EvI X tg iter ρ L xs (Lf 0)) (hc : LcT X tg elt ifs scope (own.map (·.2)) ρ xs Lf pf gf) (h : WS X rest (ρ.set n (some (.lst (made pf gf xs.length)))) (Lf xs.length) k)
    (hsw : (p'.line == p1.line) = true := by rfl) (ha : (scope.names.any fun (n, k) => n == x && (k == .local || k == .cell)) = false := by rfl) (hs : ∀ x, foldedSetIterable iter X.env x = pure x := by intro _; rfl) : WS X (.Assign [.Name x p'] (.ListComp elt [⟨tg, iter, ifs, 0⟩] scope p1) pos :: rest) ρ L k := by
  refine ws_cons ?_
  refine ⟨fun W H σ D s en d => ?_⟩
  obtain ⟨h1, h2, h3, h4⟩ := ct.loc hx
  refine wp_ps (ps_setLc (ct.calm rfl) h1 h2 (by rw [ct.hsc]; exact hxl) (sw_true (by rw [ct.hsc]; exact ct.kind) (by rw [ct.hsc]; exact hxl) hsw ha) pi_wp (by rw [ct.hN, ct.hsc]; exact blkOk_by ok) pg_B pc_B pe_B hs) ?_
  refine hi W H σ _ s en fun J W1 H1 st1 s1 hJ => ?_
  refine lcR (Q := fun y H1 => gName n y σ H1 D.nx) hc s1 (en.step st1 s) hJ fun y W2 H2 st2 s2 r2 => ?_
  obtain ⟨a, rfl, hn, hf, hcc, cr⟩ := r2
  have st3 : Step W1 (Lf 0) H1 (W2.frz a) (Lf xs.length) H2 := st2.frz (.inl hn)
  exact d.nx _ _ (W2.frz a) H2 _ (st1.trans st3) (s2.frz cr.some hcc) ((en.step (st1.trans st3) s).set (CellR.rp (.inr rfl) cr.frz)) h
/-- .. the list becomes a cell -/
theorem ws_setLcC {scope : Scope} {elt : Expr} {ifs : List Expr} {own : List (Str × Nat)} {xs : List T} {Lf : Nat → Store} {pf : Nat → Bool} {gf : Nat → T} {p1 : Pos} (ct : Cq true CX P w K mg base kk N sc fs X) (n : Nat) {x : Str} {p' : Pos} (hx : locOk N sc fs n x = true) (hxl : sc.names.lookup x = some .local)
    (ok : blkC N sc scope own = true) (hi : EvI X tg iter ρ L xs (Lf 0)) (hc : LcT X tg elt ifs scope (own.map (·.2)) ρ xs Lf pf gf) (h : ∀ m, Lf xs.length m = none → WS X rest (ρ.set n (some (.cel m))) (updS (Lf xs.length) m (some (.lst (made pf gf xs.length)))) k)
    (hsw : (p'.line == p1.line) = true := by rfl) (ha : (scope.names.any fun (n, k) => n == x && (k == .local || k == .cell)) = false := by rfl) (hs : ∀ x, foldedSetIterable iter X.env x = pure x := by intro _; rfl) : WS X (.Assign [.Name x p'] (.ListComp elt [⟨tg, iter, ifs, 0⟩] scope p1) pos :: rest) ρ L k := by
  refine ws_cons ?_
  refine ⟨fun W H σ D s en d => ?_⟩
  obtain ⟨h1, h2, h3, h4⟩ := ct.loc hx
  refine wp_ps (ps_setLc (ct.calm rfl) h1 h2 (by rw [ct.hsc]; exact hxl) (sw_true (by rw [ct.hsc]; exact ct.kind) (by rw [ct.hsc]; exact hxl) hsw ha) pi_wp (by rw [ct.hN, ct.hsc]; exact blkOk_by ok) pg_B pc_B pe_B hs) ?_
  refine hi W H σ _ s en fun J W1 H1 st1 s1 hJ => ?_
  refine lcR (Q := fun y H1 => gName n y σ H1 D.nx) hc s1 (en.step st1 s) hJ fun y W2 H2 st2 s2 r2 => ?_
  obtain ⟨m, hm, hl⟩ := Wd.fresh s2
  obtain ⟨Wn, stn, sn, rn, _⟩ := adopt s2 st2 r2 hm
  exact d.nx _ _ Wn H2 _ (st1.trans stn) sn ((en.step (st1.trans stn) s).set rn) (h m hl)
/-- any target: tg = e -/
theorem ws_asg {js : List Nat} (he : Ev X e ρ L (.v t) L1) (hg : TgT X tg js t ρ ρ1 L1) (h : WS X rest ρ1 L1 k) (hs : swapsWithSole [tg] e pos.line X.env = pure false := by rfl) (hw : swappedStores [tg] e X.env = pure none := by rfl)
    (h1 : (assignEach [tg] X.env).map (·.2) = [assign tg X.env] := by rfl) : WS X (.Assign [tg] e pos :: rest) ρ L k := by
  refine ws_cons ?_
  refine ⟨fun W H σ D s en d => ?_⟩
  refine wp_ps (ps_asg pe_wp pg_wp hs hw h1) ?_
  exact he W H σ _ s en fun y W2 H2 st2 s2 r2 => hg W2 H2 σ y _ s2 (en.step st2 s) r2 fun σ' en' _ => d.nx _ _ W2 H2 _ st2 s2 en' h
/-- a, b = x, y -/
theorem ws_par (ct : Cq true CX P w K mg base kk N sc fs X) (n m : Nat) {x y : Str} {px py pt : Pos} {kt k2 pt2} (hx : locOk N sc fs n x = true) (hy : locOk N sc fs m y = true) (hxl : sc.names.lookup x = some .local) (hyl : sc.names.lookup y = some .local) (hij : n ≠ m)
    (ha : EvA X [a, b] ρ L [t, u] L1) (h : WS X rest ((ρ.set n (some t)).set m (some u)) L1 k) (hw : swappedStores [.Tuple [.Name x px, .Name y py] kt pt] (.Tuple [a, b] k2 pt2) X.env = pure (some [x, y]))
    (hs : swapsWithSole [.Tuple [.Name x px, .Name y py] kt pt] (.Tuple [a, b] k2 pt2) pos.line X.env = pure false := by rfl) : WS X (.Assign [.Tuple [.Name x px, .Name y py] kt pt] (.Tuple [a, b] k2 pt2) pos :: rest) ρ L k := by
  refine ws_cons ?_
  refine ⟨fun W H σ D s en d => ?_⟩
  obtain ⟨h1, h2, h3, h4⟩ := ct.loc hx
  obtain ⟨g1, g2, g3, g4⟩ := ct.loc hy
  refine wp_ps (ps_par (ct.calm rfl) h1 h2 g2 hij (by rw [ct.hsc]; exact hxl) (by rw [ct.hsc]; exact hyl) pa_wp hw hs) ?_
  refine ha W H σ _ s en fun xs W2 H2 st2 s2 r2 => ?_
  cases r2 with
  | cons r1 r2 =>
    cases r2 with
    | cons r2 r3 =>
      cases r3
      exact ⟨_, _, rfl, d.nx _ _ W2 H2 _ st2 s2 (((en.step st2 s).set r1).set r2) h⟩
theorem ws_expr {r : R} (he : Ev X e ρ L r L1) (h : WS X rest ρ L1 k) (hs : swapsWith e none pos.line X.env = pure false := by rfl) : WS X (.Expr e pos :: rest) ρ L k := by
  refine ws_cons ?_
  refine ⟨fun W H σ D s en d => ?_⟩
  refine wp_ps (ps_expr pe_wp hs) ?_
  exact he W H σ _ s en fun y W2 H2 st2 s2 r2 => d.nx _ _ W2 H2 _ st2 s2 (en.step st2 s) h
theorem ws_ret {r : R} (he : Ev X e ρ L r L1) (h : k.rt r L1) : WS X (.Return (some e) pos :: rest) ρ L k := by
  refine ws_cons ?_
  refine ⟨fun W H σ D s en d => ?_⟩
  refine wp_ps (ps_ret pe_wp) ?_
  exact he W H σ _ s en fun y W2 H2 st2 s2 r2 => d.rt _ _ W2 H2 y st2 s2 r2 h
theorem ws_retN (h : k.rt (.v N0) L) : WS X (.Return none pos :: rest) ρ L k := by
  refine ws_cons ?_
  refine ⟨fun W H σ D s en d => ?_⟩
  exact wp_ps ps_retN (d.rt _ _ W H _ .refl s (show RR X.K W L H H (.v N0) V.non from Rp.v _) h)
theorem ws_pass (h : WS X rest ρ L k) : WS X (.Pass pos :: rest) ρ L k := by
  refine ws_cons ?_
  refine ⟨fun W H σ D s en d => ?_⟩
  exact wp_ps ps_pass (d.nx _ _ W H _ .refl s en h)
theorem ws_break (h : k.bk ρ L) : WS X (.Break pos :: rest) ρ L k := by
  refine ws_cons ?_
  refine ⟨fun W H σ D s en d => ?_⟩
  exact wp_ps ps_break (d.bk _ _ W H _ .refl s en h)
theorem ws_cont (h : k.ct ρ L) : WS X (.Continue pos :: rest) ρ L k := by
  refine ws_cons ?_
  refine ⟨fun W H σ D s en d => ?_⟩
  exact wp_ps ps_continue (d.ct _ _ W H _ .refl s en h)
/-- if, both ways; the rest behind each -/
theorem ws_if {z : Bool} {yes no : List Stmt} (hc : EvB X c ρ L z L1) (h1 : z = true → WS X yes ρ L1 (k.seq X rest)) (h2 : z = false → WS X no ρ L1 (k.seq X rest)) : WS X (.If c yes no pos :: rest) ρ L k := by
  refine ws_cons ?_
  refine ⟨fun W H σ D s en d => ?_⟩
  refine wp_ps (ps_if pt_wp pss_wp pss_wp) ?_
  refine hc W H σ _ s en fun W2 H2 st2 s2 => ?_
  cases z with
  | true => exact h1 rfl W2 H2 σ D s2 (en.step st2 s) (d.step st2)
  | false => exact h2 rfl W2 H2 σ D s2 (en.step st2 s) (d.step st2)
theorem ws_ifT {yes no : List Stmt} (hc : EvB X c ρ L true L1) (h : WS X yes ρ L1 (k.seq X rest)) : WS X (.If c yes no pos :: rest) ρ L k := ws_if hc (fun _ => h) (fun z => nomatch z)
theorem ws_ifF {yes : List Stmt} (hc : EvB X c ρ L false L1) (h : WS X rest ρ L1 k) : WS X (.If c yes [] pos :: rest) ρ L k := ws_if hc (fun z => nomatch z) (fun _ => ws_nil h)
/-- name op= e -/
theorem ws_augI (ct : Cq cm CX P w K mg base kk N sc fs X) (n : Nat) {x : Str} {p' : Pos} (hx : locOk N sc fs n x = true) (hρ : ρ[n]? = some (some (I i))) (he : Ev X e ρ L (.v (I j)) L1) (h : WS X rest (ρ.set n (some (I (i + j)))) L1 k) : WS X (.AugAssign (.Name x p') .Add e pos :: rest) ρ L k := by
  refine ws_cons ?_
  refine ⟨fun W H σ D s en d => ?_⟩
  obtain ⟨h1, h2, h3, h4⟩ := ct.loc hx
  obtain ⟨y, e1, e2⟩ := en.2 n _ hρ
  cases e2
  refine wp_ps (ps_aug h1 h2 h3 pe_wp ip_add h4) ⟨_, e1, ?_⟩
  refine he W H σ _ s en fun y W2 H2 st2 s2 r2 => ?_
  cases r2
  exact ⟨i, j, rfl, rfl, d.nx _ _ W2 H2 _ st2 s2 ((en.step st2 s).set (.v _)) h⟩
/-- l.append(e), l a cell -/
theorem ev_append {o : Expr} {apos : Pos} {m : Nat} (ho : Ev X o ρ L (.v (.cel m)) L) (ha : Ev X e ρ L (.v t) L1) (hl : L1 m = some (.lst ts)) (hl0 : L m = some (.lst us)) (hz : ts.length ≤ 100000) (pm : ∀ {ta : TE} {tA : TA}, PE X o ta → PA X [e] tA → PE X (.Call (.Attribute o "append" apos) [e] [] pos) (tBM X.K "list" rAppend ta tA))
    (hs : starEach [e] X.env = (false, eval e X.env) :: starEach [] X.env := by rfl) : Ev X (.Call (.Attribute o "append" apos) [e] [] pos) ρ L (.v N0) (updS L1 m (some (.lst (ts ++ [t])))) := by
  refine ⟨fun W H σ Q s en q => ?_⟩
  refine wp_pe (pm pe_wp (pa_cons pe_wp pa_nil hs)) ?_
  refine ho W H σ _ s en fun x W1 H1 st1 s1 r1 => ?_
  cases r1 with
  | cel hc =>
    obtain ⟨vs0, e0, _⟩ := s1.cel m _ _ hl0 hc
    refine ⟨.inl ⟨rfl, _, .inl (.inl e0)⟩, ?_⟩
    refine ha W1 H1 σ _ s1 (en.step st1 s) fun y W2 H2 st2 s2 r2 => ?_
    have hc2 := st2.ad m _ hc
    obtain ⟨vs, e1, r3⟩ := s2.cel m _ _ hl hc2
    refine ⟨_, vs, y, rfl, rfl, e1, ?_, ?_⟩
    · have : (100000 : Nat) < sizeLine := by decide
      rw [← r3.length]; omega
    · have st3 := Step.write (t' := .lst (ts ++ [t])) (o := .lst (vs ++ [y])) (H := H2) hl hc2
      refine q _ W2 _ ((st1.trans st2).trans st3) (s2.write hl hc2 ⟨_, upd_same, ?_⟩) (.v _)
      exact (r3.append (.cons r2 .nil)).write s2 hl hc2
/-- x[i] = e, x a cell -/
theorem ws_setix {o ix : Expr} {m jx : Nat} {p' : Pos} (he : Ev X e ρ L (.v t) L1) (ho : Ev X o ρ L1 (.v (.cel m)) L1) (hi : Ev X ix ρ L1 (.v (I i)) Lb) (hl : Lb m = some (.lst ts)) (hix : ixN ts.length i = some jx) (h : WS X rest ρ (updS Lb m (some (.lst (ts.set jx t)))) k)
    (ha : ∀ v, assign (.Subscript o ix p') X.env v = (do
      let ov ← holding [v] (eval o X.env)
      let iv ← holding [v, ov] (eval ix X.env)
      standAt p'
      holding [v, ov, iv] (setItem ov iv v)
      release [v, ov, iv] []) := by intro _; rfl)
    (hs : swapsWithSole [.Subscript o ix p'] e pos.line X.env = pure false := by rfl) (hw : swappedStores [.Subscript o ix p'] e X.env = pure none := by rfl)
    (h1 : (assignEach [.Subscript o ix p'] X.env).map (·.2) = [assign (.Subscript o ix p') X.env] := by rfl) : WS X (.Assign [.Subscript o ix p'] e pos :: rest) ρ L k := by
  refine ws_cons ?_
  refine ⟨fun W H σ D s en d => ?_⟩
  refine wp_ps (ps_asg pe_wp (pg_sub pe_wp pe_wp set_list ha) hs hw h1) ?_
  refine he W H σ _ s en fun y W1 H1 st1 s1 r1 => ?_
  refine ho W1 H1 σ _ s1 (en.step st1 s) fun z W2 H2 st2 s2 r2 => ?_
  have st12 := st1.trans st2
  refine hi W2 H2 σ _ s2 (en.step st12 s) fun v W3 H3 st3 s3 r3 => ?_
  cases r3
  cases r2 with
  | cel hc =>
    have hc3 := st3.ad m _ hc
    obtain ⟨vs, e1, r4⟩ := s3.cel m _ _ hl hc3
    have ry := (Rp.step r1 st2 s1).step st3 s2
    refine ⟨_, vs, i, jx, rfl, rfl, e1, by rw [← r4.length]; exact hix, ?_⟩
    have st4 := Step.write (t' := .lst (ts.set jx t)) (o := .lst (vs.set jx y)) (H := H3) hl hc3
    have s4 : SR X.K W3 (upd H3 _ (.lst (vs.set jx y))) (updS Lb m (some (.lst (ts.set jx t)))) := s3.write hl hc3 ⟨_, upd_same, ((r4.set jx ry).write s3 hl hc3)⟩
    exact d.nx _ _ W3 _ _ ((st12.trans st3).trans st4) s4 (en.step ((st12.trans st3).trans st4) s) h
/-- o.f = e, o a cell that is an instance -/
theorem ws_fld {o : Expr} {f : Str} {p' : Pos} {m : Nat} {C : Addr} {ns ns' : List Str} (cl : Cls X.K C) (hn : NoAttr X.K C f) (he : Ev X e ρ L (.v t) L1) (ho : Ev X o ρ L1 (.v (.cel m)) L1) (hl : L1 m = some (.ins C ns ts)) (hz : ns.length < 100)
    (hlen : ns.length = ts.length) (hput : ∀ vs : List V, vs.length = ns.length → ∀ y : V, ∃ vs' : List V, putF f y (ns.zip vs) = ns'.zip vs' ∧ vs'.length = ns'.length ∧ ∀ W H, RpL X.K W H ts vs → Rp X.K W H t y → RpL X.K W H us vs') (h : WS X rest ρ (updS L1 m (some (.ins C ns' us))) k)
    (hs : swapsWith e (some (.Attribute o f p')) pos.line X.env = pure false := by rfl) : WS X (.Assign [.Attribute o f p'] e pos :: rest) ρ L k := by
  refine ws_cons ?_
  refine ⟨fun W H σ D s en d => ?_⟩
  refine wp_ps (ps_fld pe_wp pe_wp hs) ?_
  refine he W H σ _ s en fun y W1 H1 st1 s1 r1 => ?_
  refine ho W1 H1 σ _ s1 (en.step st1 s) fun z W2 H2 st2 s2 r2 => ?_
  cases r2 with
  | cel hc =>
    obtain ⟨dx, vs, e1, l1, r4⟩ := s2.cel m _ _ hl hc
    have ry := Rp.step r1 st2 s1
    obtain ⟨vs', e2, l2, hr⟩ := hput vs l1.symm y
    have lz : (ns.zip vs).length < 1000 := by rw [List.length_zip]; omega
    refine ⟨_, C, dx, _, rfl, e1, cl, hn, lz, ?_⟩
    rw [e2]
    have st4 := Step.write (t' := .ins C ns' us) (o := .ins C dx (ns'.zip vs')) (H := H2) hl hc
    have s4 : SR X.K W2 (upd H2 _ (.ins C dx (ns'.zip vs'))) (updS L1 m (some (.ins C ns' us))) := s2.write hl hc ⟨dx, vs', upd_same, l2.symm, (hr W2 H2 r4 ry).write s2 hl hc⟩
    exact d.nx _ _ W2 _ _ ((st1.trans st2).trans st4) s4 (en.step ((st1.trans st2).trans st4) s) h
/-- for: the word is asked by the turn's number; a turn's items are ts -/
theorem ws_for {body : List Stmt} (ct : Cq true CX P w K mg base kk N sc fs X) (hp : PassesOwn (model X.prog X.w) X.A X.env X.xe) (hi : EvI X tg iter ρ L ts L1) (Wd : Nat → TEnv → Store → Prop) (h0 : Wd 0 ρ L1)
    (ht : ∀ n x ρ' L', ts[n]? = some x → Wd n ρ' L' → ∃ (js : List Nat) (ρ1 : TEnv), TgT X tg js x ρ' ρ1 L' ∧ WS X body ρ1 L' { nx := Wd (n + 1), rt := k.rt, bk := fun ρ' L' => WS X rest ρ' L' k, ct := Wd (n + 1) })
    (hd : ∀ ρ' L', Wd ts.length ρ' L' → WS X rest ρ' L' k) (hs : ∀ x, foldedSetIterable iter X.env x = pure x := by intro _; rfl) : WS X (.For tg iter body [] pos :: rest) ρ L k := by
  refine ws_cons ?_
  refine ⟨fun W H σ D s en d => ?_⟩
  refine wp_ps (ps_for hp (ct.calm rfl) pi_wp pg_wp pss_wp hs) ?_
  refine hi W H σ _ s en fun J W1 H1 st1 s1 hJ => ?_
  refine ⟨fun n m σ' H' => m = ts.length - n ∧ n ≤ ts.length ∧ ∃ ρ' L' W', Step W1 L1 H1 W' L' H' ∧ SR X.K W' H' L' ∧ EnvR X.K W' H' ρ' σ' ∧ Wd n ρ' L', ⟨ts.length, by simp, Nat.zero_le _, ρ, L1, W1, .refl, s1, en.step st1 s, h0⟩, ?_⟩
  rintro n m σ' H' ⟨rfl, hn, ρ', L', W', st2, s2, en2, hw⟩
  by_cases hlt : n < ts.length
  · have hx : ts[n]? = some ts[n] := List.getElem?_eq_getElem hlt
    obtain ⟨go, yld⟩ := hJ.turn n _ hx W' L' H' st2 s2
    refine .inr ⟨go, fun σ3 H3 => ∃ ρ3 L3 W3, Step W1 L1 H1 W3 L3 H3 ∧ SR X.K W3 H3 L3 ∧ EnvR X.K W3 H3 ρ3 σ3 ∧ Wd (n + 1) ρ3 L3, fun σ3 H3 q => ⟨ts.length - (n + 1), by omega, rfl, hlt, q⟩, fun x H2 hy => ?_⟩
    obtain ⟨W2, st3, s3, r3⟩ := yld x H2 hy
    obtain ⟨js, ρ1, htg, hb⟩ := ht n _ ρ' L' hx hw
    have st13 := st2.trans st3
    refine htg W2 H2 σ' x _ s3 (en2.step st3 s2) r3 fun σ4 en4 _ => ?_
    refine hb W2 H2 σ4 _ s3 en4 ⟨fun ρ5 L5 W5 H5 σ5 a b c q => ⟨ρ5, L5, W5, st13.trans a, b, c, q⟩, fun r L5 W5 H5 x a b c q => d.rt r L5 W5 H5 x ((st1.trans st13).trans a) b (c.back (st1.trans st13).dom) q,
      fun ρ5 L5 W5 H5 σ5 a b c q => d.nx ρ5 L5 W5 H5 σ5 ((st1.trans st13).trans a) b c q, fun ρ5 L5 W5 H5 σ5 a b c q => ⟨ρ5, L5, W5, st13.trans a, b, c, q⟩⟩
  · have e : n = ts.length := by omega
    subst e
    exact .inl ⟨hJ.stop W' L' H' st2 s2, d.nx ρ' L' W' H' σ' (st1.trans st2) s2 en2 (hd ρ' L' hw)⟩
/-- while: a word and a measure -/
theorem ws_while {body : List Stmt} (hp : PassesOwn (model X.prog X.w) X.A X.env X.xe) (Wd : Nat → TEnv → Store → Prop) (m0 : Nat) (h0 : Wd m0 ρ L)
    (ht : ∀ m ρ' L', Wd m ρ' L' → ∃ z L2, EvB X c ρ' L' z L2 ∧ (z = true → WS X body ρ' L2 { nx := fun ρ3 L3 => ∃ m', m' < m ∧ Wd m' ρ3 L3, rt := k.rt, bk := fun ρ' L' => WS X rest ρ' L' k, ct := fun ρ3 L3 => ∃ m', m' < m ∧ Wd m' ρ3 L3 }) ∧ (z = false → WS X rest ρ' L2 k)) : WS X (.While c body [] pos :: rest) ρ L k := by
  refine ws_cons ?_
  refine ⟨fun W H σ D s en d => ?_⟩
  refine wp_ps (ps_while hp pt_wp pss_wp) ?_
  refine ⟨fun m σ' H' => ∃ ρ' L' W', Step W L H W' L' H' ∧ SR X.K W' H' L' ∧ EnvR X.K W' H' ρ' σ' ∧ Wd m ρ' L', ⟨m0, ρ, L, W, .refl, s, en, h0⟩, ?_⟩
  rintro m σ' H' ⟨ρ', L', W', st2, s2, en2, hw⟩
  obtain ⟨z, L2, hc, hT, hF⟩ := ht m ρ' L' hw
  refine hc W' H' σ' _ s2 en2 fun W3 H3 st3 s3 => ?_
  have st13 := st2.trans st3
  cases z with
  | true =>
    rw [if_pos rfl]
    refine ⟨fun σ4 H4 => ∃ m', m' < m ∧ ∃ ρ4 L4 W4, Step W L H W4 L4 H4 ∧ SR X.K W4 H4 L4 ∧ EnvR X.K W4 H4 ρ4 σ4 ∧ Wd m' ρ4 L4, fun σ4 H4 ⟨m', h1, q⟩ => ⟨m', h1, q⟩, ?_⟩
    exact hT rfl W3 H3 σ' _ s3 (en2.step st3 s2) ⟨fun ρ5 L5 W5 H5 σ5 a b c ⟨m', h1, q⟩ => ⟨m', h1, ρ5, L5, W5, st13.trans a, b, c, q⟩, fun r L5 W5 H5 x a b c q => d.rt r L5 W5 H5 x (st13.trans a) b (c.back st13.dom) q,
      fun ρ5 L5 W5 H5 σ5 a b c q => d.nx ρ5 L5 W5 H5 σ5 (st13.trans a) b c q, fun ρ5 L5 W5 H5 σ5 a b c ⟨m', h1, q⟩ => ⟨m', h1, ρ5, L5, W5, st13.trans a, b, c, q⟩⟩
  | false =>
    rw [if_neg Bool.false_ne_true]
    exact d.nx _ _ W3 H3 σ' st13 s3 (en2.step st3 s2) (hF rfl)
/-- a cell is frozen: the names of js hold it as data from now on -/
theorem ws_freeze {n m : Nat} (hl : L m = some t) (hρ : ρ[n]? = some (some (.cel m))) (h : WS X ss (ρ.set n (some t)) (updS L m none) k) : WS X ss ρ L k := by
  refine ⟨fun W H σ D s en d => ?_⟩
  obtain ⟨x, e1, e2⟩ := en.2 n _ hρ
  cases e2 with
  | cel hc =>
    rename_i a
    have st := Step.kill (H := H) hl hc
    have en1 := en.step st s
    have cr := s.cel m t a hl hc
    refine h (W.frz a) H σ D (s.kill hl hc) ?_ (d.step st)
    have := en1.set (i := n) (CellR.rp (.inr rfl) (cr.frz (a := a)))
    have es : σ.set n (some (V.ref a)) = σ := by
      apply List.ext_getElem?
      intro i
      by_cases hi : n = i
      · subst hi; rw [List.getElem?_set_self (List.getElem?_eq_some_iff.mp e1).1, e1]
      · rw [List.getElem?_set_ne hi]
    rw [es] at this
    exact this
/-- a cell is let go -/
theorem ws_drop {m : Nat} (h : WS X ss ρ (updS L m none) k) : WS X ss ρ L k := ⟨fun W H σ D s en d =>
  h W H σ D (s.less less_kill) en (d.step (Step.refl.less less_kill))⟩

/-! defs -/
/-- behind a def: what it hands back, the store its caller sees -/
def Exit (L0 : Store) (r1 : R) (L1 : Store) (r0 : R) (L0' : Store) : Prop :=
  (∀ n t, L0' n = some t → L1 n = some t ∧ Live L0 n) ∧ (r1 = r0 ∨ ∃ n t, r1 = .v (.cel n) ∧ r0 = .n t ∧ L0 n = none ∧ L1 n = some t)
theorem exit_same {r : R} : Exit L r L r L := ⟨fun n t h => ⟨h, t, h⟩, .inl rfl⟩
theorem exit_pure {r : R} (h : ∀ n t, L n = some t → L1 n = some t) : Exit L r L1 r L := ⟨fun n t e => ⟨h n t e, t, e⟩, .inl rfl⟩
theorem exit_cell {n : Nat} (h : ∀ n t, L n = some t → L1 n = some t) (h0 : L n = none) (h1 : L1 n = some t) : Exit L (.v (.cel n)) L1 (.n t) L := ⟨fun n t e => ⟨h n t e, t, e⟩, .inr ⟨n, t, rfl, rfl, h0, h1⟩⟩
def startT (N : List Str) (ts : List T) : TEnv := ts.map some ++ List.replicate (N.length - ts.length) none
theorem startT_r {W : Wd} {H : Hp} {vs : List V} (r : RpL K W H ts vs) : EnvR K W H (startT N ts) (L2.start N vs) := by
  unfold startT L2.start
  refine ⟨by simp [r.length], fun i t h => ?_⟩
  by_cases hi : i < ts.length
  · rw [List.getElem?_append_left (by simpa using hi), List.getElem?_map] at h
    cases q : ts[i]? with
    | none => rw [q] at h; cases h
    | some u =>
      rw [q] at h
      have hu : u = t := by simpa using h
      subst hu
      obtain ⟨x, e1, e2⟩ := r.get q
      refine ⟨x, ?_, e2⟩
      rw [List.getElem?_append_left (by rw [List.length_map, ← r.length]; exact hi), List.getElem?_map, e1]
      rfl
  · rw [List.getElem?_append_right (by simpa using hi)] at h
    have := List.mem_of_getElem? h
    rw [List.mem_replicate] at this
    cases this.2
def fnK (L0 : Store) (r : R) (L' : Store) : TK := { nx := fun _ L1 => Exit L0 (.v N0) L1 r L', rt := fun r1 L1 => Exit L0 r1 L1 r L' }
/-- what leaves a body, for the caller -/
theorem exit_ok {W W1 : Wd} {H H1 : Hp} {r1 r : R} {L' : Store} {y : V} {Q : VK} (q : ∀ x W' H', Step W L H W' L' H' → SR K W' H' L' → RR K W' L' H H' r x → Q x H') (st1 : Step W L H W1 L1 H1) (s1 : SR K W1 H1 L1) (r2 : RR K W1 L1 H H1 r1 y) (ex : Exit L r1 L1 r L') : Q y H1 := by
  obtain ⟨h1, h2⟩ := ex
  have s2 : SR K W1 H1 L' := s1.less fun n t e => (h1 n t e).1
  have st2 : Step W L H W1 L' H1 := st1.less fun n t e => (h1 n t e).1
  refine q y W1 H1 st2 s2 ?_
  rcases h2 with rfl | ⟨n, t, rfl, rfl, h0, hn⟩
  · cases r1 with
    | v t => exact r2
    | n t =>
      obtain ⟨a, e, z1, z2, z3, z4⟩ := r2
      exact ⟨a, e, z1, z2, fun n ⟨u, l⟩ => z3 n ⟨u, (h1 n u l).1⟩, z4⟩
  · cases r2 with
    | cel hc =>
      rename_i a
      refine ⟨a, rfl, ?_, s1.nf n a ⟨t, hn⟩ hc, fun m ⟨u, l⟩ e => ?_, s1.cel n t a hn hc⟩
      · cases q0 : W.ad n with
        | none => exact st1.new n a q0 hc
        | some b =>
          obtain ⟨u, hu⟩ := st1.live n (by rw [q0]; exact fun z => nomatch z) ⟨t, hn⟩
          rw [h0] at hu; cases hu
      · have e2 := s1.inj m n a ⟨u, (h1 m u l).1⟩ ⟨t, hn⟩ e hc
        subst e2
        obtain ⟨v, hv⟩ := (h1 m u l).2
        rw [h0] at hv; cases hv
theorem fn_T {f : Addr} {name qual : Str} {params : Arguments} {body : List Stmt} {scope : Scope} {dV kV doc pm cdv cty oc : Value} {an od : Option Addr} {osl : Array (Option Value)} {ps : List Str} {Rl : Rel} {j : Nat}
    (lk : K.lookup f = some ⟨oc, od, .func (PySem.W.fnOf name qual params body scope dV kV doc pm an cdv cty), osl⟩) (hcd : PySem.W.codeIn K cdv qual = true) (S : FnScope N ps scope) (hcx : ∀ (st : List Env) (H : Hp) (s : Shared) (e : Value) (s' : Shared), CX st H s E0 e s' → False) (len : ∀ ts L r L', Rl ts L r L' → ts.length = ps.length)
    (hbody : ∀ (X : Cx), Ct CX P w K mg base j N scope (fun _ => true) X → PassesOwn (model X.prog X.w) X.A X.env X.xe → ∀ ts L r L', Rl ts L r L' → WS X body (startT N ts) L (fnK L r L')) :
    FnT P w K mg base CX (j + 1) f (PySem.W.fnOf name qual params body scope dV kV doc pm an cdv cty) ps Rl := by
  refine ⟨len, fun A outer s H args us vs Q hr hg e0 hb rv hsp => ?_⟩
  obtain ⟨ts, L, r, L', W, s0, rr, hR, q⟩ := hsp
  have hlen : vs.length = ps.length := rr.length.symm.trans (len ts L r L' hR)
  have kept : ∀ b o, base.get? b = some o → s.heap.get? b = some o := fun b o e => (e0.bs b o e).1
  have Kin : K.In s.heap := e0.mod.kin.keeps kept
  have nolim : s.heap.NoLimit := e0.mod.nolimit.keeps kept
  have kinds : ∀ y ∈ ps.zip us, scope.names.lookup y.1 = some .local ∨ (scope.names.lookup y.1 = some .cell ∧ ((cellsFrom (s.heap.objs.size + 1) scope.names []).lookup y.1).isSome = true) := by
    rintro ⟨n, v⟩ hy
    exact (S.par n (List.of_mem_zip hy).1).imp id fun z => ⟨z, PySem.W.cellsFrom_some _ _ _ (.inl z)⟩
  refine codeAny_call_function hr.depth (Kin _ _ lk) rfl S.co S.gen rfl (PySem.W.codeRec_of Kin hcd) (hb _ _ _ _ ?_)
  refine wpAny_newFunctionEnv_cells S.kind kinds fun env he s1 x => ?_
  subst he
  refine ⟨nolim.keeps x.toInCall.keep, codeAny_func ?_⟩
  have ct : Ct CX P w K mg base j N scope (fun _ => true) (cxOf CX P w K mg base N qual scope f cdv A outer s H E0).nox :=
    ⟨rfl, rfl, rfl, rfl, rfl, rfl, rfl, fun _ => rfl, fun _ => hr.deeper _, L2H.roomH_of (hr.deeper _), hg, S.nd, S.kind, rfl, hcx⟩
  have Iv : Inv (cxOf CX P w K mg base N qual scope f cdv A outer s H E0) [] (L2.start N vs) H s1 := inv_start S hr.hd e0 hlen rv x
  have run := hbody _ ct PassesOwn.never ts L r L' hR W H (L2.start N vs) { nx := fun _ H' => Q .non H', rt := Q } s0 (startT_r rr)
    ⟨fun ρ' L1 W1 H1 σ' st1 s1 en1 ex => exit_ok (r1 := .v N0) (y := V.non) q st1 s1 (Rp.v V.non) ex, fun r1 L1 W1 H1 y st1 s1 r2 ex => exit_ok q st1 s1 r2 ex, fun _ _ _ _ _ _ _ _ z => z.elim, fun _ _ _ _ _ _ _ _ z => z.elim⟩
  refine wpAny_mono (run [] s1 (Iv.wish _)) (fun fl s' hs => ?_) fun _ _ z => z.elim
  have back : ∀ {σ' : L2.St} {H' : Hp} {v : V} {u : Value}, Inv (cxOf CX P w K mg base N qual scope f cdv A outer s H E0).nox [] σ' H' s' → RelV v u → Q v H' → CE outer P w H s Q u s' := fun J rv q => ⟨_, _, J.os, J.bare, J.base, J.hok, rv, q⟩
  match fl, hs with
  | .ret u, ⟨v, σ', H', J, rv, q⟩ => exact back J rv q
  | .next, ⟨σ', H', J, q⟩ => exact back (v := V.non) (u := Value.none) J rfl q
  | .brk, ⟨_, _, _, q⟩ => exact q.elim
  | .cont, ⟨_, _, _, q⟩ => exact q.elim
theorem okT {x qual : Str} {st : Stmt} {f : Addr} {fd : FuncData} {ps : List Str} {j : Nat} {Rl : Rel} (F : Fun K x qual st f fd) (S : FnScope N ps (defScope st)) (hcx : ∀ (st : List Env) (H : Hp) (s : Shared) (e : Value) (s' : Shared), CX st H s E0 e s' → False) (len : ∀ ts L r L', Rl ts L r L' → ts.length = ps.length)
    (hbody : ∀ (X : Cx), Ct CX P w K mg base j N (defScope st) (fun _ => true) X → PassesOwn (model X.prog X.w) X.A X.env X.xe → ∀ ts L r L', Rl ts L r L' → WS X (defBody st) (startT N ts) L (fnK L r L')) : FnT P w K mg base CX (j + 1) f fd ps Rl := by
  obtain ⟨oc, od, kV, doc, pm, an, cdv, cty, osl, rfl, lk, hcd⟩ := F.ex
  exact fn_T lk hcd S hcx len hbody
theorem okTD {x qual : Str} {params : Arguments} {body : List Stmt} {scope : Scope} {dvs : List V} {kws : List (Str × V)} {f : Addr} {fd : FuncData} {ps : List Str} {j : Nat} {Rl : Rel} (F : FunD K x qual params body scope dvs kws f fd) (S : FnScope N ps scope) (hcx : ∀ (st : List Env) (H : Hp) (s : Shared) (e : Value) (s' : Shared), CX st H s E0 e s' → False) (len : ∀ ts L r L', Rl ts L r L' → ts.length = ps.length)
    (hbody : ∀ (X : Cx), Ct CX P w K mg base j N scope (fun _ => true) X → PassesOwn (model X.prog X.w) X.A X.env X.xe → ∀ ts L r L', Rl ts L r L' → WS X body (startT N ts) L (fnK L r L')) : FnT P w K mg base CX (j + 1) f fd ps Rl := by
  obtain ⟨oc, od, dV, kV, doc, pm, an, cdv, cty, osl, rfl, lk, hcd, _, _⟩ := F.ex
  exact fn_T lk hcd S hcx len hbody
theorem cx0 (st : List Env) (H : Hp) (s : Shared) (e : Value) (s' : Shared) (h : CX0 st H s E0 e s') : False := h
/-- a def that no exception leaves, for what lets exceptions out -/
theorem FnT.end_ {f : Addr} {fd : FuncData} {ps : List Str} {Rl : Rel} {j : Nat} (F : FnT P w K mg base CX j f fd ps Rl) {A : Around} {outer : List Env} {s : Shared} {H : Hp} {args : Args} {us : List Value} {vs : List V} {Q : VK} (hr : Room j A) (hg : A.guards = some []) (e0 : Env0 P w K mg base A outer s H) (hb : BindsTo s fd args (ps.zip us)) (rv : Vals vs us)
    (h : spT K Rl vs H Q E0) : codeAny (model P w) A (.call (.ref f) args) (CR CX outer P w H s Q E0) s := F.go A outer s H args us vs Q hr hg e0 hb rv h
end
end TL


/-! The tree layer, part F: built-ins. -/
namespace TL
open PySem PySem.Spec PyProof.Rows L2

/-- a built-in's answer z to the trees ts, the store as it was -/
def OpA (K : PySem.W.Frag) (r : List V → Hp → VK → Prop) (ts : List T) (L : Store) (z : R) : Prop :=
  ∀ (W : Wd) (H : Hp) (xs : List V) (Q : VK), SR K W H L → RpL K W H ts xs → (∀ v W' H', Step W L H W' L H' → SR K W' H' L → RR K W' L H H' z v → Q v H') → r xs H Q
section
variable {cm : Bool} {CX : CXT} {P : Program} {w : World} {K : PySem.W.Frag} {mg : Str → Option Value} {base : Heap} {k : Nat} {N : List Str} {sc : Scope} {fs : Str → Bool} {X : Cx}
variable {e a b c tg iter : Expr} {es : List Expr} {ρ ρ' ρ1 : TEnv} {L L1 Lb Lc : Store} {t u : T} {ts us : List T} {pos p : Pos} {i j : Int} {x : Str} {z : R}

theorem ev_cb {id : String} {r : List V → Hp → VK → Prop} (ct : Cq cm CX P w K mg base k N sc fs X) (hc : CallR X (.builtin id) r) (hv : bootBuiltins x = some (.builtin id)) (hm : mg x = none) (hg : glOk sc x = true) (ha : EvA X (e :: es) ρ L ts L1) (ho : OpA X.K r ts L1 z)
    (he : starEach (e :: es) X.env = (false, eval e X.env) :: starEach es X.env := by rfl) (hpl : (backTo pos (starEach es X.env)).any (·.1) = false := by rfl) : Ev X (.Call (.Name x p) (e :: es) [] pos) ρ L z L1 := by
  refine ⟨fun W H σ Q s en q => ?_⟩
  refine wp_pe (pe_callB hc (ct.gl hg) (by rw [ct.hmg]; exact hm) hv pa_wp (glOk_of hg).2.2 (glOk_of hg).2.1 he hpl) ?_
  refine ha W H σ _ s en fun xs W1 H1 st1 s1 r1 => ?_
  exact ho W1 H1 xs Q s1 r1 fun v W2 H2 st2 s2 r2 => q v W2 H2 (st1.trans st2) s2 (r2.back st1.dom)
theorem ev_cty {T0 : String} {r : List V → Hp → VK → Prop} (ct : Cq cm CX P w K mg base k N sc fs X) (hc : CallR X (.type T0) r) (hv : bootBuiltins x = some (.type T0)) (hm : mg x = none) (hg : glOk sc x = true) (ha : EvA X (e :: es) ρ L ts L1) (ho : OpA X.K r ts L1 z)
    (he : starEach (e :: es) X.env = (false, eval e X.env) :: starEach es X.env := by rfl) (hpl : (backTo pos (starEach es X.env)).any (·.1) = false := by rfl) : Ev X (.Call (.Name x p) (e :: es) [] pos) ρ L z L1 := by
  refine ⟨fun W H σ Q s en q => ?_⟩
  refine wp_pe (pe_callTy hc (ct.gl hg) (by rw [ct.hmg]; exact hm) hv pa_wp (glOk_of hg).2.2 (glOk_of hg).2.1 he hpl) ?_
  refine ha W H σ _ s en fun xs W1 H1 st1 s1 r1 => ?_
  exact ho W1 H1 xs Q s1 r1 fun v W2 H2 st2 s2 r2 => q v W2 H2 (st1.trans st2) s2 (r2.back st1.dom)
theorem rp1 {W : Wd} {H : Hp} {xs : List V} (r : RpL K W H [t] xs) : ∃ x, xs = [x] ∧ Rp K W H t x := by
  cases r with
  | cons r rs => cases rs; exact ⟨_, rfl, r⟩
theorem rp2 {W : Wd} {H : Hp} {xs : List V} (r : RpL K W H [t, u] xs) : ∃ x y, xs = [x, y] ∧ Rp K W H t x ∧ Rp K W H u y := by
  cases r with
  | cons r rs =>
    obtain ⟨y, rfl, r2⟩ := rp1 rs
    exact ⟨_, y, rfl, r, r2⟩
/-! len -/
theorem ev_len (ct : Cq cm CX P w K mg base k N sc fs X) (hm : mg "len" = none) (hg : glOk sc "len" = true) (ha : EvA X [e] ρ L [t] L1) (hl : LstT L1 t ts) (he : starEach [e] X.env = (false, eval e X.env) :: starEach [] X.env := by rfl) (hpl : (backTo pos (starEach [] X.env)).any (·.1) = false := by rfl) : Ev X (.Call (.Name "len" p) [e] [] pos) ρ L (.v (I ts.length)) L1 :=
  ev_cb ct call_len_seq PySem.boot_len hm hg ha (fun W H xs Q s r0 q => by
    obtain ⟨x, rfl, r⟩ := rp1 r0
    obtain ⟨l, vs, rfl, hq, rr⟩ := lst_sq s r hl
    exact ⟨l, vs, rfl, .inl hq, by rw [← rr.length]; exact q _ W H .refl s (Rp.v _)⟩) he hpl
theorem ev_lenT (ct : Cq cm CX P w K mg base k N sc fs X) (hm : mg "len" = none) (hg : glOk sc "len" = true) (ha : EvA X [e] ρ L [.tup ts] L1) (he : starEach [e] X.env = (false, eval e X.env) :: starEach [] X.env := by rfl) (hpl : (backTo pos (starEach [] X.env)).any (·.1) = false := by rfl) : Ev X (.Call (.Name "len" p) [e] [] pos) ρ L (.v (I ts.length)) L1 :=
  ev_cb ct call_len_seq PySem.boot_len hm hg ha (fun W H xs Q s r0 q => by
    obtain ⟨x, rfl, r⟩ := rp1 r0
    cases r with
    | tup f h rr => exact ⟨_, _, rfl, .inr (.inl (.inl h)), by rw [← rr.length]; exact q _ W H .refl s (Rp.v _)⟩) he hpl
/-! list(..), tuple(..), int(..) -/
theorem ev_listT (ct : Cq cm CX P w K mg base k N sc fs X) (hm : mg "list" = none) (hg : glOk sc "list" = true) (ha : EvA X [e] ρ L [.tup ts] L1) (he : starEach [e] X.env = (false, eval e X.env) :: starEach [] X.env := by rfl) (hpl : (backTo pos (starEach [] X.env)).any (·.1) = false := by rfl) : Ev X (.Call (.Name "list" p) [e] [] pos) ρ L (.n (.lst ts)) L1 :=
  ev_cty ct call_list_of PyProof.Rows.boot_list hm hg ha (fun W H xs Q s r0 q => by
    obtain ⟨x, rfl, r⟩ := rp1 r0
    cases r with
    | tup f h rr => exact ⟨_, _, rfl, .inr (.inl (.inl h)), fun l hl => q _ W _ (.newp hl) (s.new hl) (new_n (t := .lst ts) s hl ⟨_, upd_same, rr.newp hl⟩)⟩) he hpl
theorem ev_listL (ct : Cq cm CX P w K mg base k N sc fs X) (hm : mg "list" = none) (hg : glOk sc "list" = true) (ha : EvA X [e] ρ L [t] L1) (hl : LstT L1 t ts) (he : starEach [e] X.env = (false, eval e X.env) :: starEach [] X.env := by rfl) (hpl : (backTo pos (starEach [] X.env)).any (·.1) = false := by rfl) : Ev X (.Call (.Name "list" p) [e] [] pos) ρ L (.n (.lst ts)) L1 :=
  ev_cty ct call_list_of PyProof.Rows.boot_list hm hg ha (fun W H xs Q s r0 q => by
    obtain ⟨x, rfl, r⟩ := rp1 r0
    obtain ⟨l, vs, rfl, hq, rr⟩ := lst_sq s r hl
    exact ⟨_, _, rfl, .inl hq, fun l hl => q _ W _ (.newp hl) (s.new hl) (new_n (t := .lst ts) s hl ⟨_, upd_same, rr.newp hl⟩)⟩) he hpl
theorem ev_tupleL (ct : Cq cm CX P w K mg base k N sc fs X) (hm : mg "tuple" = none) (hg : glOk sc "tuple" = true) (ha : EvA X [e] ρ L [t] L1) (hl : LstT L1 t ts) (he : starEach [e] X.env = (false, eval e X.env) :: starEach [] X.env := by rfl) (hpl : (backTo pos (starEach [] X.env)).any (·.1) = false := by rfl) : Ev X (.Call (.Name "tuple" p) [e] [] pos) ρ L (.v (.tup ts)) L1 :=
  ev_cty ct call_tuple_of PyProof.Rows.boot_tuple hm hg ha (fun W H xs Q s r0 q => by
    obtain ⟨x, rfl, r⟩ := rp1 r0
    obtain ⟨l, vs, rfl, hq, rr⟩ := lst_sq s r hl
    exact ⟨_, _, rfl, .inl ⟨hq, fun l hl => by
      obtain ⟨f1, f2, f3⟩ := frz_tup s hl rr
      exact q _ _ _ f1 f2 f3⟩⟩) he hpl
theorem ev_intB {y : Bool} (ct : Cq cm CX P w K mg base k N sc fs X) (hm : mg "int" = none) (hg : glOk sc "int" = true) (ha : EvA X [e] ρ L [B y] L1) (he : starEach [e] X.env = (false, eval e X.env) :: starEach [] X.env := by rfl) (hpl : (backTo pos (starEach [] X.env)).any (·.1) = false := by rfl) : Ev X (.Call (.Name "int" p) [e] [] pos) ρ L (.v (I (if y then 1 else 0))) L1 :=
  ev_cty ct call_int1 PyProof.Rows.boot_int hm hg ha (fun W H xs Q s r0 q => by
    obtain ⟨x, rfl, r⟩ := rp1 r0
    cases r
    exact .inr ⟨y, rfl, q _ W H .refl s (Rp.v _)⟩) he hpl
/-! all, any -/
theorem ev_all {bs : List Bool} (ct : Cq true CX P w K mg base k N sc fs X) (hm : mg "all" = none) (hg : glOk sc "all" = true) (ha : EvA X [e] ρ L [t] L1) (hl : LstT L1 t (bs.map B)) (he : starEach [e] X.env = (false, eval e X.env) :: starEach [] X.env := by rfl) (hpl : (backTo pos (starEach [] X.env)).any (·.1) = false := by rfl) : Ev X (.Call (.Name "all" p) [e] [] pos) ρ L (.v (B (bs.all id))) L1 :=
  ev_cb ct (cr_all (ct.calm rfl)) PyProof.Rows.boot_all hm hg ha (fun W H xs Q s r0 q => by
    obtain ⟨x, rfl, r⟩ := rp1 r0
    obtain ⟨l, vs, rfl, hq, rr⟩ := lst_sq s r hl
    have e := RpL.atoms V.bl rr
    subst e
    exact ⟨l, bs, rfl, hq, q _ W H .refl s (Rp.v _)⟩) he hpl
theorem ev_any {bs : List Bool} (ct : Cq true CX P w K mg base k N sc fs X) (hm : mg "any" = none) (hg : glOk sc "any" = true) (ha : EvA X [e] ρ L [t] L1) (hl : LstT L1 t (bs.map B)) (he : starEach [e] X.env = (false, eval e X.env) :: starEach [] X.env := by rfl) (hpl : (backTo pos (starEach [] X.env)).any (·.1) = false := by rfl) : Ev X (.Call (.Name "any" p) [e] [] pos) ρ L (.v (B (bs.any id))) L1 :=
  ev_cb ct (cr_any (ct.calm rfl)) PyProof.Rows.boot_any hm hg ha (fun W H xs Q s r0 q => by
    obtain ⟨x, rfl, r⟩ := rp1 r0
    obtain ⟨l, vs, rfl, hq, rr⟩ := lst_sq s r hl
    have e := RpL.atoms V.bl rr
    subst e
    exact ⟨l, bs, rfl, hq, q _ W H .refl s (Rp.v _)⟩) he hpl
/-! sorted -/
/-- the one rising order of ints -/
def sortI (ns : List Int) : List Int := ns.mergeSort fun a b => decide (a ≤ b)
theorem sortI_perm (ns : List Int) : (sortI ns).Perm ns := List.mergeSort_perm ns _
theorem sortI_sorted (ns : List Int) : (sortI ns).Pairwise (· ≤ ·) := by
  have h := List.pairwise_mergeSort (le := fun a b : Int => decide (a ≤ b)) (fun a b c h1 h2 => by simp only [decide_eq_true_eq] at *; omega) (fun a b => by simp only [Bool.or_eq_true, decide_eq_true_eq]; omega) ns
  exact h.imp fun h => by simpa using h
theorem sortI_uniq {ns ms : List Int} (h1 : ms.Perm ns) (h2 : ms.Pairwise (· ≤ ·)) : ms = sortI ns :=
  List.Perm.eq_of_pairwise (le := fun a b : Int => a ≤ b) (fun a b _ _ h1 h2 => by omega) h2 (sortI_sorted ns) (h1.trans (sortI_perm ns).symm)
theorem ev_sortI {ns : List Int} (ct : Cq cm CX P w K mg base k N sc fs X) (hm : mg "sorted" = none) (hg : glOk sc "sorted" = true) (ha : EvA X [e] ρ L [t] L1) (hl : LstT L1 t (ns.map I)) (he : starEach [e] X.env = (false, eval e X.env) :: starEach [] X.env := by rfl) (hpl : (backTo pos (starEach [] X.env)).any (·.1) = false := by rfl) : Ev X (.Call (.Name "sorted" p) [e] [] pos) ρ L (.n (.lst ((sortI ns).map I))) L1 :=
  ev_cb ct cr_sortedI PyProof.Rows.boot_sorted hm hg ha (fun W H xs Q s r0 q => by
    obtain ⟨x, rfl, r⟩ := rp1 r0
    obtain ⟨l, vs, rfl, hq, rr⟩ := lst_sq s r hl
    have e := RpL.atoms V.int rr
    subst e
    refine ⟨l, ns, rfl, hq, fun ms p h1 h2 hp => ?_⟩
    have e := sortI_uniq h1 h2
    subst e
    exact q _ W _ (.newp hp) (s.new hp) (new_n (t := .lst _) s hp ⟨_, upd_same, RpL.of_atoms V.int _⟩)) he hpl
/-- pairs of ints -/
abbrev tPair (q : Int × Int) : T := .tup [I q.1, I q.2]
def leP (a b : Int × Int) : Bool := decide (a.1 < b.1) || (decide (a.1 = b.1) && decide (a.2 ≤ b.2))
def sortP (ps : List (Int × Int)) : List (Int × Int) := ps.mergeSort leP
theorem leP_trans (a b c : Int × Int) (h1 : leP a b = true) (h2 : leP b c = true) : leP a c = true := by
  simp only [leP, Bool.or_eq_true, Bool.and_eq_true, decide_eq_true_eq] at *; omega
theorem leP_total (a b : Int × Int) : (leP a b || leP b a) = true := by
  simp only [leP, Bool.or_eq_true, Bool.and_eq_true, decide_eq_true_eq]; omega
theorem leP_antisymm (a b : Int × Int) (h1 : leP a b = true) (h2 : leP b a = true) : a = b := by
  simp only [leP, Bool.or_eq_true, Bool.and_eq_true, decide_eq_true_eq] at *
  apply Prod.ext <;> omega
theorem sortP_perm (ps : List (Int × Int)) : (sortP ps).Perm ps := List.mergeSort_perm ps _
theorem sortP_sorted (ps : List (Int × Int)) : (sortP ps).Pairwise fun a b => leP a b = true := List.pairwise_mergeSort leP_trans leP_total ps
theorem sortP_uniq {ps qs : List (Int × Int)} (h1 : qs.Perm ps) (h2 : qs.Pairwise fun a b => leP a b = true) : qs = sortP ps :=
  List.Perm.eq_of_pairwise (le := fun a b => leP a b = true) (fun a b _ _ h1 h2 => leP_antisymm a b h1 h2) h2 (sortP_sorted ps) (h1.trans (sortP_perm ps).symm)
theorem pairs_k {W : Wd} {H : Hp} : ∀ {ps : List (Int × Int)} {vs : List V}, RpL K W H (ps.map tPair) vs → ∃ kf : V → Int × Int, (∀ x ∈ vs, ∃ t, x = V.ref t ∧ W.F t ∧ H t = some (.tup [.int (kf x).1, .int (kf x).2])) ∧ vs.map kf = ps := by
  intro ps vs r
  refine ⟨fun x => match x with | .ref a => (match H a with | some (.tup [.int i, .int j]) => (i, j) | _ => (0, 0)) | _ => (0, 0), ?_⟩
  induction ps generalizing vs with
  | nil => cases r; exact ⟨fun x h => by simp at h, rfl⟩
  | cons q ps ih =>
    cases r with
    | cons r rs =>
      obtain ⟨h1, h2⟩ := ih rs
      cases r with
      | tup f h r =>
        obtain ⟨x, y, rfl, r1, r2⟩ := rp2 r
        cases r1; cases r2
        refine ⟨fun x hx => ?_, ?_⟩
        · rcases List.mem_cons.mp hx with rfl | hx
          · exact ⟨_, rfl, f, by simp only [h]⟩
          · exact h1 x hx
        · rw [List.map_cons, h2]
          simp only [h]
theorem ev_sortP {ps : List (Int × Int)} (ct : Cq cm CX P w K mg base k N sc fs X) (hm : mg "sorted" = none) (hg : glOk sc "sorted" = true) (ha : EvA X [e] ρ L [t] L1) (hl : LstT L1 t (ps.map tPair)) (he : starEach [e] X.env = (false, eval e X.env) :: starEach [] X.env := by rfl) (hpl : (backTo pos (starEach [] X.env)).any (·.1) = false := by rfl) : Ev X (.Call (.Name "sorted" p) [e] [] pos) ρ L (.n (.lst ((sortP ps).map tPair))) L1 :=
  ev_cb ct cr_sortedPO PyProof.Rows.boot_sorted hm hg ha (fun W H xs Q s r0 q => by
    obtain ⟨x, rfl, r⟩ := rp1 r0
    obtain ⟨l, vs, rfl, hq, rr⟩ := lst_sq s r hl
    obtain ⟨kf, h1, h2⟩ := pairs_k rr
    refine ⟨l, vs, kf, rfl, hq, fun x hx => let ⟨t, e1, _, e2⟩ := h1 x hx; ⟨t, e1, e2⟩, fun ys p g1 g2 hp => ?_⟩
    have hsorted : (ys.map kf).Pairwise fun a b => leP a b = true := by
      rw [List.pairwise_map]
      refine g1.imp fun {x y} h => ?_
      have h' : SrtO.lexB (kf y) (kf x) = false := h
      have := SrtO.lexB_no.mp h'
      simp only [leP, Bool.or_eq_true, Bool.and_eq_true, decide_eq_true_eq]
      omega
    have hperm : (ys.map kf).Perm ps := by rw [← h2]; exact g2.perm.map kf
    have e := sortP_uniq hperm hsorted
    have hrp : ∀ l : List V, (∀ x ∈ l, ∃ t, x = V.ref t ∧ W.F t ∧ H t = some (.tup [.int (kf x).1, .int (kf x).2])) → RpL X.K W H ((l.map kf).map tPair) l := by
      intro l
      induction l with
      | nil => intro _; exact .nil
      | cons x l ih =>
        intro h
        obtain ⟨t, e1, f, e2⟩ := h x List.mem_cons_self
        refine .cons ?_ (ih fun y hy => h y (List.mem_cons_of_mem _ hy))
        rw [e1] at e2 ⊢
        exact .tup f e2 (.cons (.v _) (.cons (.v _) .nil))
    have r3 := hrp ys fun x hx => h1 x (g2.perm.mem_iff.mp hx)
    rw [e] at r3
    exact q _ W _ (.newp hp) (s.new hp) (new_n (t := .lst _) s hp ⟨_, upd_same, r3.newp hp⟩)) he hpl
/-! isinstance -/
def tyN : T → Option String
  | .v .non => some "NoneType"
  | .v (.bl _) => some "bool"
  | .v (.int _) => some "int"
  | .v (.str _) => some "str"
  | .lst _ => some "list"
  | .tup _ => some "tuple"
  | _ => none
theorem tyX_of {W : Wd} {H : Hp} {v : V} {n : String} (r : Rp K W H t v) (h : tyN t = some n) : TyX K H v (.type n) := by
  cases r with
  | v _ =>
    cases v <;> simp [tyN] at h <;> subst h
    · exact .base .non
    · exact .base (.bl _)
    · exact .base (.int _)
    · exact .base (.str _)
  | lst f e r => simp [tyN] at h; subst h; exact .base (.lst e)
  | tup f e r => simp [tyN] at h; subst h; exact .base (.tup e)
  | cel _ => simp [tyN] at h
  | scr _ _ => simp [tyN] at h
  | dK _ _ _ _ => simp [tyN] at h
  | dT _ _ _ _ => simp [tyN] at h
  | set _ _ => simp [tyN] at h
  | ins _ _ _ _ => simp [tyN] at h
  | exc _ _ _ _ => simp [tyN] at h
/-- is the thing of the built-in class n? -/
def isA (n : String) (t : T) : Bool := match tyN t with
  | some m => (kitB m n).getD false
  | none => false
theorem ev_isi {n : String} (ct : Cq cm CX P w K mg base k N sc fs X) (hm : mg "isinstance" = none) (hg : glOk sc "isinstance" = true) (ha : EvA X [a, b] ρ L [t, .v (.ty n)] L1) (h1 : (tyN t).isSome = true) (h2 : ∀ m, tyN t = some m → (kitB m n).isSome = true)
    (he : starEach [a, b] X.env = (false, eval a X.env) :: starEach [b] X.env := by rfl) (hpl : (backTo pos (starEach [b] X.env)).any (·.1) = false := by rfl) : Ev X (.Call (.Name "isinstance" p) [a, b] [] pos) ρ L (.v (B (isA n t))) L1 :=
  ev_cb ct call_isi PyProof.Rows.boot_isinstance hm hg ha (fun W H xs Q s r0 q => by
    obtain ⟨x, y, rfl, r1, r2⟩ := rp2 r0
    cases r2
    obtain ⟨m, hm⟩ := Option.isSome_iff_exists.mp h1
    obtain ⟨z, hz⟩ := Option.isSome_iff_exists.mp (h2 m hm)
    have e : isA n t = z := by unfold isA; rw [hm]; simp [hz]
    refine ⟨x, .ty n, .type m, .type n, z, rfl, .ty n, tyX_of r1 hm, kit_ty hz, ?_⟩
    rw [← e]
    exact q _ W H .refl s (Rp.v _)) he hpl
/-! repr -/
theorem ev_repr {d : PyData} (ct : Cq cm CX P w K mg base k N sc fs X) (hm : mg "repr" = none) (hg : glOk sc "repr" = true) (ha : EvA X [e] ρ L [t] L1) (hd : pd t = some d) (hs : d.showable = true) (hnd : d.hasDict = false) (hdep : d.depth ≤ 60) (hsz : d.shown.length ≤ sizeLine)
    (hr : isDisplay d = true)
    (he : starEach [e] X.env = (false, eval e X.env) :: starEach [] X.env := by rfl) (hpl : (backTo pos (starEach [] X.env)).any (·.1) = false := by rfl) : Ev X (.Call (.Name "repr" p) [e] [] pos) ρ L (.v (S d.shown)) L1 := by
  refine ev_cb (r := fun vs H Q => ∃ v, vs = [v] ∧ Dp X.K H v d ∧ Q (.str d.shown) H) ct ?_ PyProof.Rows.boot_repr hm hg ha ?_ he hpl
  · intro pins s σ H xs us Q I r h
    obtain ⟨v, rfl, hv, q⟩ := h
    obtain ⟨u, rfl, ru⟩ := vals1 r
    obtain ⟨as, rd⟩ := Dp.reads I d v u hv ru
    obtain ⟨ad, rfl⟩ := isRef_of_reads rd hr
    refine repr_of_reads' rd hs (fun z => by rw [hnd] at z; cases z) ct.gd (by have := ct.roomH.un; omega) (fun _ _ h => h) (fun h' u tk hk => ?_) hsz
    exact ⟨.str d.shown, H, (I.kept (t' := tk) hk), ⟨u, rfl⟩, q⟩
  · intro W H xs Q s r0 q
    obtain ⟨x, rfl, r⟩ := rp1 r0
    exact ⟨x, rfl, dp_of t x d r hd, q _ W H .refl s (Rp.v _)⟩
/-! the end of a row -/
/-- the law's promise, as a relation: of any script it gives True -/
def lawRel : Rel := fun ts L r L' => ∃ ns : List Int, ts = [.scr (ns.map I)] ∧ ns.length ≤ 63 ∧ r = .v (B true) ∧ L' = L
theorem law_T {mb : Str → Option Value} {fa l : Addr} {fd : FuncData} {y : Str} {j : Nat} {s1 : Shared} {us : List Value} {ns : List Int} (KX : K.In s1.heap) (hns : s1.heap.Ns mainGlobals mg) (hb : s1.heap.Ns builtinsNs mb) (hbb : ∀ x : Str, x ≠ "__name__" → mb x = bootBuiltins x) (hlim : s1.heap.NoLimit) (hgen : s1.gens = #[])
    (hl : s1.heap.get? l = some { cls := .type "list", data := .seq us.toArray }) (hi : IntsAre us ns) (h63 : ns.length ≤ 63) (hr : Room j callerA) (hcx : ∀ (st : List Env) (H : Hp) (s : Shared) (e : Value) (s' : Shared), CX st H s E0 e s' → False)
    (F : ∀ base : Heap, K.In base → base.Ns mainGlobals mg → FnT P w K mg base CX j fa fd [y] lawRel) (hbind : ∀ (s : Shared) (u : Value), BindsTo s fd ⟨[u], []⟩ [(y, u)]) :
    codeAny (model P w) callerA (.call (.ref fa) ⟨[.ref l], []⟩) (fun r s' => r = .ok (.ret (.bool true)) ∧ OldK s1.heap s'.heap ∧ s'.os = s1.os ∧ AllBare s'.gens) s1 := by
  have rv := vals_ints hi
  have lenV := hi.length
  have hsl : ns.length ≤ sizeLine := Nat.le_trans h63 (by decide)
  suffices go : ∀ H : Hp, (∀ b, H b = none ∨ (b = l ∧ ∃ o xs, H b = some (.frz o (.lst xs)))) → HOk P w H s1.heap → (H l ≠ none → K.lookup l = none) → (∃ W : Wd, SR K W H (fun _ => none) ∧ Rp K W H (.scr (ns.map I)) (.ref l)) →
      codeAny (model P w) callerA (.call (.ref fa) ⟨[.ref l], []⟩) (fun r s' => r = .ok (.ret (.bool true)) ∧ OldK s1.heap s'.heap ∧ s'.os = s1.os ∧ AllBare s'.gens) s1 by
    cases hk : K.lookup l with
    | some o =>
      have e := KX l o hk
      rw [hl] at e
      cases e
      refine go (fun _ => none) (fun _ => .inl rfl) (fun b u z => by cases z) (fun z => absurd rfl z) ⟨⟨fun _ => False, fun _ => none⟩, ⟨⟨0, fun _ _ => rfl⟩, fun n ⟨t, z⟩ => (nomatch z), fun _ z => z.elim, fun n a ⟨t, z⟩ => (nomatch z), fun n m a ⟨t, z⟩ => (nomatch z), fun n t a z => (nomatch z)⟩, ?_⟩
      exact .scr (.inr ⟨_, us.toArray, _, hk, rfl, rfl, rfl, by rw [List.size_toArray, lenV]; exact hsl, by simpa using rv⟩) (RpL.of_atoms V.int ns)
    | none =>
      have hh : ∀ b u, (fun b => if b = l then some (HO.frz { cls := .type "list", data := .seq us.toArray } (.lst (ns.map V.int))) else none) b = some u → b = l ∧ u = .frz { cls := .type "list", data := .seq us.toArray } (.lst (ns.map V.int)) := fun b u z => by
        by_cases hb : b = l
        · simp only [hb, if_true] at z; cases z; exact ⟨hb, rfl⟩
        · simp only [hb, if_false] at z; cases z
      refine go (fun b => if b = l then some (.frz { cls := .type "list", data := .seq us.toArray } (.lst (ns.map V.int))) else none) (fun b => ?_) (fun b u z => ?_) (fun _ => hk)
        ⟨⟨fun a => a = l, fun _ => none⟩, ⟨⟨0, fun _ _ => rfl⟩, fun n ⟨t, z⟩ => (nomatch z), fun a z => by (have z1 : a = l := z; simp [z1]), fun n a ⟨t, z⟩ => (nomatch z), fun n m a ⟨t, z⟩ => (nomatch z), fun n t a z => (nomatch z)⟩, ?_⟩
      · by_cases hb : b = l
        · exact .inr ⟨hb, _, _, if_pos hb⟩
        · exact .inl (if_neg hb)
      · obtain ⟨rfl, rfl⟩ := hh b u z
        exact ⟨hl, by rw [List.length_map]; exact hsl, us, _, rv, hl⟩
      · exact .scr (.inl ⟨rfl, _, if_pos rfl⟩) (RpL.of_atoms V.int ns)
  intro H hO hok hK ⟨W, s0, rp⟩
  have noD : ∀ {b : Addr} {o : Obj} {es : Array DictEntry} {ep : Nat}, s1.heap.get? b = some o → o.data = .dict es ep → H b = none := fun {b o es ep} e d => by
    rcases hO b with z | ⟨rfl, _⟩
    · exact z
    · rw [hl] at e; cases e
      cases d
  have nsK : ∀ {b : Addr} {m : Str → Option Value}, s1.heap.Ns b m → (hidT s1.heap H).Ns b m := fun ⟨o, es, ep, e, d, r⟩ => ⟨o, es, ep, hidT_get e (noD e d), d, r⟩
  have hKb : K.In (hidT s1.heap H) := fun b o e => hidT_get (KX b o e) (by
    rcases hO b with z | ⟨rfl, o', xs, z⟩
    · exact z
    · rw [hK (by rw [z]; exact fun z => nomatch z)] at e; cases e)
  have hM : Mod K mg (hidT s1.heap H) := ⟨hKb, nsK hns, ⟨mb, nsK hb, hbb⟩, let ⟨mc, h1, h2⟩ := hlim; ⟨mc, nsK h1, h2⟩⟩
  have env0 : Env0 P w K mg (hidT s1.heap H) callerA [] s1 H := ⟨rfl, hM, fun b o e => of_hidT e, Nat.le_of_eq (hidT_size _ _), trivial, fun b hb => (nomatch (show b ∈ ([] : List Addr) from hb)), hok, .of_eq hgen⟩
  have sp : spT K lawRel [.ref l] H (fun v _ => v = .bl true) E0 := ⟨[.scr (ns.map I)], fun _ => none, .v (B true), fun _ => none, W, s0, .cons rp .nil, ⟨ns, rfl, h63, rfl, rfl⟩, fun x W' H' _ _ r => by cases r; rfl⟩
  refine codeAny_mono ((F _ hKb (nsK hns)).go callerA [] s1 H ⟨[.ref l], []⟩ [.ref l] [.ref l] _ hr rfl env0 (hbind s1 (.ref l)) (.cons rfl .nil) sp) fun out s' q => ?_
  match out, q with
  | .error e, q => exact (hcx [] H s1 e s' q).elim
  | .ok (.ret u), ⟨v, H', os, bare, un, hok', rv', q⟩ =>
    have q' : v = .bl true := q
    subst q'
    obtain rfl : u = Value.bool true := rv'
    refine ⟨rfl, OldK.of_keep fun b o e => ?_, os, bare⟩
    rcases hO b with z | ⟨rfl, ob, xs, z⟩
    · exact un.keep b o e z (fun z => nomatch (show b ∈ ([] : List Addr) from z)) (fun z => nomatch z)
    · obtain ⟨e1, _⟩ := hok b _ z
      obtain ⟨e2, _⟩ := hok' b _ (un.frzs b ob _ z)
      rw [e] at e1; cases e1
      exact e2
/-- the goal that the head leaves -/
theorem walk_T {l : PySem.W.OpenLaw} {j : Nat} {q : Program} {loose : List Str} {XP : (Str → Option Value) → Heap → Prop} {YP : World → Heap → Prop} {d : DefRec} {K : Params → PySem.W.Frag} {CX : World → CXT} {y : Str} (hn : l.most = some 63) (hdf : d.params.defaults = []) (hr : Room j callerA)
    (hcx : ∀ (w : World) (st : List Env) (H : Hp) (s : Shared) (e : Value) (s' : Shared), CX w st H s E0 e s' → False) (hY : ∀ (w : World) (h : Heap), YP w h → (K w.params).In h)
    (F : ∀ (w : World) (mg : Str → Option Value) (fa : Addr) (h : Heap), (K w.params).In h → h.Ns mainGlobals mg → mg d.name = some (.ref fa) → ∃ fd : FuncData, (∀ (s : Shared) (u : Value), BindsTo s fd ⟨[u], []⟩ [(y, u)]) ∧
      ∀ base : Heap, (K w.params).In base → base.Ns mainGlobals mg → FnT l.prog w (K w.params) mg base (CX w) j fa fd [y] lawRel) : PySem.W.WalkO q loose XP YP l.row.toRowW d [] (fun f vs => PySem.call f vs) := by
  refine Att.attach_call hn hdf fun w s₀ s1 mg mb fa o pm cd doc a vs ns G Y ho hd hcd hmg hobj hints hlen hg => ?_
  have KX := hY w _ Y
  obtain ⟨fd, hb, hF⟩ := F w mg fa _ KX G.T.g hmg
  exact law_T KX G.T.g G.T.b G.T.builtins G.T.nolimit hg hobj hints hlen hr (hcx w) hF hb
end
end TL


/-! The tree layer, part G: short forms for printed proofs. -/
namespace TL
open PySem PySem.Spec PyProof.Rows L2

section
variable {cm : Bool} {CX : CXT} {P : Program} {w : World} {K : PySem.W.Frag} {mg : Str → Option Value} {base : Heap} {k : Nat} {N : List Str} {sc : Scope} {fs : Str → Bool} {X : Cx}
variable {e a b c tg iter elt : Expr} {es ifs : List Expr} {ρ ρ' ρ1 : TEnv} {L L1 Lb Lc : Store} {t u : T} {ts us : List T} {pos p : Pos} {i j : Int} {x : Str} {z : R}

theorem FnT.mono {f : Addr} {fd : FuncData} {ps : List Str} {Rl : Rel} {j j' : Nat} (F : FnT P w K mg base CX j f fd ps Rl) (h : j ≤ j') : FnT P w K mg base CX j' f fd ps Rl := ⟨F.len, fun A o s H args us vs Q hr => F.go A o s H args us vs Q (hr.mono h)⟩
theorem FnT.imp {f : Addr} {fd : FuncData} {ps : List Str} {Rl Rl' : Rel} {j : Nat} (F : FnT P w K mg base CX j f fd ps Rl) (h : ∀ ts L r L', Rl' ts L r L' → Rl ts L r L') : FnT P w K mg base CX j f fd ps Rl' :=
  ⟨fun ts L r L' q => F.len ts L r L' (h _ _ _ _ q), fun A o s H args us vs Q hr hg e0 hb rv ⟨ts, L, r, L', W, s0, rr, hR, q⟩ => F.go A o s H args us vs Q hr hg e0 hb rv ⟨ts, L, r, L', W, s0, rr, h _ _ _ _ hR, q⟩⟩
/-- a def of the module that keeps Rl, all parameters given by place -/
structure DefT (CX : CXT) (P : Program) (w : World) (K : PySem.W.Frag) (mg : Str → Option Value) (base : Heap) (j : Nat) (x : Str) (ps : List Str) (Rl : Rel) : Prop where
  ex : ∃ f fd, FnT P w K mg base CX j f fd ps Rl ∧ mg x = some (.ref f) ∧ PySem.W.keepIn K (.ref f) = true ∧ Binds K fd ps []
/-- a method -/
structure MetT (CX : CXT) (P : Program) (w : World) (K : PySem.W.Frag) (mg : Str → Option Value) (base : Heap) (j : Nat) (C : Addr) (m : Str) (ps : List Str) (Rl : Rel) : Prop where
  ex : ∃ f fd, FnT P w K mg base CX j f fd ps Rl ∧ Meth K C m f ∧ Binds K fd ps []
theorem ec {ps : List Str} {Rl : Rel} {j : Nat} {r : R} (ct : Cq true CX P w K mg base k N sc fs X) (D : DefT CX P w K mg base j x ps Rl) (ha : EvA X (e :: es) ρ L ts L1) (h : Rl ts L1 r Lb) (hj : j ≤ k := by decide) (hg : glOk sc x = true := by decide +kernel)
    (he : starEach (e :: es) X.env = (false, eval e X.env) :: starEach es X.env := by first | with_reducible exact se1 | with_reducible exact se2 | with_reducible exact se3 | with_reducible exact se4 | with_reducible exact se5 | with_reducible exact se6 | with_reducible exact se7 | with_reducible exact se8 | with_reducible exact se9 | rfl) (hpl : (backTo pos (starEach es X.env)).any (·.1) = false := by rfl) : Ev X (.Call (.Name x p) (e :: es) [] pos) ρ L r Lb := by
  obtain ⟨f, fd, F, hm, hk, hb⟩ := D.ex
  exact ev_call (ds := []) (dvs := []) ct F hj hm hk hb .nil hg ha (by rw [List.map_nil, List.append_nil]; exact h) he hpl
theorem em {o : Expr} {m : Str} {apos : Pos} {C : Addr} {ps : List Str} {Rl : Rel} {j : Nat} {r : R} {ns : List Str} {pl : Sem Bool} (ct : Cq true CX P w K mg base k N sc fs X) (cl : Cls K C) (D : MetT CX P w K mg base j C m ps Rl)
    (ho : Ev X o ρ L (.v t) L1) (hi : InsT L1 t C ns us) (hn : (ns.zip us).lookup m = none) (ha : EvA X (e :: es) ρ L1 ts Lb) (h : Rl (t :: ts) Lb r Lc) (hj : j ≤ k := by decide)
    (hst : starEach (e :: es) X.env = (false, eval e X.env) :: starEach es X.env := by first | with_reducible exact se1 | with_reducible exact se2 | with_reducible exact se3 | with_reducible exact se4 | with_reducible exact se5 | with_reducible exact se6 | with_reducible exact se7 | with_reducible exact se8 | with_reducible exact se9 | rfl) (hpl : (backTo pos (starEach es X.env)).any (·.1) = false := by rfl)
    (ht : eval (.Call (.Attribute o m apos) (e :: es) [] pos) X.env = (do
      let ov ← eval o X.env
      standAt apos.atName
      let (f, first) ← holding [ov] (getMethod ov m pl)
      callWith pos f first (backTo pos (starEach (e :: es) X.env)) (backToKw pos (keywordEach [] X.env))) := by rfl) : Ev X (.Call (.Attribute o m apos) (e :: es) [] pos) ρ L r Lc := by
  obtain ⟨f, fd, F, hm, hb⟩ := D.ex
  exact ev_meth (pl := pl) ct cl hm F hj hb ho hi hn ha h hst hpl ht
theorem em0 {o : Expr} {m : Str} {apos : Pos} {C : Addr} {ps : List Str} {Rl : Rel} {j : Nat} {r : R} {ns : List Str} {pl : Sem Bool} (ct : Cq true CX P w K mg base k N sc fs X) (cl : Cls K C) (D : MetT CX P w K mg base j C m ps Rl)
    (ho : Ev X o ρ L (.v t) L1) (hi : InsT L1 t C ns us) (hn : (ns.zip us).lookup m = none) (h : Rl [t] L1 r Lb) (hj : j ≤ k := by decide)
    (ht : eval (.Call (.Attribute o m apos) [] [] pos) X.env = (do
      let ov ← eval o X.env
      standAt apos.atName
      let (f, first) ← holding [ov] (getMethod ov m pl)
      callWith pos f first (backTo pos (starEach [] X.env)) (backToKw pos (keywordEach [] X.env))) := by rfl) : Ev X (.Call (.Attribute o m apos) [] [] pos) ρ L r Lb := by
  obtain ⟨f, fd, F, hm, hb⟩ := D.ex
  exact ev_meth0 (pl := pl) ct cl hm F hj hb ho hi hn h ht

/-! comprehensions that leave the store as it is -/
theorem made_map {α : Type} (xs : List α) (f : α → T) (pf : α → Bool) (gf : α → T) (d : α → Prop) : made (fun i => match xs[i]? with | some x => pf x | none => false) (fun i => match xs[i]? with | some x => gf x | none => N0) xs.length = (xs.filter pf).map gf := by
  have h : ∀ n, n ≤ xs.length → made (fun i => match xs[i]? with | some x => pf x | none => false) (fun i => match xs[i]? with | some x => gf x | none => N0) n = ((xs.take n).filter pf).map gf := by
    intro n
    induction n with
    | zero => intro _; simp [made]
    | succ n ih =>
      intro hn
      have hx : xs[n]? = some xs[n] := List.getElem?_eq_getElem (by omega)
      have e : xs.take (n + 1) = xs.take n ++ [xs[n]] := by rw [List.take_add_one, hx]; rfl
      rw [e, List.filter_append, List.map_append, ← ih (by omega)]
      cases hp : pf xs[n] with
      | true => rw [made_yes (by simp only [hx]; exact hp)]; simp [hp, hx]
      | false => rw [made_no (by simp only [hx]; exact hp)]; simp [hp]
  have := h xs.length (Nat.le_refl _)
  rw [List.take_length] at this
  exact this
/-- the blocks of a comprehension, for a proof -/
abbrev Bk (CX : CXT) (P : Program) (w : World) (K : PySem.W.Frag) (mg : Str → Option Value) (base : Heap) (k : Nat) (N : List Str) (sc scope : Scope) (Y : Cx) : Prop := Ct CX P w K mg base k N (relS scope sc) (fun x => scope.names.lookup x == some .cell) Y
theorem lcP {scope : Scope} {vs js : List Nat} {α : Type} {xs : List α} {f : α → T} {pf : α → Bool} {gf : α → T} {ρf : α → TEnv} (ct : Cq true CX P w K mg base k N sc fs X) (hk : scope.kind = .function) (hz : xs.length ≤ 100000) (hjs : ∀ j ∈ js, j ∈ vs)
    (ht : ∀ x ∈ xs, ∀ Y, Bk CX P w K mg base k N sc scope Y → TgT Y tg js (f x) (wipeT ρ vs) (ρf x) L) (hc : ∀ x ∈ xs, ∀ Y, Bk CX P w K mg base k N sc scope Y → EvC Y ifs (ρf x) L (pf x) L)
    (he : ∀ x ∈ xs, pf x = true → ∀ Y, Bk CX P w K mg base k N sc scope Y → Ev Y elt (ρf x) L (.v (gf x)) L) :
    LcT X tg elt ifs scope vs ρ (xs.map f) (fun _ => L) (fun i => match xs[i]? with | some x => pf x | none => false) (fun i => match xs[i]? with | some x => gf x | none => N0) where
  sz := by rw [List.length_map]; exact hz
  turn := fun i y hy => by
    rw [List.getElem?_map] at hy
    cases q : xs[i]? with
    | none => rw [q] at hy; cases hy
    | some x =>
      rw [q] at hy; cases hy
      have hx : x ∈ xs := List.mem_of_getElem? q
      refine ⟨js, ρf x, L, hjs, fun s H C cl fp => ht x hx _ (ct.blk hk s H C cl fp), fun s H C cl fp => hc x hx _ (ct.blk hk s H C cl fp), fun hp s H C cl fp => ?_, fun _ => rfl⟩
      exact he x hx hp _ (ct.blk hk s H C cl fp)
/-- [elt for tg in iter if ..], over the items f x of xs -/
theorem elc {scope : Scope} {own : List (Str × Nat)} {js : List Nat} {α : Type} {xs : List α} {f : α → T} {pf : α → Bool} {gf : α → T} {ρf : α → TEnv} (ct : Cq true CX P w K mg base k N sc fs X) (ok : blkC N sc scope own = true) (hi : EvI X tg iter ρ L (xs.map f) L1) (hz : xs.length ≤ 100000)
    (ht : ∀ x ∈ xs, ∀ Y, Bk CX P w K mg base k N sc scope Y → TgT Y tg js (f x) (wipeT ρ (own.map (·.2))) (ρf x) L1) (hc : ∀ x ∈ xs, ∀ Y, Bk CX P w K mg base k N sc scope Y → EvC Y ifs (ρf x) L1 (pf x) L1)
    (he : ∀ x ∈ xs, pf x = true → ∀ Y, Bk CX P w K mg base k N sc scope Y → Ev Y elt (ρf x) L1 (.v (gf x)) L1) (hk : scope.kind = .function := by rfl) (hjs : ∀ j ∈ js, j ∈ own.map (·.2) := by decide) (hs : ∀ x, foldedSetIterable iter X.env x = pure x := by intro _; rfl) :
    Ev X (.ListComp elt [⟨tg, iter, ifs, 0⟩] scope pos) ρ L (.n (.lst ((xs.filter pf).map gf))) L1 := by
  have h := ev_lc (pos := pos) ct ok hi (lcP (f := f) (pf := pf) (gf := gf) ct hk hz hjs ht hc he) hs
  rw [List.length_map, made_map xs f pf gf (fun _ => True)] at h
  exact h
/-- without a test -/
theorem elc0 {scope : Scope} {own : List (Str × Nat)} {js : List Nat} {α : Type} {xs : List α} {f : α → T} {gf : α → T} {ρf : α → TEnv} (ct : Cq true CX P w K mg base k N sc fs X) (ok : blkC N sc scope own = true) (hi : EvI X tg iter ρ L (xs.map f) L1) (hz : xs.length ≤ 100000)
    (ht : ∀ x ∈ xs, ∀ Y, Bk CX P w K mg base k N sc scope Y → TgT Y tg js (f x) (wipeT ρ (own.map (·.2))) (ρf x) L1)
    (he : ∀ x ∈ xs, ∀ Y, Bk CX P w K mg base k N sc scope Y → Ev Y elt (ρf x) L1 (.v (gf x)) L1) (hk : scope.kind = .function := by rfl) (hjs : ∀ j ∈ js, j ∈ own.map (·.2) := by decide) (hs : ∀ x, foldedSetIterable iter X.env x = pure x := by intro _; rfl) :
    Ev X (.ListComp elt [⟨tg, iter, [], 0⟩] scope pos) ρ L (.n (.lst (xs.map gf))) L1 := by
  have h := elc (pos := pos) (pf := fun _ => true) ct ok hi hz ht (fun _ _ _ _ => ec_nil) (fun x hx _ => he x hx) hk hjs hs
  rw [List.filter_eq_self.mpr (fun _ _ => rfl)] at h
  exact h
/-- name = [..] on one line -/
theorem wlc {scope : Scope} {own : List (Str × Nat)} {js : List Nat} {α : Type} {xs : List α} {f : α → T} {pf : α → Bool} {gf : α → T} {ρf : α → TEnv} {p1 p' : Pos} {rest : List Stmt} {kk : TK} (ct : Cq true CX P w K mg base k N sc fs X) (n : Nat) (hx : locOk N sc fs n x = true) (hxl : sc.names.lookup x = some .local)
    (ok : blkC N sc scope own = true) (hi : EvI X tg iter ρ L (xs.map f) L1) (hz : xs.length ≤ 100000)
    (ht : ∀ x ∈ xs, ∀ Y, Bk CX P w K mg base k N sc scope Y → TgT Y tg js (f x) (wipeT ρ (own.map (·.2))) (ρf x) L1) (hc : ∀ x ∈ xs, ∀ Y, Bk CX P w K mg base k N sc scope Y → EvC Y ifs (ρf x) L1 (pf x) L1)
    (he : ∀ x ∈ xs, pf x = true → ∀ Y, Bk CX P w K mg base k N sc scope Y → Ev Y elt (ρf x) L1 (.v (gf x)) L1) (h : WS X rest (ρ.set n (some (.lst ((xs.filter pf).map gf)))) L1 kk) (hk : scope.kind = .function := by rfl) (hjs : ∀ j ∈ js, j ∈ own.map (·.2) := by decide)
    (hsw : (p'.line == p1.line) = true := by rfl) (ha : (scope.names.any fun (n, k) => n == x && (k == .local || k == .cell)) = false := by decide +kernel) (hs : ∀ x, foldedSetIterable iter X.env x = pure x := by intro _; rfl) : WS X (.Assign [.Name x p'] (.ListComp elt [⟨tg, iter, ifs, 0⟩] scope p1) pos :: rest) ρ L kk := by
  refine ws_setLc ct n hx hxl ok hi (lcP (f := f) (pf := pf) (gf := gf) ct hk hz hjs ht hc he) ?_ hsw ha hs
  rw [List.length_map, made_map xs f pf gf (fun _ => True)]
  exact h
/-! enumerate and zip over mapped lists -/
def enumL {α : Type} (xs : List α) : List (Int × α) := (List.range xs.length).filterMap fun (i : Nat) => xs[i]?.map fun x => ((i : Int), x)
theorem enumL_map {α : Type} (f : α → T) (xs : List α) : enumT (xs.map f) = (enumL xs).map fun q => .tup [I q.1, f q.2] := by
  unfold enumT enumL
  rw [List.length_map, List.map_filterMap]
  have : ∀ l : List Nat, (∀ i ∈ l, i < xs.length) → l.map (fun (i : Nat) => T.tup [I i, (xs.map f).getD i N0]) = l.filterMap (fun (i : Nat) => (xs[i]?.map fun x => ((i : Int), x)).map fun q => T.tup [I q.1, f q.2]) := by
    intro l
    induction l with
    | nil => intro _; rfl
    | cons i l ih =>
      intro h
      have hi := h i List.mem_cons_self
      rw [List.map_cons, List.filterMap_cons, ih fun j hj => h j (List.mem_cons_of_mem _ hj)]
      simp [List.getElem?_eq_getElem hi]
  exact this _ fun i hi => List.mem_range.mp hi
theorem mem_enumL {α : Type} {xs : List α} {q : Int × α} (h : q ∈ enumL xs) : ∃ n : Nat, q.1 = (n : Int) ∧ xs[n]? = some q.2 := by
  unfold enumL at h
  obtain ⟨i, _, h2⟩ := List.mem_filterMap.mp h
  cases e : xs[i]? with
  | none => rw [e] at h2; cases h2
  | some x => rw [e] at h2; cases h2; exact ⟨i, rfl, e⟩
theorem ei_enumP {elts : List Expr} {kk : Nat} {tpos : Pos} {α : Type} {f : α → T} {xs : List α} (ct : Cq cm CX P w K mg base k N sc fs X) (hm : mg "enumerate" = none) (hg : glOk sc "enumerate" = true) (h : EvA X [a] ρ L [.lst (xs.map f)] L1) (hs : starEach [a] X.env = [(false, eval a X.env)] := by rfl) :
    EvI X (.Tuple elts kk tpos) (.Call (.Name "enumerate" p) [a] [] pos) ρ L ((enumL xs).map fun q => .tup [I q.1, f q.2]) L1 := by
  rw [← enumL_map]
  exact ei_enum ct hm hg h hs
/-! stores -/
theorem ne_of_live {m n : Nat} {t : T} (h1 : L m = some t) (h2 : L n = none) : m ≠ n := fun e => by rw [e, h2] at h1; cases h1
theorem updS_drop {n : Nat} {o : Option T} (h : L n = none) : ∀ m t, L m = some t → updS L n o m = some t := fun m t e => by rw [updS_ne (ne_of_live e h)]; exact e
theorem updS_updS {n : Nat} {o o' : Option T} : updS (updS L n o) n o' = updS L n o' := by
  funext m; unfold updS; split <;> rfl
theorem updS_self {n : Nat} {o : Option T} (h : L n = o) : updS L n o = L := by
  funext m; unfold updS; split
  · rename_i e; rw [e, h]
  · rfl
/-! short forms: the names' facts are found by the kernel -/
theorem nv (ct : Cq cm CX P w K mg base k N sc fs X) (n : Nat) (hρ : ρ[n]? = some (some t)) (h : nmOk N sc n x = true := by decide +kernel) : Ev X (.Name x pos) ρ L (.v t) L := ev_var ct n hρ h
theorem nty (ct : Cq cm CX P w K mg base k N sc fs X) (n : String) (hm : mg x = none) (hb : bootBuiltins x = some (.type n) := by decide +kernel) (h : glOk sc x = true := by decide +kernel) : Ev X (.Name x pos) ρ L (.v (.v (.ty n))) L := ev_blt ct hm hb rfl h
theorem nint (ct : Cq cm CX P w K mg base k N sc fs X) {tk : Tok} (hm : mg x = some (.int i tk)) (h : glOk sc x = true := by decide +kernel) : Ev X (.Name x pos) ρ L (.v (I i)) L := ev_glob ct hm ⟨tk, rfl⟩ h
theorem tn (ct : Cq cm CX P w K mg base k N sc fs X) (n : Nat) (h : locOk N sc fs n x = true := by decide +kernel) : TgT X (.Name x pos) [n] t ρ (ρ.set n (some t)) L := tg_name ct n h
theorem klen (ct : Cq cm CX P w K mg base k N sc fs X) (hm : mg "len" = none) (ha : EvA X [e] ρ L [t] L1) (hl : LstT L1 t ts) (hg : glOk sc "len" = true := by decide +kernel) (he : starEach [e] X.env = (false, eval e X.env) :: starEach [] X.env := by first | with_reducible exact se1 | with_reducible exact se2 | with_reducible exact se3 | with_reducible exact se4 | with_reducible exact se5 | with_reducible exact se6 | with_reducible exact se7 | with_reducible exact se8 | with_reducible exact se9 | rfl) (hpl : (backTo pos (starEach [] X.env)).any (·.1) = false := by rfl) : Ev X (.Call (.Name "len" p) [e] [] pos) ρ L (.v (I ts.length)) L1 := ev_len ct hm hg ha hl he hpl
theorem klenT (ct : Cq cm CX P w K mg base k N sc fs X) (hm : mg "len" = none) (ha : EvA X [e] ρ L [.tup ts] L1) (hg : glOk sc "len" = true := by decide +kernel) (he : starEach [e] X.env = (false, eval e X.env) :: starEach [] X.env := by first | with_reducible exact se1 | with_reducible exact se2 | with_reducible exact se3 | with_reducible exact se4 | with_reducible exact se5 | with_reducible exact se6 | with_reducible exact se7 | with_reducible exact se8 | with_reducible exact se9 | rfl) (hpl : (backTo pos (starEach [] X.env)).any (·.1) = false := by rfl) : Ev X (.Call (.Name "len" p) [e] [] pos) ρ L (.v (I ts.length)) L1 := ev_lenT ct hm hg ha he hpl
theorem klistT (ct : Cq cm CX P w K mg base k N sc fs X) (hm : mg "list" = none) (ha : EvA X [e] ρ L [.tup ts] L1) (hg : glOk sc "list" = true := by decide +kernel) (he : starEach [e] X.env = (false, eval e X.env) :: starEach [] X.env := by first | with_reducible exact se1 | with_reducible exact se2 | with_reducible exact se3 | with_reducible exact se4 | with_reducible exact se5 | with_reducible exact se6 | with_reducible exact se7 | with_reducible exact se8 | with_reducible exact se9 | rfl) (hpl : (backTo pos (starEach [] X.env)).any (·.1) = false := by rfl) : Ev X (.Call (.Name "list" p) [e] [] pos) ρ L (.n (.lst ts)) L1 := ev_listT ct hm hg ha he hpl
theorem klistL (ct : Cq cm CX P w K mg base k N sc fs X) (hm : mg "list" = none) (ha : EvA X [e] ρ L [t] L1) (hl : LstT L1 t ts) (hg : glOk sc "list" = true := by decide +kernel) (he : starEach [e] X.env = (false, eval e X.env) :: starEach [] X.env := by first | with_reducible exact se1 | with_reducible exact se2 | with_reducible exact se3 | with_reducible exact se4 | with_reducible exact se5 | with_reducible exact se6 | with_reducible exact se7 | with_reducible exact se8 | with_reducible exact se9 | rfl) (hpl : (backTo pos (starEach [] X.env)).any (·.1) = false := by rfl) : Ev X (.Call (.Name "list" p) [e] [] pos) ρ L (.n (.lst ts)) L1 := ev_listL ct hm hg ha hl he hpl
theorem ktupleL (ct : Cq cm CX P w K mg base k N sc fs X) (hm : mg "tuple" = none) (ha : EvA X [e] ρ L [t] L1) (hl : LstT L1 t ts) (hg : glOk sc "tuple" = true := by decide +kernel) (he : starEach [e] X.env = (false, eval e X.env) :: starEach [] X.env := by first | with_reducible exact se1 | with_reducible exact se2 | with_reducible exact se3 | with_reducible exact se4 | with_reducible exact se5 | with_reducible exact se6 | with_reducible exact se7 | with_reducible exact se8 | with_reducible exact se9 | rfl) (hpl : (backTo pos (starEach [] X.env)).any (·.1) = false := by rfl) : Ev X (.Call (.Name "tuple" p) [e] [] pos) ρ L (.v (.tup ts)) L1 := ev_tupleL ct hm hg ha hl he hpl
theorem kintB {y : Bool} (ct : Cq cm CX P w K mg base k N sc fs X) (hm : mg "int" = none) (ha : EvA X [e] ρ L [B y] L1) (hg : glOk sc "int" = true := by decide +kernel) (he : starEach [e] X.env = (false, eval e X.env) :: starEach [] X.env := by first | with_reducible exact se1 | with_reducible exact se2 | with_reducible exact se3 | with_reducible exact se4 | with_reducible exact se5 | with_reducible exact se6 | with_reducible exact se7 | with_reducible exact se8 | with_reducible exact se9 | rfl) (hpl : (backTo pos (starEach [] X.env)).any (·.1) = false := by rfl) : Ev X (.Call (.Name "int" p) [e] [] pos) ρ L (.v (I (if y then 1 else 0))) L1 := ev_intB ct hm hg ha he hpl
theorem kall {bs : List Bool} (ct : Cq true CX P w K mg base k N sc fs X) (hm : mg "all" = none) (ha : EvA X [e] ρ L [t] L1) (hl : LstT L1 t (bs.map B)) (hg : glOk sc "all" = true := by decide +kernel) (he : starEach [e] X.env = (false, eval e X.env) :: starEach [] X.env := by first | with_reducible exact se1 | with_reducible exact se2 | with_reducible exact se3 | with_reducible exact se4 | with_reducible exact se5 | with_reducible exact se6 | with_reducible exact se7 | with_reducible exact se8 | with_reducible exact se9 | rfl) (hpl : (backTo pos (starEach [] X.env)).any (·.1) = false := by rfl) : Ev X (.Call (.Name "all" p) [e] [] pos) ρ L (.v (B (bs.all id))) L1 := ev_all ct hm hg ha hl he hpl
theorem kany {bs : List Bool} (ct : Cq true CX P w K mg base k N sc fs X) (hm : mg "any" = none) (ha : EvA X [e] ρ L [t] L1) (hl : LstT L1 t (bs.map B)) (hg : glOk sc "any" = true := by decide +kernel) (he : starEach [e] X.env = (false, eval e X.env) :: starEach [] X.env := by first | with_reducible exact se1 | with_reducible exact se2 | with_reducible exact se3 | with_reducible exact se4 | with_reducible exact se5 | with_reducible exact se6 | with_reducible exact se7 | with_reducible exact se8 | with_reducible exact se9 | rfl) (hpl : (backTo pos (starEach [] X.env)).any (·.1) = false := by rfl) : Ev X (.Call (.Name "any" p) [e] [] pos) ρ L (.v (B (bs.any id))) L1 := ev_any ct hm hg ha hl he hpl
/-- all(..) of a mapped list of truths -/
theorem kallM {α : Type} {l : List α} {g : α → Bool} (ct : Cq true CX P w K mg base k N sc fs X) (hm : mg "all" = none) (ha : EvA X [e] ρ L [.lst (l.map fun x => B (g x))] L1) (hg : glOk sc "all" = true := by decide +kernel) (he : starEach [e] X.env = (false, eval e X.env) :: starEach [] X.env := by first | with_reducible exact se1 | with_reducible exact se2 | with_reducible exact se3 | with_reducible exact se4 | with_reducible exact se5 | with_reducible exact se6 | with_reducible exact se7 | with_reducible exact se8 | with_reducible exact se9 | rfl) (hpl : (backTo pos (starEach [] X.env)).any (·.1) = false := by rfl) : Ev X (.Call (.Name "all" p) [e] [] pos) ρ L (.v (B (l.all g))) L1 :=
  Ev.eq (ev_all (bs := l.map g) ct hm hg ha (.inl (by rw [List.map_map]; rfl)) he hpl) (by rw [List.all_map]; rfl)
theorem kanyM {α : Type} {l : List α} {g : α → Bool} (ct : Cq true CX P w K mg base k N sc fs X) (hm : mg "any" = none) (ha : EvA X [e] ρ L [.lst (l.map fun x => B (g x))] L1) (hg : glOk sc "any" = true := by decide +kernel) (he : starEach [e] X.env = (false, eval e X.env) :: starEach [] X.env := by first | with_reducible exact se1 | with_reducible exact se2 | with_reducible exact se3 | with_reducible exact se4 | with_reducible exact se5 | with_reducible exact se6 | with_reducible exact se7 | with_reducible exact se8 | with_reducible exact se9 | rfl) (hpl : (backTo pos (starEach [] X.env)).any (·.1) = false := by rfl) : Ev X (.Call (.Name "any" p) [e] [] pos) ρ L (.v (B (l.any g))) L1 :=
  Ev.eq (ev_any (bs := l.map g) ct hm hg ha (.inl (by rw [List.map_map]; rfl)) he hpl) (by rw [List.any_map]; rfl)
theorem ksortI {ns : List Int} (ct : Cq cm CX P w K mg base k N sc fs X) (hm : mg "sorted" = none) (ha : EvA X [e] ρ L [t] L1) (hl : LstT L1 t (ns.map I)) (hg : glOk sc "sorted" = true := by decide +kernel) (he : starEach [e] X.env = (false, eval e X.env) :: starEach [] X.env := by first | with_reducible exact se1 | with_reducible exact se2 | with_reducible exact se3 | with_reducible exact se4 | with_reducible exact se5 | with_reducible exact se6 | with_reducible exact se7 | with_reducible exact se8 | with_reducible exact se9 | rfl) (hpl : (backTo pos (starEach [] X.env)).any (·.1) = false := by rfl) : Ev X (.Call (.Name "sorted" p) [e] [] pos) ρ L (.n (.lst ((sortI ns).map I))) L1 := ev_sortI ct hm hg ha hl he hpl
theorem ksortP {ps : List (Int × Int)} (ct : Cq cm CX P w K mg base k N sc fs X) (hm : mg "sorted" = none) (ha : EvA X [e] ρ L [t] L1) (hl : LstT L1 t (ps.map tPair)) (hg : glOk sc "sorted" = true := by decide +kernel) (he : starEach [e] X.env = (false, eval e X.env) :: starEach [] X.env := by first | with_reducible exact se1 | with_reducible exact se2 | with_reducible exact se3 | with_reducible exact se4 | with_reducible exact se5 | with_reducible exact se6 | with_reducible exact se7 | with_reducible exact se8 | with_reducible exact se9 | rfl) (hpl : (backTo pos (starEach [] X.env)).any (·.1) = false := by rfl) : Ev X (.Call (.Name "sorted" p) [e] [] pos) ρ L (.n (.lst ((sortP ps).map tPair))) L1 := ev_sortP ct hm hg ha hl he hpl
theorem kisi {n : String} (ct : Cq cm CX P w K mg base k N sc fs X) (hm : mg "isinstance" = none) (ha : EvA X [a, b] ρ L [t, .v (.ty n)] L1) (h1 : (tyN t).isSome = true) (h2 : ∀ m, tyN t = some m → (kitB m n).isSome = true) (hg : glOk sc "isinstance" = true := by decide +kernel)
    (he : starEach [a, b] X.env = (false, eval a X.env) :: starEach [b] X.env := by first | with_reducible exact se1 | with_reducible exact se2 | with_reducible exact se3 | with_reducible exact se4 | with_reducible exact se5 | with_reducible exact se6 | with_reducible exact se7 | with_reducible exact se8 | with_reducible exact se9 | rfl) (hpl : (backTo pos (starEach [b] X.env)).any (·.1) = false := by rfl) : Ev X (.Call (.Name "isinstance" p) [a, b] [] pos) ρ L (.v (B (isA n t))) L1 := ev_isi ct hm hg ha h1 h2 he hpl
/-- .. where the type is known -/
theorem kisiK {n m : String} (ct : Cq cm CX P w K mg base k N sc fs X) (hm : mg "isinstance" = none) (ha : EvA X [a, b] ρ L [t, .v (.ty n)] L1) (h1 : tyN t = some m) (z : Bool) (h2 : kitB m n = some z := by decide +kernel) (hg : glOk sc "isinstance" = true := by decide +kernel)
    (he : starEach [a, b] X.env = (false, eval a X.env) :: starEach [b] X.env := by first | with_reducible exact se1 | with_reducible exact se2 | with_reducible exact se3 | with_reducible exact se4 | with_reducible exact se5 | with_reducible exact se6 | with_reducible exact se7 | with_reducible exact se8 | with_reducible exact se9 | rfl) (hpl : (backTo pos (starEach [b] X.env)).any (·.1) = false := by rfl) : Ev X (.Call (.Name "isinstance" p) [a, b] [] pos) ρ L (.v (B z)) L1 :=
  Ev.eq (ev_isi ct hm hg ha (by rw [h1]; rfl) (fun m' e => by rw [h1] at e; cases e; rw [h2]; rfl) he hpl) (by unfold isA; rw [h1]; simp [h2])
theorem kr1 (ct : Cq cm CX P w K mg base k N sc fs X) (hm : mg "range" = none) (h : EvA X [a] ρ L [I j] L1) (h1 : -(2 ^ 62) ≤ j) (h2 : j < 2 ^ 62) (hg : glOk sc "range" = true := by decide +kernel) (hs : starEach [a] X.env = [(false, eval a X.env)] := by rfl) : EvI X tg (.Call (.Name "range" p) [a] [] pos) ρ L ((rangeT 0 j.toNat).map I) L1 := ei_range1 ct hm hg h h1 h2 hs
theorem kr2 (ct : Cq cm CX P w K mg base k N sc fs X) (hm : mg "range" = none) (h : EvA X [a, b] ρ L [I i, I j] L1) (h1 : -(2 ^ 62) ≤ i) (h2 : i < 2 ^ 62) (h3 : -(2 ^ 62) ≤ j) (h4 : j < 2 ^ 62) (hg : glOk sc "range" = true := by decide +kernel) (hs : starEach [a, b] X.env = [(false, eval a X.env), (false, eval b X.env)] := by rfl) (hs2 : starEach [b] X.env = [(false, eval b X.env)] := by rfl) : EvI X tg (.Call (.Name "range" p) [a, b] [] pos) ρ L ((rangeT i (j - i).toNat).map I) L1 := ei_range2 ct hm hg h h1 h2 h3 h4 hs hs2
theorem kenum {elts : List Expr} {kk : Nat} {tpos : Pos} {α : Type} {f : α → T} {xs : List α} (ct : Cq cm CX P w K mg base k N sc fs X) (hm : mg "enumerate" = none) (h : EvA X [a] ρ L [.lst (xs.map f)] L1) (hg : glOk sc "enumerate" = true := by decide +kernel) (hs : starEach [a] X.env = [(false, eval a X.env)] := by rfl) :
    EvI X (.Tuple elts kk tpos) (.Call (.Name "enumerate" p) [a] [] pos) ρ L ((enumL xs).map fun q => .tup [I q.1, f q.2]) L1 := ei_enumP ct hm hg h hs
theorem wset {rest : List Stmt} {kk : TK} {p' : Pos} (ct : Cq cm CX P w K mg base k N sc fs X) (n : Nat) (he : Ev X e ρ L (.v t) L1) (h : WS X rest (ρ.set n (some t)) L1 kk) (hx : locOk N sc fs n x = true := by decide +kernel) (hs : swapsWith e (some (.Name x p')) pos.line X.env = pure false := by rfl) : WS X (.Assign [.Name x p'] e pos :: rest) ρ L kk := ws_set ct n hx he h hs
theorem wsetC {rest : List Stmt} {kk : TK} {p' : Pos} (ct : Cq cm CX P w K mg base k N sc fs X) (n : Nat) (he : Ev X e ρ L (.n t) L1) (h : ∀ m, L1 m = none → WS X rest (ρ.set n (some (.cel m))) (updS L1 m (some t)) kk) (hx : locOk N sc fs n x = true := by decide +kernel) (hs : swapsWith e (some (.Name x p')) pos.line X.env = pure false := by rfl) : WS X (.Assign [.Name x p'] e pos :: rest) ρ L kk := ws_setC ct n hx he h hs
theorem sw_env {tg : List Expr} {v : Expr} {env env' : Env} (h : env.scope = env'.scope) : swappedStores tg v env = swappedStores tg v env' := by
  unfold swappedStores Env.blockKind Env.kindOf
  rw [h]
theorem wpar {rest : List Stmt} {kk : TK} {y : Str} {px py pt : Pos} {kt k2 pt2} (ct : Cq true CX P w K mg base k N sc fs X) (n m : Nat) (ha : EvA X [a, b] ρ L [t, u] L1) (h : WS X rest ((ρ.set n (some t)).set m (some u)) L1 kk) (hij : n ≠ m := by decide)
    (hx : locOk N sc fs n x = true := by decide +kernel) (hy : locOk N sc fs m y = true := by decide +kernel) (hxl : sc.names.lookup x = some .local := by decide +kernel) (hyl : sc.names.lookup y = some .local := by decide +kernel) (hw : swappedStores [.Tuple [.Name x px, .Name y py] kt pt] (.Tuple [a, b] k2 pt2) { X.env with scope := sc } = pure (some [x, y]) := by rfl)
    (hs : swapsWithSole [.Tuple [.Name x px, .Name y py] kt pt] (.Tuple [a, b] k2 pt2) pos.line X.env = pure false := by rfl) : WS X (.Assign [.Tuple [.Name x px, .Name y py] kt pt] (.Tuple [a, b] k2 pt2) pos :: rest) ρ L kk := ws_par ct n m hx hy hxl hyl hij ha h ((sw_env (env' := { X.env with scope := sc }) ct.hsc).trans hw) hs
theorem waugI {rest : List Stmt} {kk : TK} {p' : Pos} (ct : Cq cm CX P w K mg base k N sc fs X) (n : Nat) (hρ : ρ[n]? = some (some (I i))) (he : Ev X e ρ L (.v (I j)) L1) (h : WS X rest (ρ.set n (some (I (i + j)))) L1 kk) (hx : locOk N sc fs n x = true := by decide +kernel) : WS X (.AugAssign (.Name x p') .Add e pos :: rest) ρ L kk := ws_augI ct n hx hρ he h
/-- name.append(e), the name's list a cell -/
theorem eapp {o : Expr} {apos : Pos} {m : Nat} (ho : Ev X o ρ L (.v (.cel m)) L) (ha : Ev X e ρ L (.v t) L1) (hl0 : L m = some (.lst us)) (hl : L1 m = some (.lst ts)) (hz : ts.length ≤ 100000)
    (hs : starEach [e] X.env = (false, eval e X.env) :: starEach [] X.env := by rfl) (hbase : attributeBase o "append" X.env (eval o X.env) = eval o X.env := by rfl)
    (hfew : ((backTo pos (starEach (e :: []) X.env)).all (fun x => !x.1) && (backToKw pos (keywordEach [] X.env)).all (fun x => x.1.isSome)
      && decide ((e :: []).length + ([] : List Keyword).length + (if ([] : List Keyword).isEmpty then 0 else 1) < 30)) = true := by rfl)
    (hline : (apos.endLine == pos.line) = true := by rfl) (hplain : (backTo pos (starEach [] X.env)).any (·.1) = false := by rfl) : Ev X (.Call (.Attribute o "append" apos) [e] [] pos) ρ L (.v N0) (updS L1 m (some (.lst (ts ++ [t])))) :=
  ev_append ho ha hl hl0 hz (fun h1 h2 => pe_bm PySem.F.plainAttrs_list PySem.F.slot_list_append PySem.F.type_list_append (fun p s σ H x xs v us Q I r1 r2 h => mt_append p s σ H x xs v us Q I r1 r2 h) h1 h2 hbase hfew hline hs hplain) hs
/-- a field read, the class's facts over the written part -/
theorem efl {o : Expr} {f : Str} {C : Addr} {ns : List Str} (ct : Cq cm CX P w K mg base k N sc fs X) (cl : Cls K C) (hn : NoAttr K C f) (ho : Ev X o ρ L (.v t) L1) (hi : InsT L1 t C ns us) (hl : (ns.zip us).lookup f = some u) (hb : attributeBase o f X.env (eval o X.env) = eval o X.env := by rfl) : Ev X (.Attribute o f pos) ρ L (.v u) L1 :=
  ev_fld (by rw [ct.hK]; exact cl) (by rw [ct.hK]; exact hn) ho hi hl hb
/-! defs with keywords, in the parameters' order -/
structure DefK (CX : CXT) (P : Program) (w : World) (K : PySem.W.Frag) (mg : Str → Option Value) (base : Heap) (j : Nat) (x : Str) (ps : List Str) (n : Nat) (ks : List Str) (Rl : Rel) : Prop where
  ex : ∃ f fd, FnT P w K mg base CX j f fd ps Rl ∧ mg x = some (.ref f) ∧ PySem.W.keepIn K (.ref f) = true ∧ KBn K fd ps n ks (fun us ws => us ++ ws) (fun vs zs => vs ++ zs)
theorem eck {ps ks : List Str} {Rl : Rel} {j n : Nat} {r : R} {kws : List Keyword} {zs : List T} (ct : Cq true CX P w K mg base k N sc fs X) (D : DefK CX P w K mg base j x ps n ks Rl) (ha : EvA X (e :: es) ρ L ts L1) (hkw : EvK X kws ρ L1 zs Lb) (h : Rl (ts ++ zs) Lb r Lc) (hn : ts.length = n := by rfl) (hn2 : zs.length = ks.length := by rfl) (hj : j ≤ k := by decide) (hg : glOk sc x = true := by decide +kernel)
    (hall : (backToKw pos (keywordEach kws X.env)).all (·.1.isSome) = true := by rfl) (hks : (backToKw pos (keywordEach kws X.env)).filterMap (·.1) = ks := by rfl)
    (he : starEach (e :: es) X.env = (false, eval e X.env) :: starEach es X.env := by first | with_reducible exact se1 | with_reducible exact se2 | with_reducible exact se3 | with_reducible exact se4 | with_reducible exact se5 | with_reducible exact se6 | with_reducible exact se7 | with_reducible exact se8 | with_reducible exact se9 | rfl)
    (hpl : ((backTo pos (starEach (e :: es) X.env)).any (·.1) || (backToKw pos (keywordEach kws X.env)).any (·.1.isNone)) = false := by rfl) : Ev X (.Call (.Name x p) (e :: es) kws pos) ρ L r Lc := by
  obtain ⟨f, fd, F, hm, hk, hb⟩ := D.ex
  exact ev_callK (fun ts zs => ts ++ zs) ct F hj hm hk hb (fun W H vs us h1 h2 => h1.append h2) hn hn2 hg ha hkw h hall hks he hpl
/-- a class that is made by an __init__ with keywords in order -/
structure MakK (CX : CXT) (P : Program) (w : World) (K : PySem.W.Frag) (mg : Str → Option Value) (base : Heap) (j : Nat) (x : Str) (C : Addr) (ps : List Str) (n : Nat) (ks : List Str) (Rl : Rel) : Prop where
  ex : ∃ f fd, FnT P w K mg base CX j f fd ps Rl ∧ mg x = some (.ref C) ∧ Mk K C f ∧ KBn K fd ps (n + 1) ks (fun us ws => us ++ ws) (fun vs zs => vs ++ zs)
theorem emk {C : Addr} {ps ks : List Str} {Rl : Rel} {j n : Nat} {ns : List Str} {kws : List Keyword} {zs : List T} (ct : Cq true CX P w K mg base k N sc fs X) (D : MakK CX P w K mg base j x C ps n ks Rl) (ha : EvA X (e :: es) ρ L ts L1) (hkw : EvK X kws ρ L1 zs Lb)
    (h : ∀ n, Lb n = none → ∃ Lz, Rl (.cel n :: (ts ++ zs)) (updS Lb n (some (.ins C [] []))) (.v N0) Lz ∧ Lz n = some (.ins C ns us) ∧ (∀ m t, Lc m = some t → Lz m = some t) ∧ Lc n = none)
    (hn : ts.length = n := by rfl) (hn2 : zs.length = ks.length := by rfl) (hj : j + 1 ≤ k := by decide) (hg : glOk sc x = true := by decide +kernel)
    (hall : (backToKw pos (keywordEach kws X.env)).all (·.1.isSome) = true := by rfl) (hks : (backToKw pos (keywordEach kws X.env)).filterMap (·.1) = ks := by rfl)
    (he : starEach (e :: es) X.env = (false, eval e X.env) :: starEach es X.env := by first | with_reducible exact se1 | with_reducible exact se2 | with_reducible exact se3 | with_reducible exact se4 | with_reducible exact se5 | with_reducible exact se6 | with_reducible exact se7 | with_reducible exact se8 | with_reducible exact se9 | rfl)
    (hpl : ((backTo pos (starEach (e :: es) X.env)).any (·.1) || (backToKw pos (keywordEach kws X.env)).any (·.1.isNone)) = false := by rfl) : Ev X (.Call (.Name x p) (e :: es) kws pos) ρ L (.n (.ins C ns us)) Lc := by
  obtain ⟨f, fd, F, hm, M, hb⟩ := D.ex
  exact ev_makeK (g0 := fun us ws => us ++ ws) (gV0 := fun vs zs => vs ++ zs) (fun ts zs => ts ++ zs) ct M F hj hm hb (fun _ _ _ => rfl) (fun _ _ _ => rfl) (fun h1 h2 => h1.append h2) (fun W H vs us h1 h2 => h1.append h2) hn hn2 hg ha hkw h hall hks he hpl
/-- a def of the text, as it stands behind the top -/
def Raw (K : PySem.W.Frag) (mg : Str → Option Value) (x : Str) (st : Stmt) : Prop := ∃ f fd, Fun K x x st f fd ∧ mg x = some (.ref f)
theorem Raw.def {st : Stmt} {ps : List Str} {j : Nat} {Rl : Rel} (F : Raw K mg x st) (S : FnScope N ps (defScope st)) (hcx : ∀ (st : List Env) (H : Hp) (s : Shared) (e : Value) (s' : Shared), CX st H s E0 e s' → False)
    (hb : ∀ (kV doc pm : Value) (an : Option Addr) (cdv ct : Value) (us : List Value), us.length = ps.length → bindArgs (PySem.W.fnOf x x (defArgs st) (defBody st) (defScope st) .none kV doc pm an cdv ct) ⟨us, []⟩ = pure (ps.zip us))
    (len : ∀ ts L r L', Rl ts L r L' → ts.length = ps.length)
    (hbody : ∀ (X : Cx), Ct CX P w K mg base j N (defScope st) (fun _ => true) X → PassesOwn (model X.prog X.w) X.A X.env X.xe → ∀ ts L r L', Rl ts L r L' → WS X (defBody st) (startT N ts) L (fnK L r L')) : DefT CX P w K mg base (j + 1) x ps Rl := by
  obtain ⟨f, fd, F, hm⟩ := F
  exact ⟨f, fd, okT F S hcx len hbody, hm, F.kp, F.binds hb⟩
theorem Raw.defK {st : Stmt} {ps ks : List Str} {j n : Nat} {Rl : Rel} (F : Raw K mg x st) (S : FnScope N ps (defScope st)) (hcx : ∀ (st : List Env) (H : Hp) (s : Shared) (e : Value) (s' : Shared), CX st H s E0 e s' → False)
    (hb : ∀ (kV doc pm : Value) (an : Option Addr) (cdv ct : Value) (us ws : List Value), us.length = n → ws.length = ks.length → bindArgs (PySem.W.fnOf x x (defArgs st) (defBody st) (defScope st) .none kV doc pm an cdv ct) ⟨us, ks.zip ws⟩ = pure (ps.zip (us ++ ws)))
    (len : ∀ ts L r L', Rl ts L r L' → ts.length = ps.length)
    (hbody : ∀ (X : Cx), Ct CX P w K mg base j N (defScope st) (fun _ => true) X → PassesOwn (model X.prog X.w) X.A X.env X.xe → ∀ ts L r L', Rl ts L r L' → WS X (defBody st) (startT N ts) L (fnK L r L')) : DefK CX P w K mg base (j + 1) x ps n ks Rl := by
  obtain ⟨f, fd, F, hm⟩ := F
  obtain ⟨oc, od, kV, doc, pm, an, cdv, cty, osl, rfl, lk, hcd⟩ := F.ex
  exact ⟨f, _, fn_T lk hcd S hcx len hbody, hm, F.kp, ⟨fun s us ws _ l1 l2 => .of_eq (hb kV doc pm an cdv cty us ws l1 l2), fun h1 h2 => h1.append h2⟩⟩
end
end TL


/-! The tree layer, part H: the text's defs as data, the end of a row. -/
namespace TL
open PySem PySem.Spec PyProof.Rows L2

section
variable {cm : Bool} {CX : CXT} {P : Program} {w : World} {K : PySem.W.Frag} {mg : Str → Option Value} {base : Heap} {k : Nat} {N : List Str} {sc : Scope} {fs : Str → Bool} {X : Cx}
variable {e a b c tg iter elt : Expr} {es ifs : List Expr} {ρ ρ' ρ1 : TEnv} {L L1 Lb Lc : Store} {t u : T} {ts us : List T} {pos p : Pos} {i j : Int} {x : Str} {z : R}

theorem ev_fdivW (ha : Ev X a ρ L (.v (I i)) L1) (hb : Ev X b ρ L1 (.v (I j)) Lb) (h : CDivW i j) : Ev X (.BinOp a .FloorDiv b pos) ρ L (.v (I (i / j))) Lb := ev_bin op_fdivW ha hb (ot_I h)
theorem eb_truI (h : Ev X e ρ L (.v (I i)) L1) (he : ∀ whole, isTrue e X.env whole = (do let v ← whole; standAt e.pos; holding [v] (truthy v)) := by intro _; rfl) : EvB X e ρ L (i != 0) L1 := by
  refine ⟨fun W H σ Q s en q => ?_⟩
  refine wp_pt (pt_truth pe_wp he) ?_
  refine h W H σ _ s en fun x W1 H1 st1 s1 r1 => ?_
  cases r1
  exact ⟨_, rfl, q W1 H1 st1 s1⟩
theorem eb_truL (h : Ev X e ρ L (.v t) L1) (hl : LstT L1 t ts) (he : ∀ whole, isTrue e X.env whole = (do let v ← whole; standAt e.pos; holding [v] (truthy v)) := by intro _; rfl) : EvB X e ρ L (!ts.isEmpty) L1 := by
  refine ⟨fun W H σ Q s en q => ?_⟩
  refine wp_pt (pt_truth pe_wp he) ?_
  refine h W H σ _ s en fun x W1 H1 st1 s1 r1 => ?_
  obtain ⟨l, vs, rfl, hq, rr⟩ := lst_sq s1 r1 hl
  refine ⟨_, .inl ⟨vs, hq, rfl⟩, ?_⟩
  have e : vs.isEmpty = ts.isEmpty := by
    have := rr.length
    cases vs <;> cases ts <;> simp_all
  rw [e]
  exact q W1 H1 st1 s1
theorem ei_eq (h : EvI X tg iter ρ L ts L1) (e : ts = us) : EvI X tg iter ρ L us L1 := e ▸ h
/-- no exception leaves, of any context -/
abbrev Calm0 (CX : CXT) : Prop := ∀ (st : List Env) (H : Hp) (s : Shared) (e : Value) (s' : Shared), CX st H s E0 e s' → False
/-- a def of the module: what the head tells of it -/
structure Fd (K : PySem.W.Frag) (mg : Str → Option Value) (x : Str) (st : Stmt) (kws : List (Str × V)) : Prop where
  ex : ∃ f fd, FunD K x x (defArgs st) (defBody st) (defScope st) [] kws f fd ∧ mg x = some (.ref f)
abbrev Bd0 (x : Str) (st : Stmt) (ps : List Str) : Prop := ∀ (kV doc pm : Value) (an : Option Addr) (cdv ct : Value) (us : List Value), us.length = ps.length → bindArgs (PySem.W.fnOf x x (defArgs st) (defBody st) (defScope st) .none kV doc pm an cdv ct) ⟨us, []⟩ = pure (ps.zip us)
abbrev BdK (x : Str) (st : Stmt) (ps : List Str) (n : Nat) (ks : List Str) : Prop := ∀ (kV doc pm : Value) (an : Option Addr) (cdv ct : Value) (us ws : List Value), us.length = n → ws.length = ks.length → bindArgs (PySem.W.fnOf x x (defArgs st) (defBody st) (defScope st) .none kV doc pm an cdv ct) ⟨us, ks.zip ws⟩ = pure (ps.zip (us ++ ws))
abbrev LenR (Rl : Rel) (n : Nat) : Prop := ∀ ts L r L', Rl ts L r L' → ts.length = n
abbrev Bdy (CX : CXT) (P : Program) (w : World) (K : PySem.W.Frag) (mg : Str → Option Value) (base : Heap) (j : Nat) (N : List Str) (st : Stmt) (Rl : Rel) : Prop :=
  ∀ (X : Cx), Ct CX P w K mg base j N (defScope st) (fun _ => true) X → PassesOwn (model X.prog X.w) X.A X.env X.xe → ∀ ts L r L', Rl ts L r L' → WS X (defBody st) (startT N ts) L (fnK L r L')
theorem Fd.def {st : Stmt} {ps : List Str} {j : Nat} {Rl : Rel} (F : Fd K mg x st []) (S : FnScope N ps (defScope st)) (hcx : Calm0 CX) (hb : Bd0 x st ps) (len : LenR Rl ps.length) (hbody : Bdy CX P w K mg base j N st Rl) : DefT CX P w K mg base (j + 1) x ps Rl := by
  obtain ⟨f, fd, F, hm⟩ := F.ex
  exact ⟨f, fd, okTD F S hcx len hbody, hm, F.kp, F.bindsN hb⟩
theorem Fd.defK {st : Stmt} {kws : List (Str × V)} {ps ks : List Str} {j n : Nat} {Rl : Rel} (F : Fd K mg x st kws) (S : FnScope N ps (defScope st)) (hcx : Calm0 CX) (hb : BdK x st ps n ks) (len : LenR Rl ps.length) (hbody : Bdy CX P w K mg base j N st Rl) : DefK CX P w K mg base (j + 1) x ps n ks Rl := by
  obtain ⟨f, fd, F, hm⟩ := F.ex
  refine ⟨f, fd, okTD F S hcx len hbody, hm, F.kp, ?_⟩
  obtain ⟨oc, od, dV, kV, doc, pm, an, cdv, cty, osl, rfl, lk, hcd, hD, hK⟩ := F.ex
  rcases hD with ⟨_, rfl⟩ | ⟨e, _⟩
  · exact ⟨fun s us ws _ l1 l2 => .of_eq (hb kV doc pm an cdv cty us ws l1 l2), fun h1 h2 => h1.append h2⟩
  · exact absurd rfl e
/-- a method of the class x of the module -/
structure Md (K : PySem.W.Frag) (mg : Str → Option Value) (x m q : Str) (st : Stmt) (kws : List (Str × V)) : Prop where
  ex : ∃ C f fd, FunD K m q (defArgs st) (defBody st) (defScope st) [] kws f fd ∧ mg x = some (.ref C) ∧ Meth K C m f
abbrev Bm0 (m q : Str) (st : Stmt) (ps : List Str) : Prop := ∀ (kV doc pm : Value) (an : Option Addr) (cdv ct : Value) (us : List Value), us.length = ps.length → bindArgs (PySem.W.fnOf m q (defArgs st) (defBody st) (defScope st) .none kV doc pm an cdv ct) ⟨us, []⟩ = pure (ps.zip us)
abbrev BmK (m q : Str) (st : Stmt) (ps : List Str) (n : Nat) (ks : List Str) : Prop := ∀ (kV doc pm : Value) (an : Option Addr) (cdv ct : Value) (us ws : List Value), us.length = n → ws.length = ks.length → bindArgs (PySem.W.fnOf m q (defArgs st) (defBody st) (defScope st) .none kV doc pm an cdv ct) ⟨us, ks.zip ws⟩ = pure (ps.zip (us ++ ws))
theorem Md.met {C : Addr} {m q : Str} {st : Stmt} {ps : List Str} {j : Nat} {Rl : Rel} (F : Md K mg x m q st []) (hC : mg x = some (.ref C)) (S : FnScope N ps (defScope st)) (hcx : Calm0 CX) (hb : Bm0 m q st ps) (len : LenR Rl ps.length) (hbody : Bdy CX P w K mg base j N st Rl) : MetT CX P w K mg base (j + 1) C m ps Rl := by
  obtain ⟨C', f, fd, F, hm, M⟩ := F.ex
  have e := hC.symm.trans hm
  cases e
  exact ⟨f, fd, okTD F S hcx len hbody, M, F.bindsN hb⟩
/-- a class whose __init__ takes keywords -/
structure Mi (K : PySem.W.Frag) (mg : Str → Option Value) (x q : Str) (st : Stmt) (kws : List (Str × V)) : Prop where
  ex : ∃ C f fd, FunD K "__init__" q (defArgs st) (defBody st) (defScope st) [] kws f fd ∧ mg x = some (.ref C) ∧ Mk K C f
theorem Mi.makK {C : Addr} {q : Str} {st : Stmt} {kws : List (Str × V)} {ps ks : List Str} {j n : Nat} {Rl : Rel} (F : Mi K mg x q st kws) (hC : mg x = some (.ref C)) (S : FnScope N ps (defScope st)) (hcx : Calm0 CX) (hb : BmK "__init__" q st ps (n + 1) ks) (len : LenR Rl ps.length) (hbody : Bdy CX P w K mg base j N st Rl) : MakK CX P w K mg base (j + 1) x C ps n ks Rl := by
  obtain ⟨C', f, fd, F, hm, M⟩ := F.ex
  have e := hC.symm.trans hm
  cases e
  refine ⟨f, fd, okTD F S hcx len hbody, hm, M, ?_⟩
  obtain ⟨oc, od, dV, kV, doc, pm, an, cdv, cty, osl, rfl, lk, hcd, hD, hK⟩ := F.ex
  rcases hD with ⟨_, rfl⟩ | ⟨e, _⟩
  · exact ⟨fun s us ws _ l1 l2 => .of_eq (hb kV doc pm an cdv cty us ws l1 l2), fun h1 h2 => h1.append h2⟩
  · exact absurd rfl e
/-- a store into a field of a cell that is an instance, by place -/
theorem putF_new {f : Str} {y : V} : ∀ {ns : List Str} {vs : List V}, ns.length = vs.length → f ∉ ns → putF f y (ns.zip vs) = (ns ++ [f]).zip (vs ++ [y])
  | [], [], _, _ => rfl
  | n :: ns, v :: vs, h, hf => by
    have h1 : f ≠ n := fun e => hf (by rw [e]; exact List.mem_cons_self)
    have h2 : f ∉ ns := fun e => hf (List.mem_cons_of_mem _ e)
    have ih := putF_new (f := f) (y := y) (ns := ns) (vs := vs) (Nat.succ.inj h) h2
    show putF f y ((n, v) :: ns.zip vs) = (n, v) :: (ns ++ [f]).zip (vs ++ [y])
    rw [← ih]
    simp [putF, h1, Ne.symm h1]
/-- o.f = e, a field that is new -/
theorem wfld {C : Addr} {f : Str} {p' : Pos} {m : Nat} {ns : List Str} {o : Expr} {rest : List Stmt} {kk : TK} (ct : Cq cm CX P w K mg base k N sc fs X) (cl : Cls K C) (hn : NoAttr K C f) (he : Ev X e ρ L (.v t) L1) (ho : Ev X o ρ L1 (.v (.cel m)) L1) (hl : L1 m = some (.ins C ns ts))
    (h : WS X rest ρ (updS L1 m (some (.ins C (ns ++ [f]) (ts ++ [t])))) kk) (hlen : ns.length = ts.length := by rfl) (hf : f ∉ ns := by decide) (hz : ns.length < 100 := by decide) (hs : swapsWith e (some (.Attribute o f p')) pos.line X.env = pure false := by rfl) : WS X (.Assign [.Attribute o f p'] e pos :: rest) ρ L kk :=
  ws_fld (by rw [ct.hK]; exact cl) (by rw [ct.hK]; exact hn) he ho hl hz hlen (fun vs hv y => ⟨vs ++ [y], putF_new hv.symm hf, by simp [hv], fun W H r1 r2 => r1.append (.cons r2 .nil)⟩) h hs
/-! the end of a row, the head's facts as data -/
theorem walk_TE {l : PySem.W.OpenLaw} {j : Nat} {q : Program} {loose : List Str} {XP : (Str → Option Value) → Heap → Prop} {YP : World → Heap → Prop} {d : DefRec} {CX : World → CXT} {y : Str} (hn : l.most = some 63) (hdf : d.params.defaults = []) (hr : Room j callerA)
    (hcx : ∀ w : World, Calm0 (CX w))
    (F : ∀ (w : World) (mg : Str → Option Value) (fa : Addr) (h : Heap), YP w h → h.Ns mainGlobals mg → mg d.name = some (.ref fa) → ∃ (K : PySem.W.Frag) (fd : FuncData), K.In h ∧ (∀ (s : Shared) (u : Value), BindsTo s fd ⟨[u], []⟩ [(y, u)]) ∧
      ∀ base : Heap, K.In base → base.Ns mainGlobals mg → FnT l.prog w K mg base (CX w) j fa fd [y] lawRel) : PySem.W.WalkO q loose XP YP l.row.toRowW d [] (fun f vs => PySem.call f vs) := by
  refine Att.attach_call hn hdf fun w s₀ s1 mg mb fa o pm cd doc a vs ns G Y ho hd hcd hmg hobj hints hlen hg => ?_
  obtain ⟨K, fd, KX, hb, hF⟩ := F w mg fa _ Y G.T.g hmg
  exact law_T KX G.T.g G.T.b G.T.builtins G.T.nolimit hg hobj hints hlen hr (hcx w) hF hb
/-- the law's def, from its body -/
theorem Fd.law {st : Stmt} {j : Nat} {y : Str} {fa : Addr} (F : Fd K mg x st []) (hx : mg x = some (.ref fa)) (S : FnScope N [y] (defScope st)) (hcx : Calm0 CX) (hb : Bd0 x st [y]) (hbody : ∀ base : Heap, K.In base → base.Ns mainGlobals mg → Bdy CX P w K mg base j N st lawRel) :
    ∃ fd : FuncData, (∀ (s : Shared) (u : Value), BindsTo s fd ⟨[u], []⟩ [(y, u)]) ∧ ∀ base : Heap, K.In base → base.Ns mainGlobals mg → FnT P w K mg base CX (j + 1) fa fd [y] lawRel := by
  obtain ⟨f, fd, F, hm⟩ := F.ex
  have e := hx.symm.trans hm
  cases e
  exact ⟨fd, fun s u => F.bindsA hb s [u] rfl, fun base h1 h2 => okTD F S hcx (fun ts L r L' h => by obtain ⟨ns, rfl, _⟩ := h; rfl) (hbody base h1 h2)⟩
end
end TL


/-! Towns as trees. -/
namespace TL
open PySem PySem.Spec PyProof.Rows L2

/-- a street: from a to b, of rhythm r, night n -/
structure Lane where
  a : Int
  b : Int
  r : Int
  n : Int
deriving DecidableEq
def tLane (l : Lane) : T := .tup [I l.a, I l.b, I l.r, I l.n]
structure Lane.Ok (m : Int) (l : Lane) : Prop where
  a1 : 1 ≤ l.a
  a2 : l.a ≤ m
  b1 : 1 ≤ l.b
  b2 : l.b ≤ m
  ne : l.a ≠ l.b
  r1 : 1 ≤ l.r
  r2 : l.r ≤ 6
structure Tw where
  n : Int
  st : List Lane
  wd : List (Int × Int)
  bd : List Int
deriving DecidableEq
abbrev twNs : List Str := ["many", "lanes", "wides", "beds"]
abbrev tTw (C : Addr) (t : Tw) : T := .ins C twNs [I t.n, .tup (t.st.map tLane), .tup (t.wd.map tPair), .tup (t.bd.map I)]
/-- pairs that may be told: each of two places, the lesser first, each once -/
structure PairsOk (m : Int) (ps : List (Int × Int)) : Prop where
  ok : ∀ p ∈ ps, 1 ≤ p.1 ∧ p.1 ≤ m ∧ 1 ≤ p.2 ∧ p.2 ≤ m ∧ p.1 < p.2
  nd : ps.Nodup
structure InnsOk (m : Int) (ps : List Int) : Prop where
  ok : ∀ p ∈ ps, 1 ≤ p ∧ p ≤ m
  nd : ps.Nodup
structure PartsOk (t : Tw) : Prop where
  n1 : 1 ≤ t.n
  n8 : t.n ≤ 8
  st : ∀ l ∈ t.st, l.Ok t.n
  s12 : t.st.length ≤ 12
  wd : PairsOk t.n t.wd
  bd : InnsOk t.n t.bd
/-- the town made of the parts -/
def Tw.made (t : Tw) : Tw := ⟨t.n, t.st, sortP t.wd, sortI t.bd⟩
theorem nodup_len {α : Type} [DecidableEq α] : ∀ {l m : List α}, l.Nodup → (∀ x ∈ l, x ∈ m) → l.length ≤ m.length
  | [], _, _, _ => Nat.zero_le _
  | x :: l, m, h, hs => by
    have h1 := (List.nodup_cons.mp h)
    have h2 := nodup_len (l := l) (m := m.erase x) h1.2 fun y hy => by
      have hne : y ≠ x := fun e => h1.1 (e ▸ hy)
      exact (List.mem_erase_of_ne hne).mpr (hs y (List.mem_cons_of_mem _ hy))
    have hx := hs x List.mem_cons_self
    have h3 := List.length_erase_of_mem hx
    have h4 : 0 < m.length := List.length_pos_of_mem hx
    rw [List.length_cons]
    omega
theorem pairs_len {m : Int} {ps : List (Int × Int)} (h : PairsOk m ps) (h8 : m ≤ 8) : ps.length ≤ 64 := by
  refine Nat.le_trans (nodup_len (m := (rangeT 1 8).flatMap fun i => (rangeT 1 8).map fun j => (i, j)) h.nd fun p hp => ?_) (by decide)
  obtain ⟨h1, h2, h3, h4, _⟩ := h.ok p hp
  rw [List.mem_flatMap]
  refine ⟨p.1, mem_rangeT.mpr ⟨h1, by omega⟩, ?_⟩
  rw [List.mem_map]
  exact ⟨p.2, mem_rangeT.mpr ⟨h3, by omega⟩, rfl⟩
theorem inns_len {m : Int} {ps : List Int} (h : InnsOk m ps) (h8 : m ≤ 8) : ps.length ≤ 8 := by
  refine Nat.le_trans (nodup_len (m := rangeT 1 8) h.nd fun p hp => ?_) (by decide)
  obtain ⟨h1, h2⟩ := h.ok p hp
  exact mem_rangeT.mpr ⟨h1, by omega⟩
/-! a value as a thing of a def -/
def isIntT : T → Bool
  | .v (.int _) => true
  | _ => false
/-! shapes of what the town is made of -/
theorem pd_I (i : Int) : pd (I i) = some (.int i) := by unfold pd pdV; rfl
theorem pdL_map {α : Type} {f : α → T} {g : α → PyData} (h : ∀ a, pd (f a) = some (g a)) : ∀ l : List α, pdL (l.map f) = some (l.map g)
  | [] => by unfold pdL; rfl
  | a :: l => by
    rw [List.map_cons]; unfold pdL
    rw [h a, pdL_map h l]; rfl
theorem pd_tup {ts : List T} {ds : List PyData} (h : pdL ts = some ds) : pd (.tup ts) = some (.tuple ds) := by unfold pd; rw [h]; rfl
theorem pd_lstL {ts : List T} {ds : List PyData} (h : pdL ts = some ds) : pd (.lst ts) = some (.list ds) := by unfold pd; rw [h]; rfl
def dPair (p : Int × Int) : PyData := .tuple [.int p.1, .int p.2]
def dLane (l : Lane) : PyData := .tuple [.int l.a, .int l.b, .int l.r, .int l.n]
theorem pd_pair (p : Int × Int) : pd (tPair p) = some (dPair p) := pd_tup (by unfold pdL; rw [pd_I]; unfold pdL; rw [pd_I]; unfold pdL; rfl)
theorem pd_lane (l : Lane) : pd (tLane l) = some (dLane l) := pd_tup (by unfold pdL; rw [pd_I]; unfold pdL; rw [pd_I]; unfold pdL; rw [pd_I]; unfold pdL; rw [pd_I]; unfold pdL; rfl)
end TL


/-! What the defs about towns promise. -/
namespace TL
open PySem PySem.Spec PyProof.Rows L2
theorem isA_known {t : T} (h : (tyN t).isSome = true) (n : String) (hn : n = "int" ∨ n = "bool" ∨ n = "tuple" ∨ n = "list") : ∀ m, tyN t = some m → (kitB m n).isSome = true := by
  intro m hm
  have key : ∀ m ∈ ["NoneType", "bool", "int", "str", "list", "tuple"], ∀ n ∈ ["int", "bool", "tuple", "list"], (kitB m n).isSome = true := by decide +kernel
  refine key m ?_ n (by rcases hn with rfl | rfl | rfl | rfl <;> decide)
  cases t with
  | v x => cases x <;> simp [tyN] at hm <;> subst hm <;> decide
  | lst _ => simp [tyN] at hm; subst hm; decide
  | tup _ => simp [tyN] at hm; subst hm; decide
  | _ => simp [tyN] at hm
def wholeT (t : T) (lo hi : Int) : Bool := match t with
  | .v (.int i) => decide (lo ≤ i) && decide (i ≤ hi)
  | _ => false
def isTupT : T → Bool
  | .tup _ => true
  | _ => false
def isLstT : T → Bool
  | .lst _ => true
  | _ => false
theorem isA_of {t : T} {m n : String} {z : Bool} (h : tyN t = some m) (k : kitB m n = some z) : isA n t = z := by
  unfold isA; rw [h]; simp [k]
theorem isA_any {t : T} (h : (tyN t).isSome = true) : (isA "int" t && !isA "bool" t) = isIntT t := by
  cases t with
  | v x =>
    cases x with
    | non => rw [isA_of (t := .v .non) (m := "NoneType") rfl (z := false) (by decide +kernel)]; rfl
    | bl b => rw [isA_of (t := .v (.bl b)) (m := "bool") rfl (z := true) (by decide +kernel), isA_of (t := .v (.bl b)) (m := "bool") rfl (z := true) (by decide +kernel)]; rfl
    | int i => rw [isA_of (t := .v (.int i)) (m := "int") rfl (z := true) (by decide +kernel), isA_of (t := .v (.int i)) (m := "int") rfl (z := false) (by decide +kernel)]; rfl
    | str i => rw [isA_of (t := .v (.str i)) (m := "str") rfl (z := false) (by decide +kernel)]; rfl
    | _ => simp [tyN] at h
  | lst l => rw [isA_of (t := .lst l) (m := "list") rfl (z := false) (by decide +kernel)]; rfl
  | tup l => rw [isA_of (t := .tup l) (m := "tuple") rfl (z := false) (by decide +kernel)]; rfl
  | _ => simp [tyN] at h
theorem isA_tup {t : T} (h : (tyN t).isSome = true) : isA "tuple" t = isTupT t := by
  cases t with
  | v x =>
    cases x with
    | non => rw [isA_of (t := .v .non) (m := "NoneType") rfl (z := false) (by decide +kernel)]; rfl
    | bl b => rw [isA_of (t := .v (.bl b)) (m := "bool") rfl (z := false) (by decide +kernel)]; rfl
    | int i => rw [isA_of (t := .v (.int i)) (m := "int") rfl (z := false) (by decide +kernel)]; rfl
    | str i => rw [isA_of (t := .v (.str i)) (m := "str") rfl (z := false) (by decide +kernel)]; rfl
    | _ => simp [tyN] at h
  | lst l => rw [isA_of (t := .lst l) (m := "list") rfl (z := false) (by decide +kernel)]; rfl
  | tup l => rw [isA_of (t := .tup l) (m := "tuple") rfl (z := true) (by decide +kernel)]; rfl
  | _ => simp [tyN] at h
theorem isA_lst {t : T} (h : (tyN t).isSome = true) : isA "list" t = isLstT t := by
  cases t with
  | v x =>
    cases x with
    | non => rw [isA_of (t := .v .non) (m := "NoneType") rfl (z := false) (by decide +kernel)]; rfl
    | bl b => rw [isA_of (t := .v (.bl b)) (m := "bool") rfl (z := false) (by decide +kernel)]; rfl
    | int i => rw [isA_of (t := .v (.int i)) (m := "int") rfl (z := false) (by decide +kernel)]; rfl
    | str i => rw [isA_of (t := .v (.str i)) (m := "str") rfl (z := false) (by decide +kernel)]; rfl
    | _ => simp [tyN] at h
  | lst l => rw [isA_of (t := .lst l) (m := "list") rfl (z := true) (by decide +kernel)]; rfl
  | tup l => rw [isA_of (t := .tup l) (m := "tuple") rfl (z := false) (by decide +kernel)]; rfl
  | _ => simp [tyN] at h
/-- a def that looks at trees and gives a value, the store as it was -/
def Pure (n : Nat) (f : List T → Option T) : Rel := fun ts L r L' => ts.length = n ∧ ∃ u, f ts = some u ∧ r = .v u ∧ L' = L
def R_is_any : Rel := fun ts L r L' => ∃ t, ts = [t] ∧ (tyN t).isSome = true ∧ r = .v (B (isIntT t)) ∧ L' = L
def R_is_whole : Rel := fun ts L r L' => ∃ t lo hi, ts = [t, I lo, I hi] ∧ (tyN t).isSome = true ∧ r = .v (B (wholeT t lo hi)) ∧ L' = L
def laneB (m : Int) (l : Lane) : Bool := decide (1 ≤ l.a) && decide (l.a ≤ m) && (decide (1 ≤ l.b) && decide (l.b ≤ m)) && !decide (l.a = l.b) && (decide (1 ≤ l.r) && decide (l.r ≤ 6))
theorem laneB_ok {m : Int} {l : Lane} : laneB m l = true ↔ l.Ok m := by
  unfold laneB
  simp only [Bool.and_eq_true, decide_eq_true_eq, Bool.not_eq_true', decide_eq_false_iff_not]
  constructor
  · rintro ⟨⟨⟨⟨h1, h2⟩, h3, h4⟩, h5⟩, h6, h7⟩; exact ⟨h1, h2, h3, h4, h5, h6, h7⟩
  · rintro ⟨h1, h2, h3, h4, h5, h6, h7⟩; exact ⟨⟨⟨⟨h1, h2⟩, h3, h4⟩, h5⟩, h6, h7⟩
def pairB (m : Int) (p : Int × Int) : Bool := ((decide (1 ≤ p.1) && decide (p.1 ≤ m)) && (decide (1 ≤ p.2) && decide (p.2 ≤ m))) && decide (p.1 < p.2)
def R_is_street : Rel := fun ts L r L' => ∃ l m, ts = [tLane l, I m] ∧ r = .v (B (laneB m l)) ∧ L' = L
def R_is_pair : Rel := fun ts L r L' => ∃ p m, ts = [tPair p, I m] ∧ r = .v (B (pairB m p)) ∧ L' = L
def R_check_streets : Rel := fun ts L r L' => ∃ (ls : List Lane) (m : Int), ts = [.lst (ls.map tLane), I m] ∧ (∀ l ∈ ls, l.Ok m) ∧ ls.length ≤ 12 ∧ r = .v N0 ∧ L' = L
def R_check_broad : Rel := fun ts L r L' => ∃ (ps : List (Int × Int)) (m : Int), ts = [.lst (ps.map tPair), I m] ∧ PairsOk m ps ∧ r = .v N0 ∧ L' = L
def R_check_inns : Rel := fun ts L r L' => ∃ (ps : List Int) (m : Int), ts = [.lst (ps.map I), I m] ∧ InnsOk m ps ∧ r = .v N0 ∧ L' = L
def R_init (C : Addr) : Rel := fun ts L r L' => ∃ (n : Nat) (t : Tw) (b i : T), ts = [.cel n, I t.n, .lst (t.st.map tLane), b, i] ∧ PartsOk t ∧ (b = .lst (t.wd.map tPair) ∨ b = N0 ∧ t.wd = []) ∧ (i = .lst (t.bd.map I) ∨ i = N0 ∧ t.bd = []) ∧
  L n = some (.ins C [] []) ∧ r = .v N0 ∧ L' = updS L n (some (tTw C t.made))
def R_streets (C : Addr) : Rel := fun ts L r L' => ∃ (t : Tw), ts = [tTw C t] ∧ r = .n (.lst (t.st.map tLane)) ∧ L' = L
def R_broad (C : Addr) : Rel := fun ts L r L' => ∃ (t : Tw), ts = [tTw C t] ∧ r = .n (.lst (t.wd.map tPair)) ∧ L' = L
def R_inns (C : Addr) : Rel := fun ts L r L' => ∃ (t : Tw), ts = [tTw C t] ∧ r = .n (.lst (t.bd.map I)) ∧ L' = L
def R_count (C : Addr) : Rel := fun ts L r L' => ∃ (t : Tw), ts = [tTw C t] ∧ r = .v (I t.n) ∧ L' = L
def R_street_of (C : Addr) : Rel := fun ts L r L' => ∃ (t : Tw) (i : Int) (l : Lane), ts = [tTw C t, I i] ∧ 0 ≤ i ∧ t.st[i.toNat]? = some l ∧ t.st.length ≤ 12 ∧ r = .v (tLane l) ∧ L' = L
def turnsB (l : Lane) (d : Int) : Bool := decide ((d - l.n) % l.r = 0)
def R_turns_on (C : Addr) : Rel := fun ts L r L' => ∃ (t : Tw) (i : Int) (l : Lane) (d : Int), ts = [tTw C t, I i, I d] ∧ 0 ≤ i ∧ t.st[i.toNat]? = some l ∧ t.st.length ≤ 12 ∧ 0 < l.r ∧ r = .v (B (turnsB l d)) ∧ L' = L
/-! shapes -/
structure Sh (t : T) (d : PyData) (k : Nat) : Prop where
  e : pd t = some d
  c : d.canLay0 = true
  z : d.depth ≤ k
theorem Sh.shp {t : T} {d : PyData} {k : Nat} (h : Sh t d k) (hk : k ≤ 64 := by decide) : shp t = true := by
  unfold TL.shp
  rw [h.e]
  show (d.canLay0 && decide (d.depth ≤ 64)) = true
  rw [h.c, decide_eq_true (Nat.le_trans h.z hk)]; rfl
theorem Sh.eqT {t u : T} {d e : PyData} {k l : Nat} (h : Sh t d k) (g : Sh u e l) : eqT t u = PyData.eqv d e := by
  unfold TL.eqT
  rw [h.e, g.e]
theorem Sh.refl {t : T} {d : PyData} {k : Nat} (h : Sh t d k) : TL.eqT t t = true := by
  rw [h.eqT h]; exact SeqAt.eqv_refl d h.c
theorem sh_I (i : Int) : Sh (I i) (.int i) 0 := ⟨pd_I i, rfl, Nat.zero_le _⟩
theorem sh_B (b : Bool) : Sh (B b) (.bool b) 0 := ⟨by unfold pd pdV; rfl, rfl, Nat.zero_le _⟩
theorem sh_N : Sh N0 .none 0 := ⟨by unfold pd pdV; rfl, rfl, Nat.zero_le _⟩
/-- many -/
structure ShL (ts : List T) (ds : List PyData) (k : Nat) : Prop where
  e : pdL ts = some ds
  c : PyData.canLayAll0 ds = true
  z : PyData.depthAll ds ≤ k
theorem shl_nil {k : Nat} : ShL [] [] k := ⟨by unfold pdL; rfl, rfl, Nat.zero_le _⟩
theorem shl_cons {t : T} {ts : List T} {d : PyData} {ds : List PyData} {k l : Nat} (h : Sh t d l) (g : ShL ts ds k) (hk : l ≤ k := by decide) : ShL (t :: ts) (d :: ds) k := by
  refine ⟨by unfold pdL; rw [h.e, g.e], ?_, ?_⟩
  · show (d.canLay0 && PyData.canLayAll0 ds) = true
    rw [h.c, g.c]; rfl
  · show max d.depth (PyData.depthAll ds) ≤ k
    have := h.z; have := g.z; omega
theorem shl_map {α : Type} {f : α → T} {g : α → PyData} {k : Nat} (h : ∀ a, Sh (f a) (g a) k) : ∀ l : List α, ShL (l.map f) (l.map g) k
  | [] => shl_nil
  | a :: l => shl_cons (h a) (shl_map h l) (Nat.le_refl _)
theorem sh_tup {ts : List T} {ds : List PyData} {k : Nat} (h : ShL ts ds k) : Sh (.tup ts) (.tuple ds) (k + 1) := ⟨pd_tup h.e, h.c, Nat.succ_le_succ h.z⟩
theorem sh_lst {ts : List T} {ds : List PyData} {k : Nat} (h : ShL ts ds k) : Sh (.lst ts) (.list ds) (k + 1) := ⟨pd_lstL h.e, h.c, Nat.succ_le_succ h.z⟩
theorem sh_pair (p : Int × Int) : Sh (tPair p) (dPair p) 1 := sh_tup (shl_cons (sh_I _) (shl_cons (sh_I _) shl_nil))
theorem sh_lane (l : Lane) : Sh (tLane l) (dLane l) 1 := sh_tup (shl_cons (sh_I _) (shl_cons (sh_I _) (shl_cons (sh_I _) (shl_cons (sh_I _) shl_nil))))
theorem sh_pairs (ps : List (Int × Int)) : Sh (.lst (ps.map tPair)) (.list (ps.map dPair)) 2 := sh_lst (shl_map sh_pair ps)
theorem sh_ints (ps : List Int) : Sh (.lst (ps.map I)) (.list (ps.map .int)) 1 := sh_lst (shl_map sh_I ps)
theorem eqv_int (i j : Int) : PyData.eqv (.int i) (.int j) = decide (i = j) := by
  by_cases h : i = j
  · subst h; simp [PyData.eqv]
  · simp [PyData.eqv, h]
theorem eqT_I (i j : Int) : eqT (I i) (I j) = decide (i = j) := by rw [(sh_I i).eqT (sh_I j), eqv_int]
theorem eqT_pair (p q : Int × Int) : eqT (tPair p) (tPair q) = decide (p = q) := by
  rw [(sh_pair p).eqT (sh_pair q)]
  obtain ⟨p1, p2⟩ := p
  obtain ⟨q1, q2⟩ := q
  simp only [dPair, PyData.eqv, PyData.eqvAll, Bool.and_true, Prod.mk.injEq]
  by_cases h1 : p1 = q1 <;> by_cases h2 : p2 = q2 <;> simp [h1, h2]
theorem eqT_lane (p q : Lane) : eqT (tLane p) (tLane q) = decide (p = q) := by
  rw [(sh_lane p).eqT (sh_lane q)]
  obtain ⟨p1, p2, p3, p4⟩ := p
  obtain ⟨q1, q2, q3, q4⟩ := q
  simp only [dLane, PyData.eqv, PyData.eqvAll, Bool.and_true, Lane.mk.injEq]
  by_cases h1 : p1 = q1 <;> by_cases h2 : p2 = q2 <;> by_cases h3 : p3 = q3 <;> by_cases h4 : p4 = q4 <;> simp [h1, h2, h3, h4]
theorem eqvAll_map {α : Type} [DecidableEq α] {g : α → PyData} (h : ∀ a b, PyData.eqv (g a) (g b) = decide (a = b)) : ∀ l m : List α, PyData.eqvAll (l.map g) (m.map g) = decide (l = m)
  | [], [] => by simp [PyData.eqvAll]
  | [], _ :: _ => by simp [PyData.eqvAll]
  | _ :: _, [] => by simp [PyData.eqvAll]
  | a :: l, b :: m => by
    rw [List.map_cons, List.map_cons, PyData.eqvAll, h, eqvAll_map h l m]
    by_cases h1 : a = b <;> by_cases h2 : l = m <;> simp [h1, h2]
theorem inT_map {α : Type} [DecidableEq α] {f : α → T} (h : ∀ a b, eqT (f a) (f b) = decide (a = b)) (a : α) (l : List α) : inT (f a) (.lst (l.map f)) = decide (a ∈ l) := by
  show (l.map f).any (fun y => eqT y (f a)) = _
  rw [List.any_map]
  induction l with
  | nil => simp
  | cons b l ih =>
    rw [List.any_cons, ih]
    simp only [Function.comp, h]
    by_cases e : b = a
    · simp [e]
    · simp [e, Ne.symm e]
/-- the first items are left out of those behind -/
theorem not_in_take {α : Type} {l : List α} {n : Nat} {a : α} (hn : l.Nodup) (h : l[n]? = some a) : a ∉ l.take n := by
  intro hm
  obtain ⟨i, hi, e⟩ := List.mem_iff_getElem.mp hm
  rw [List.getElem_take] at e
  obtain ⟨hl, e2⟩ := List.getElem?_eq_some_iff.mp h
  rw [List.length_take] at hi
  have := (List.getElem_inj hn).mp (e.trans e2.symm)
  omega
theorem cutT_map {α β : Type} (f : α → β) (l : List α) (lo hi : Option Int) : cutT (l.map f) lo hi = (cutT l lo hi).map f := by
  unfold cutT
  rw [List.length_map, ← List.map_drop, ← List.map_take]
theorem atI_map {α β : Type} {f : α → β} {l : List α} {i : Int} {a : α} (h0 : 0 ≤ i) (h : l[i.toNat]? = some a) : atI (l.map f) i = some (f a) := by
  obtain ⟨n, rfl⟩ := Int.eq_ofNat_of_zero_le h0
  rw [Int.toNat_natCast] at h
  have hlt := (List.getElem?_eq_some_iff.mp h).1
  unfold atI
  have e : ixN (l.map f).length (n : Int) = some n := by
    unfold ixN
    rw [List.length_map, if_pos (by omega), if_pos (by omega)]
    simp
  rw [e]
  show (l.map f)[n]? = _
  rw [List.getElem?_map, h]; rfl
theorem cutT_take {α : Type} {l : List α} {n : Nat} (h : n ≤ l.length) : cutT l none (some (n : Int)) = l.take n := by
  unfold cutT
  rw [HT.sIx_none, HT.sIx_nat]
  simp [Nat.min_eq_left h]
/-- a def that writes a cell of its caller -/
theorem exit_upd {L L1 : Store} {r : R} {n : Nat} {t0 t : T} (h : L n = some t0) (e : L1 = updS L n (some t)) : Exit L r L1 r (updS L n (some t)) := by
  subst e
  refine ⟨fun m u hm => ⟨hm, ?_⟩, .inl rfl⟩
  by_cases hmn : m = n
  · rw [hmn]; exact ⟨t0, h⟩
  · rw [updS_ne hmn] at hm; exact ⟨u, hm⟩
end TL


/-! Home nights: what the defs promise, and the numbers behind. -/
namespace TL
open PySem PySem.Spec PyProof.Rows L2
theorem least_of {p : Nat → Prop} (h : ∃ n, p n) : ∃ n, p n ∧ ∀ m, m < n → ¬ p m := by
  obtain ⟨n, hn⟩ := h
  induction n using Nat.strongRecOn with
  | ind n ih =>
    by_cases q : ∃ m, m < n ∧ p m
    · obtain ⟨m, h1, h2⟩ := q; exact ih m h1 h2
    · exact ⟨n, hn, fun m h1 h2 => q ⟨m, h1, h2⟩⟩
def R_common_part : Rel := fun ts L r L' => ∃ a b : Nat, ts = [I a, I b] ∧ r = .v (I (Nat.gcd a b)) ∧ L' = L
def nvB (h l : Lane) : Bool := !decide ((h.n - l.n) % ((Nat.gcd h.r.toNat l.r.toNat : Nat) : Int) = 0)
def L00 : Lane := ⟨1, 2, 1, 0⟩
def tornB (st : List Lane) (i j : Nat) : Bool := nvB (st.getD i L00) (st.getD j L00)
def FirstO (b : Nat → Nat → Bool) (n : Nat) : Option (Nat × Nat) → Prop
  | none => ∀ i j, i < j → j < n → b i j = false
  | some (i, j) => i < j ∧ j < n ∧ b i j = true ∧ (∀ k, i < k → k < j → b i k = false) ∧ (∀ k m, k < i → k < m → m < n → b k m = false)
theorem firstO_ex (b : Nat → Nat → Bool) (n : Nat) : ∃ o, FirstO b n o := by
  by_cases h : ∃ i, ∃ j, i < j ∧ j < n ∧ b i j = true
  · obtain ⟨i, h1, h2⟩ := least_of h
    obtain ⟨j, ⟨h3, h4, h5⟩, h6⟩ := least_of h1
    refine ⟨some (i, j), h3, h4, h5, fun k k1 k2 => ?_, fun k m k1 k2 k3 => ?_⟩
    · cases e : b i k with
      | false => rfl
      | true => exact absurd ⟨k1, by omega, e⟩ (h6 k k2)
    · cases e : b k m with
      | false => rfl
      | true => exact absurd ⟨m, k2, k3, e⟩ (h2 k k1)
  · refine ⟨none, fun i j h1 h2 => ?_⟩
    cases e : b i j with
    | false => rfl
    | true => exact absurd ⟨i, j, h1, h2, e⟩ h
theorem firstO_uniq {b : Nat → Nat → Bool} {n : Nat} : ∀ {o o' : Option (Nat × Nat)}, FirstO b n o → FirstO b n o' → o = o'
  | none, none, _, _ => rfl
  | none, some (i, j), h, ⟨h1, h2, h3, _⟩ => by rw [h i j h1 h2] at h3; cases h3
  | some (i, j), none, ⟨h1, h2, h3, _⟩, h => by rw [h i j h1 h2] at h3; cases h3
  | some (i, j), some (k, m), ⟨a1, a2, a3, a4, a5⟩, ⟨b1, b2, b3, b4, b5⟩ => by
    have e1 : i = k := by
      rcases Nat.lt_trichotomy i k with h | h | h
      · rw [b5 i j h a1 a2] at a3; cases a3
      · exact h
      · rw [a5 k m h b1 b2] at b3; cases b3
    subst e1
    have e2 : j = m := by
      rcases Nat.lt_trichotomy j m with h | h | h
      · rw [b4 j a1 h] at a3; cases a3
      · exact h
      · rw [a4 m b1 h] at b3; cases b3
    rw [e2]
theorem firstO_congr {b c : Nat → Nat → Bool} {n : Nat} (h : ∀ i j, i < j → j < n → b i j = c i j) : ∀ {o : Option (Nat × Nat)}, FirstO b n o → FirstO c n o
  | none, f => fun i j h1 h2 => by rw [← h i j h1 h2]; exact f i j h1 h2
  | some (i, j), ⟨a1, a2, a3, a4, a5⟩ => ⟨a1, a2, by rw [← h i j a1 a2]; exact a3, fun k k1 k2 => by rw [← h i k k1 (by omega)]; exact a4 k k1 k2, fun k m k1 k2 k3 => by rw [← h k m k2 k3]; exact a5 k m k1 k2 k3⟩
def tO : Option (Nat × Nat) → T
  | none => N0
  | some (i, j) => .tup [I i, I j]
def StOk (st : List Lane) : Prop := st.length ≤ 12 ∧ ∀ l ∈ st, 1 ≤ l.r ∧ l.r ≤ 6
/-- the least number that all rhythms part -/
def lcmL (st : List Lane) : Nat := st.foldl (fun f l => Nat.lcm f l.r.toNat) 1
theorem foldl_lcm_dvd : ∀ (st : List Lane) (f : Nat), f ∣ st.foldl (fun f l => Nat.lcm f l.r.toNat) f
  | [], f => Nat.dvd_refl f
  | l :: st, f => Nat.dvd_trans (Nat.dvd_lcm_left f _) (foldl_lcm_dvd st _)
theorem foldl_lcm_mem : ∀ (st : List Lane) (f : Nat) (l : Lane), l ∈ st → l.r.toNat ∣ st.foldl (fun f l => Nat.lcm f l.r.toNat) f
  | m :: st, f, l, h => by
    rcases List.mem_cons.mp h with rfl | h
    · exact Nat.dvd_trans (Nat.dvd_lcm_right f _) (foldl_lcm_dvd st _)
    · exact foldl_lcm_mem st _ l h
theorem foldl_lcm_least : ∀ (st : List Lane) (f m : Nat), f ∣ m → (∀ l ∈ st, l.r.toNat ∣ m) → st.foldl (fun f l => Nat.lcm f l.r.toNat) f ∣ m
  | [], f, m, h, _ => h
  | l :: st, f, m, h, h2 => foldl_lcm_least st _ m (Nat.lcm_dvd h (h2 l List.mem_cons_self)) fun x hx => h2 x (List.mem_cons_of_mem _ hx)
theorem lcmL_mem {st : List Lane} {l : Lane} (h : l ∈ st) : l.r.toNat ∣ lcmL st := foldl_lcm_mem st 1 l h
theorem lcmL_least {st : List Lane} {m : Nat} (h : ∀ l ∈ st, l.r.toNat ∣ m) : lcmL st ∣ m := foldl_lcm_least st 1 m (Nat.one_dvd m) h
theorem r_60 {r : Int} (h1 : 1 ≤ r) (h2 : r ≤ 6) : r.toNat ∣ 60 := by
  have : r.toNat = 1 ∨ r.toNat = 2 ∨ r.toNat = 3 ∨ r.toNat = 4 ∨ r.toNat = 5 ∨ r.toNat = 6 := by omega
  rcases this with h | h | h | h | h | h <;> rw [h] <;> decide
theorem lcmL_60 {st : List Lane} (h : StOk st) : lcmL st ∣ 60 := lcmL_least fun l hl => r_60 (h.2 l hl).1 (h.2 l hl).2
theorem lcmL_pos {st : List Lane} (h : StOk st) : 0 < lcmL st := Nat.pos_of_dvd_of_pos (lcmL_60 h) (by decide)
theorem lcmL_le {st : List Lane} (h : StOk st) : lcmL st ≤ 60 := Nat.le_of_dvd (by decide) (lcmL_60 h)
theorem lcmL_snoc (st : List Lane) (l : Lane) : lcmL (st ++ [l]) = Nat.lcm (lcmL st) l.r.toNat := by
  unfold lcmL; rw [List.foldl_append]; rfl
def R_least_common (C : Addr) : Rel := fun ts L r L' => ∃ t : Tw, ts = [tTw C t] ∧ StOk t.st ∧ r = .v (I (lcmL t.st)) ∧ L' = L
def R_never_both (C : Addr) : Rel := fun ts L r L' => ∃ (t : Tw) (i j : Nat) (h l : Lane), ts = [tTw C t, I i, I j] ∧ StOk t.st ∧ t.st[i]? = some h ∧ t.st[j]? = some l ∧ r = .v (B (nvB h l)) ∧ L' = L
def R_torn_pair (C : Addr) : Rel := fun ts L r L' => ∃ (t : Tw) (o : Option (Nat × Nat)), ts = [tTw C t] ∧ StOk t.st ∧ FirstO (tornB t.st) t.st.length o ∧ r = .v (tO o) ∧ L' = L
def homeB (st : List Lane) (d : Int) : Bool := st.all fun l => turnsB l d
def R_is_home (C : Addr) : Rel := fun ts L r L' => ∃ (t : Tw) (d : Int), ts = [tTw C t, I d] ∧ StOk t.st ∧ r = .v (B (homeB t.st d)) ∧ L' = L
def homesL (st : List Lane) : List Int := (rangeT 0 (lcmL st)).filter (homeB st)
def R_home (C : Addr) : Rel := fun ts L r L' => ∃ (t : Tw) (o : Option (Nat × Nat)), ts = [tTw C t] ∧ StOk t.st ∧ FirstO (tornB t.st) t.st.length o ∧ L' = L ∧
  match o with
  | some (i, j) => r = .v (.tup [S "never", I i, I j])
  | none => ∃ d ds, homesL t.st = d :: ds ∧ r = .v (.tup [S "nights", I d, I (lcmL t.st)])
def atB (st : List Lane) (g : Lane → Bool) (i : Int) : Bool := match st[i.toNat]? with
  | some l => g l
  | none => true
theorem atB_all {st : List Lane} (g : Lane → Bool) : ((rangeT 0 st.length).all (atB st g)) = st.all g := by
  unfold rangeT atB
  rw [List.all_map]
  apply Bool.eq_iff_iff.mpr
  rw [List.all_eq_true, List.all_eq_true]
  constructor
  · intro h l hl
    obtain ⟨i, hi, e⟩ := List.mem_iff_getElem.mp hl
    have := h i (List.mem_range.mpr hi)
    simpa [List.getElem?_eq_getElem hi, e] using this
  · intro h i hi
    have hi := List.mem_range.mp hi
    simpa [List.getElem?_eq_getElem hi] using h _ (List.getElem_mem hi)
theorem rangeT_get' {lo : Int} {n i : Nat} {x : T} (h : ((rangeT lo n).map I)[i]? = some x) : i < n ∧ x = I (lo + i) := by
  rw [List.getElem?_map] at h
  cases q : (rangeT lo n)[i]? with
  | none => rw [q] at h; cases h
  | some y =>
    rw [q] at h
    obtain ⟨h1, h2⟩ := rangeT_get q
    exact ⟨h1, by rw [← h2]; exact (Option.some.inj h).symm⟩
theorem len_range {lo : Int} {n : Nat} : ((rangeT lo n).map I).length = n := by rw [List.length_map, length_rangeT]
end TL


/-! The laws' wells: numbers drawn of a cell of the script. -/
namespace TL
open PySem PySem.Spec PyProof.Rows L2
structure W3 where
  a : Int
  c : Int
  k : Int
abbrev tW (w : W3) : T := .lst [I w.a, I w.c, I w.k]
structure W3.Ok (w : W3) (b : Nat) : Prop where
  a : 0 ≤ w.a
  k : 0 ≤ w.k
  b : w.k ≤ b
def num1 (w : W3) : Int := (w.c % 2147483629 + 7919 * (w.k + 1) + w.c / 2147483629 % 65521 + 1) ^ 5 % 2147483647
def num2 (w : W3) : Int := num1 w * (num1 w / 1009 + 69621 + (w.k + 1)) % 2147483629
def num3 (w : W3) : Int := num2 w * (num2 w / 2003 + 40692) % 2147483399
def drV (w : W3) (s : Int) : Int := if 0 < w.a then w.a % s else num3 w % s
def drW (w : W3) (s : Int) : W3 := if 0 < w.a then ⟨w.a / s, w.c, w.k⟩ else ⟨w.a, w.c, w.k + 1⟩
theorem drV_ge {w : W3} {s : Int} (h : 0 < s) : 0 ≤ drV w s := by
  unfold drV; split <;> exact Int.emod_nonneg _ (by omega)
theorem drV_lt {w : W3} {s : Int} (h : 0 < s) : drV w s < s := by
  unfold drV; split <;> exact Int.emod_lt_of_pos _ h
theorem drW_ok {w : W3} {s : Int} {b : Nat} (h : w.Ok b) (hs : 0 < s) : (drW w s).Ok (b + 1) := by
  obtain ⟨h1, h2, h3⟩ := h
  unfold drW; split
  · exact ⟨Int.ediv_nonneg h1 (by omega), h2, by show w.k ≤ _; omega⟩
  · exact ⟨h1, by show 0 ≤ w.k + 1; omega, by show w.k + 1 ≤ _; omega⟩
theorem W3.Ok.mono {w : W3} {b c : Nat} (h : w.Ok b) (hb : b ≤ c) : w.Ok c := ⟨h.a, h.k, by have := h.b; omega⟩
def R_draw : Rel := fun ts L r L' => ∃ (n : Nat) (w : W3) (s : Int) (b : Nat), ts = [.cel n, I s] ∧ L n = some (tW w) ∧ w.Ok b ∧ b < 1000000 ∧ 0 < s ∧ s < 1000000 ∧ r = .v (I (drV w s)) ∧ L' = updS L n (some (tW (drW w s)))
def oneV (w : W3) (xs : List T) : T := xs.getD (drV w xs.length).toNat N0
def R_one : Rel := fun ts L r L' => ∃ (n : Nat) (w : W3) (xs : List T) (b : Nat), ts = [.cel n, .lst xs] ∧ L n = some (tW w) ∧ w.Ok b ∧ b < 1000000 ∧ 0 < xs.length ∧ xs.length < 1000 ∧ r = .v (oneV w xs) ∧ L' = updS L n (some (tW (drW w xs.length)))
def well0 (c : Int) : W3 := ⟨if 10 ^ 18 ≤ c then c else 0, c, 0⟩
theorem well0_ok (c : Int) : (well0 c).Ok 0 := by
  refine ⟨?_, Int.le_refl _, Int.le_refl _⟩
  show 0 ≤ (if (10 : Int) ^ 18 ≤ c then c else 0)
  split <;> omega
def R_well : Rel := fun ts L r L' => ∃ c : Int, ts = [I c] ∧ r = .n (tW (well0 c)) ∧ L' = L
def oneI (w : W3) (xs : List Int) : Int := xs.getD (drV w xs.length).toNat 0
theorem one_lt {w : W3} {n : Nat} (h : 0 < n) : (drV w n).toNat < n := by
  have h1 := drV_ge (w := w) (s := (n : Int)) (by omega)
  have h2 := drV_lt (w := w) (s := (n : Int)) (by omega)
  omega
theorem oneV_I {w : W3} {xs : List Int} (h : 0 < xs.length) : oneV w (xs.map I) = I (oneI w xs) := by
  unfold oneV oneI
  rw [List.length_map]
  have h1 := one_lt (w := w) h
  rw [List.getD_eq_getElem?_getD, List.getD_eq_getElem?_getD, List.getElem?_map, List.getElem?_eq_getElem h1]
  rfl
theorem oneI_mem {w : W3} {xs : List Int} (h : 0 < xs.length) : oneI w xs ∈ xs := by
  unfold oneI
  have h1 := one_lt (w := w) h
  rw [List.getD_eq_getElem?_getD, List.getElem?_eq_getElem h1]
  exact List.getElem_mem h1
/-- streets -/
def fars : List Int := [0, 0, 1, -1, 7, -10 ^ 57]
def lane1 (m : Int) (rh : List Int) (once : Bool) (base : Int) (w : W3) : Lane × W3 :=
  let w1 := drW w m
  let w2 := drW w1 (m - 1)
  let w3 := drW w2 rh.length
  let w4 := drW w3 (fars.length : Int)
  (⟨1 + drV w m, (1 + drV w m + drV w1 (m - 1)) % m + 1, oneI w2 rh, (if once = true then base else drV w4 60) + oneI w2 rh * oneI w3 fars⟩, drW w4 60)
def lanesF (m : Int) (rh : List Int) (once : Bool) (base : Int) (w : W3) : Nat → List Lane × W3
  | 0 => ([], w)
  | k + 1 => ((lanesF m rh once base w k).1 ++ [(lane1 m rh once base (lanesF m rh once base w k).2).1], (lane1 m rh once base (lanesF m rh once base w k).2).2)
def stsN (m most : Int) (w : W3) : Nat := (drV (drW w 60) (most + 1) * (if (decide (1 < m)) = true then 1 else 0)).toNat
def stsF (m most : Int) (rh : List Int) (once : Bool) (w : W3) : List Lane × W3 := lanesF m rh once (drV w 60) (drW (drW w 60) (most + 1)) (stsN m most w)
def RhOk (rh : List Int) : Prop := 0 < rh.length ∧ rh.length ≤ 6 ∧ ∀ r ∈ rh, 1 ≤ r ∧ r ≤ 6
theorem lane1_ok {m : Int} {rh : List Int} {once : Bool} {base : Int} {w : W3} (h2 : 2 ≤ m) (hr : RhOk rh) : (lane1 m rh once base w).1.Ok m := by
  have a1 := drV_ge (w := w) (s := m) (by omega)
  have a2 := drV_lt (w := w) (s := m) (by omega)
  have b1 := drV_ge (w := drW w m) (s := m - 1) (by omega)
  have b2 := drV_lt (w := drW w m) (s := m - 1) (by omega)
  have r1 := hr.2.2 _ (oneI_mem (w := drW (drW w m) (m - 1)) hr.1)
  have e1 := Int.emod_nonneg (1 + drV w m + drV (drW w m) (m - 1)) (b := m) (by omega)
  have e2 := Int.emod_lt_of_pos (1 + drV w m + drV (drW w m) (m - 1)) (b := m) (by omega)
  refine ⟨by show 1 ≤ 1 + drV w m; omega, by show 1 + drV w m ≤ m; omega, by show 1 ≤ _ % m + 1; omega, by show _ % m + 1 ≤ m; omega, ?_, r1.1, r1.2⟩
  show 1 + drV w m ≠ (1 + drV w m + drV (drW w m) (m - 1)) % m + 1
  intro h
  generalize drV w m = x at *
  generalize drV (drW w m) (m - 1) = y at *
  by_cases hc : 1 + x + y < m
  · rw [Int.emod_eq_of_lt (by omega) hc] at h; omega
  · have e3 : (1 + x + y) % m = 1 + x + y - m := by
      rw [← Int.sub_emod_right, Int.emod_eq_of_lt (by omega) (by omega)]
    rw [e3] at h; omega
theorem lane1_w {m : Int} {rh : List Int} {once : Bool} {base : Int} {w : W3} {b : Nat} (h2 : 2 ≤ m) (hr : RhOk rh) (hw : w.Ok b) : (lane1 m rh once base w).2.Ok (b + 5) := by
  have h0 := hr.1
  exact drW_ok (drW_ok (drW_ok (drW_ok (drW_ok hw (by omega)) (by omega)) (by omega)) (by decide)) (by decide)
theorem lanesF_ok {m : Int} {rh : List Int} {once : Bool} {base : Int} {w : W3} {b : Nat} (h2 : 2 ≤ m) (hr : RhOk rh) (hw : w.Ok b) : ∀ k : Nat, (∀ l ∈ (lanesF m rh once base w k).1, l.Ok m) ∧ (lanesF m rh once base w k).1.length = k ∧ (lanesF m rh once base w k).2.Ok (b + 5 * k)
  | 0 => ⟨fun l hl => (nomatch hl), rfl, hw⟩
  | k + 1 => by
    obtain ⟨h3, h4, h5⟩ := lanesF_ok (once := once) (base := base) h2 hr hw k
    refine ⟨fun l hl => ?_, ?_, ?_⟩
    · rcases List.mem_append.mp hl with hl | hl
      · exact h3 l hl
      · rw [List.mem_singleton.mp hl]; exact lane1_ok h2 hr
    · show ((lanesF m rh once base w k).1 ++ [_]).length = k + 1
      rw [List.length_append, h4]; rfl
    · exact (lane1_w (once := once) (base := base) h2 hr h5).mono (by omega)
theorem stsN_le {m most : Int} {w : W3} (h : 0 ≤ most) : stsN m most w ≤ most.toNat := by
  have a1 := drV_ge (w := drW w 60) (s := most + 1) (by omega)
  have a2 := drV_lt (w := drW w 60) (s := most + 1) (by omega)
  unfold stsN
  split <;> simp <;> omega
theorem stsF_ok {m most : Int} {rh : List Int} {once : Bool} {w : W3} {b : Nat} (hm : 1 ≤ m) (h0 : 0 ≤ most) (h12 : most ≤ 12) (hr : RhOk rh) (hw : w.Ok b) : (∀ l ∈ (stsF m most rh once w).1, l.Ok m) ∧ (stsF m most rh once w).1.length ≤ 12 ∧ (stsF m most rh once w).2.Ok (b + 62) := by
  have w2 := drW_ok (drW_ok hw (s := 60) (by decide)) (s := most + 1) (by omega)
  unfold stsF
  have hn := stsN_le (m := m) (w := w) h0
  by_cases h : 1 < m
  · obtain ⟨h1, h2, h3⟩ := lanesF_ok (once := once) (base := drV w 60) (m := m) (by omega) hr w2 (stsN m most w)
    exact ⟨h1, by rw [h2]; omega, h3.mono (by omega)⟩
  · have e : stsN m most w = 0 := by unfold stsN; simp [h]
    rw [e]
    exact ⟨fun l hl => (nomatch hl), Nat.zero_le _, W3.Ok.mono w2 (by omega)⟩
def R_sts : Rel := fun ts L r L' => ∃ (n : Nat) (w : W3) (b : Nat) (m most : Int) (rh : List Int) (once : Bool), ts = [.cel n, I m, I most, .lst (rh.map I), B once] ∧ L n = some (tW w) ∧ w.Ok b ∧ b < 900000 ∧ 1 ≤ m ∧ m ≤ 8 ∧ 0 ≤ most ∧ most ≤ 12 ∧ RhOk rh ∧
  r = .n (.lst ((stsF m most rh once w).1.map tLane)) ∧ L' = updS L n (some (tW (stsF m most rh once w).2))
/-- each kept where a drawn number is 0 -/
def drN (w : W3) (s : Int) : Nat → W3
  | 0 => w
  | k + 1 => drW (drN w s k) s
theorem drN_ok {w : W3} {s : Int} {b : Nat} (h : w.Ok b) (hs : 0 < s) : ∀ k : Nat, (drN w s k).Ok (b + k)
  | 0 => h
  | k + 1 => drW_ok (drN_ok h hs k) hs
def pickN {α : Type} (xs : List α) (s : Int) (w : W3) : Nat → List α
  | 0 => []
  | k + 1 => pickN xs s w k ++ (match xs[k]? with | some x => if drV (drN w s k) s = 0 then [x] else [] | none => [])
def pickL {α : Type} (xs : List α) (s : Int) (w : W3) : List α := pickN xs s w xs.length
theorem pick_made {α : Type} (xs : List α) (f : α → T) (s : Int) (w : W3) : ∀ n : Nat, made (fun i => decide (drV (drN w s i) s = 0)) (fun i => match xs[i]? with | some x => f x | none => N0) n = (pickN xs s w n).map f ∨ xs.length < n
  | 0 => .inl rfl
  | n + 1 => by
    by_cases hn : xs.length < n + 1
    · exact .inr hn
    · left
      have hx : xs[n]? = some xs[n] := List.getElem?_eq_getElem (by omega)
      have ih := (pick_made xs f s w n).resolve_right (by omega)
      by_cases h : drV (drN w s n) s = 0
      · rw [made_yes (by simp [h]), ih]
        simp [pickN, hx, h]
      · rw [made_no (by simp [h]), ih]
        simp [pickN, hx, h]
theorem pickN_sub {α : Type} (xs : List α) (s : Int) (w : W3) : ∀ n : Nat, (pickN xs s w n).Sublist (xs.take n)
  | 0 => List.Sublist.slnil.trans (List.nil_sublist _)
  | n + 1 => by
    rw [List.take_add_one]
    refine List.Sublist.append (pickN_sub xs s w n) ?_
    cases h : xs[n]? with
    | none => exact List.nil_sublist _
    | some x =>
      show (if _ then _ else _ : List α).Sublist _
      split
      · exact List.Sublist.refl _
      · exact List.nil_sublist _
theorem pickL_sub {α : Type} (xs : List α) (s : Int) (w : W3) : (pickL xs s w).Sublist xs := by
  have := pickN_sub xs s w xs.length
  rwa [List.take_length] at this
def pairsTo (m : Nat) : List (Int × Int) := (rangeT 2 m).flatMap fun q => (rangeT 1 (q - 1).toNat).map fun p => (p, q)
theorem pairsTo_succ (m : Nat) : pairsTo (m + 1) = pairsTo m ++ (rangeT 1 (m + 1)).map fun p => (p, (2 + m : Int)) := by
  unfold pairsTo
  have e : rangeT 2 (m + 1) = rangeT 2 m ++ [(2 + m : Int)] := by
    unfold rangeT; rw [List.range_succ, List.map_append]; rfl
  rw [e, List.flatMap_append]
  congr 1
  show (rangeT 1 (2 + (m : Int) - 1).toNat).map _ ++ [] = _
  rw [List.append_nil]
  congr 2
  omega
theorem pairsTo_mem {m : Nat} {p : Int × Int} (h : p ∈ pairsTo m) : 1 ≤ p.1 ∧ p.1 < p.2 ∧ p.2 ≤ m + 1 := by
  unfold pairsTo at h
  obtain ⟨q, h1, h2⟩ := List.mem_flatMap.mp h
  obtain ⟨x, h3, rfl⟩ := List.mem_map.mp h2
  have := mem_rangeT.mp h1
  have := mem_rangeT.mp h3
  exact ⟨by show 1 ≤ x; omega, by show x < q; omega, by show q ≤ _; omega⟩
theorem rangeT_nodup (lo : Int) (n : Nat) : (rangeT lo n).Nodup := by
  show List.Pairwise (· ≠ ·) ((List.range n).map _)
  rw [List.pairwise_map]
  exact (List.nodup_range (n := n)).imp fun {a b} h e => h (by omega)
theorem pairsTo_nodup : ∀ m : Nat, (pairsTo m).Nodup
  | 0 => List.nodup_nil
  | m + 1 => by
    rw [pairsTo_succ]
    refine List.nodup_append.mpr ⟨pairsTo_nodup m, ?_, ?_⟩
    · show List.Pairwise (· ≠ ·) ((rangeT 1 (m + 1)).map _)
      rw [List.pairwise_map]
      exact (rangeT_nodup 1 (m + 1)).imp fun {a b} h e => h (Prod.mk.inj e).1
    · intro a ha b hb e
      have h1 := pairsTo_mem ha
      obtain ⟨x, _, rfl⟩ := List.mem_map.mp hb
      rw [e] at h1
      have : (2 + (m : Int)) ≤ m + 1 := h1.2.2
      omega
theorem pairsTo_len {m : Nat} (h : m ≤ 7) : (pairsTo m).length ≤ 28 := by
  have : m = 0 ∨ m = 1 ∨ m = 2 ∨ m = 3 ∨ m = 4 ∨ m = 5 ∨ m = 6 ∨ m = 7 := by omega
  rcases this with h | h | h | h | h | h | h | h <;> subst h <;> decide +kernel
def tParts (t : Tw) : T := .tup [I t.n, .lst (t.st.map tLane), .lst (t.wd.map tPair), .lst (t.bd.map I)]
def oftens : List Int := [2, 5, 9]
/-- the parts of a town -/
def partsF (m most : Int) (rh : List Int) (w : W3) : Tw × W3 :=
  let q := stsF m most rh (decide (0 < drV w 4)) (drW w 4)
  let s := oneI q.2 oftens
  let w3 := drW q.2 (oftens.length : Int)
  let ps := pairsTo (m - 1).toNat
  let w4 := drN w3 (2 * s) ps.length
  (⟨m, q.1, pickL ps (2 * s) w3, pickL (rangeT 1 m.toNat) s w4⟩, drN w4 s m.toNat)
theorem oneI_oftens (w : W3) : oneI w oftens = 2 ∨ oneI w oftens = 5 ∨ oneI w oftens = 9 := by
  have := oneI_mem (w := w) (xs := oftens) (by decide)
  simpa [oftens] using this
theorem partsF_ok {m most : Int} {rh : List Int} {w : W3} {b : Nat} (h1 : 1 ≤ m) (h8 : m ≤ 8) (h0 : 0 ≤ most) (h12 : most ≤ 12) (hr : RhOk rh) (hw : w.Ok b) : PartsOk (partsF m most rh w).1 ∧ (partsF m most rh w).1.n = m ∧ (partsF m most rh w).2.Ok (b + 100) := by
  obtain ⟨s1, s2, s3⟩ := stsF_ok (m := m) (most := most) (rh := rh) (once := decide (0 < drV w 4)) h1 h0 h12 hr (drW_ok hw (s := 4) (by decide))
  have hl := pairsTo_len (m := (m - 1).toNat) (by omega)
  refine ⟨⟨h1, h8, s1, s2, ⟨fun p hp => ?_, (pairsTo_nodup _).sublist (pickL_sub _ _ _)⟩, ⟨fun p hp => ?_, (rangeT_nodup _ _).sublist (pickL_sub _ _ _)⟩⟩, rfl, ?_⟩
  · obtain ⟨a1, a2, a3⟩ := pairsTo_mem ((pickL_sub _ _ _).subset hp)
    exact ⟨a1, by show p.1 ≤ m; omega, by omega, by show p.2 ≤ m; omega, a2⟩
  · have := mem_rangeT.mp ((pickL_sub _ _ _).subset hp)
    exact ⟨this.1, by show p ≤ m; omega⟩
  · have ho := oneI_oftens (stsF m most rh (decide (0 < drV w 4)) (drW w 4)).2
    have hs : 0 < oneI (stsF m most rh (decide (0 < drV w 4)) (drW w 4)).2 oftens := by omega
    refine W3.Ok.mono (drN_ok (drN_ok (drW_ok s3 (by decide)) (by omega) _) hs _) ?_
    omega
def R_parts : Rel := fun ts L r L' => ∃ (n : Nat) (w : W3) (b : Nat) (m most : Int) (rh : List Int), ts = [.cel n, I m, I most, .lst (rh.map I)] ∧ L n = some (tW w) ∧ w.Ok b ∧ b < 800000 ∧ 1 ≤ m ∧ m ≤ 8 ∧ 0 ≤ most ∧ most ≤ 12 ∧ RhOk rh ∧
  r = .v (tParts (partsF m most rh w).1) ∧ L' = updS L n (some (tW (partsF m most rh w).2))
def R_made (C : Addr) : Rel := fun ts L r L' => ∃ t : Tw, ts = [tParts t] ∧ PartsOk t ∧ r = .n (tTw C t.made) ∧ L' = L
theorem updS_comm {L : Store} {n m : Nat} {x y : Option T} (h : n ≠ m) : updS (updS L n x) m y = updS (updS L m y) n x := by
  funext i
  unfold updS
  by_cases h1 : i = m
  · rw [if_pos h1, if_neg (fun e => h (e.symm.trans h1)), if_pos h1]
  · rw [if_neg h1]
    by_cases h2 : i = n
    · rw [if_pos h2, if_pos h2]
    · rw [if_neg h2, if_neg h2, if_neg h1]
/-- a def that makes a list as a cell, and writes a cell of its caller -/
theorem exit_cellU {L L1 : Store} {n c : Nat} {t0 F W : T} (hn : L n = some t0) (hc : L c = none) (e : L1 = updS (updS L c (some F)) n (some W)) : Exit L (.v (.cel c)) L1 (.n F) (updS L n (some W)) := by
  subst e
  have hne : n ≠ c := ne_of_live hn hc
  refine ⟨fun m u hm => ?_, .inr ⟨c, F, rfl, rfl, hc, by rw [updS_ne hne.symm, updS_same]⟩⟩
  by_cases hmn : m = n
  · rw [hmn] at hm ⊢
    rw [updS_same] at hm ⊢
    exact ⟨hm, _, hn⟩
  · rw [updS_ne hmn] at hm ⊢
    rw [updS_ne (ne_of_live hm hc)]
    exact ⟨hm, _, hm⟩
/-! comprehensions whose turns write the store -/
section
variable {CX : CXT} {P : Program} {w : World} {K : PySem.W.Frag} {mg : Str → Option Value} {base : Heap} {k : Nat} {N : List Str} {sc : Scope} {fs : Str → Bool} {X : Cx}
variable {tg iter elt : Expr} {ifs : List Expr} {ρ : TEnv} {L : Store} {pos : Pos} {x : Str}
theorem lcS {scope : Scope} {vs js : List Nat} {α : Type} {xs : List α} {f : α → T} {Lf : Nat → Store} {pf : Nat → Bool} {gf : α → T} {ρf : α → TEnv} (ct : Ct CX P w K mg base k N sc fs X) (hk : scope.kind = .function) (hz : xs.length ≤ 100000) (hjs : ∀ j ∈ js, j ∈ vs)
    (ht : ∀ i x, xs[i]? = some x → ∀ Y, Bk CX P w K mg base k N sc scope Y → TgT Y tg js (f x) (wipeT ρ vs) (ρf x) (Lf i)) (hc : ∀ i x, xs[i]? = some x → ∀ Y, Bk CX P w K mg base k N sc scope Y → EvC Y ifs (ρf x) (Lf i) (pf i) (Lf (i + 1)))
    (he : ∀ i x, xs[i]? = some x → pf i = true → ∀ Y, Bk CX P w K mg base k N sc scope Y → Ev Y elt (ρf x) (Lf (i + 1)) (.v (gf x)) (Lf (i + 1))) :
    LcT X tg elt ifs scope vs ρ (xs.map f) Lf pf (fun i => match xs[i]? with | some x => gf x | none => N0) where
  sz := by rw [List.length_map]; exact hz
  turn := fun i y hy => by
    rw [List.getElem?_map] at hy
    cases q : xs[i]? with
    | none => rw [q] at hy; cases hy
    | some x =>
      rw [q] at hy; cases hy
      refine ⟨js, ρf x, Lf (i + 1), hjs, fun s H C cl fp => ht i x q _ (ct.blk hk s H C cl fp), fun s H C cl fp => hc i x q _ (ct.blk hk s H C cl fp), fun hp s H C cl fp => ?_, fun _ => rfl⟩
      exact he i x q hp _ (ct.blk hk s H C cl fp)
/-- name = [x for x in xs if draw(well, s) == 0] on one line -/
theorem wpick {scope : Scope} {own : List (Str × Nat)} {js : List Nat} {α : Type} {xs : List α} {f : α → T} {ρf : α → TEnv} {p1 p' : Pos} {rest : List Stmt} {kk : TK} {m : Nat} {v : W3} {s : Int} (ct : Ct CX P w K mg base k N sc fs X) (n : Nat)
    (hi : EvI X tg iter ρ L (xs.map f) L) (hv : L m = some (tW v)) (hz : xs.length ≤ 100000)
    (ht : ∀ x ∈ xs, ∀ L Y, Bk CX P w K mg base k N sc scope Y → TgT Y tg js (f x) (wipeT ρ (own.map (·.2))) (ρf x) L)
    (hc : ∀ i x, xs[i]? = some x → ∀ Y, Bk CX P w K mg base k N sc scope Y → EvC Y ifs (ρf x) (updS L m (some (tW (drN v s i)))) (decide (drV (drN v s i) s = 0)) (updS (updS L m (some (tW (drN v s i)))) m (some (tW (drW (drN v s i) s)))))
    (he : ∀ x ∈ xs, ∀ L Y, Bk CX P w K mg base k N sc scope Y → Ev Y elt (ρf x) L (.v (f x)) L) (h : WS X rest (ρ.set n (some (.lst ((pickL xs s v).map f)))) (updS L m (some (tW (drN v s xs.length)))) kk)
    (hx : locOk N sc fs n x = true := by decide +kernel) (hxl : sc.names.lookup x = some .local := by decide +kernel) (ok : blkC N sc scope own = true := by decide +kernel) (hk : scope.kind = .function := by rfl) (hjs : ∀ j ∈ js, j ∈ own.map (·.2) := by decide)
    (hsw : (p'.line == p1.line) = true := by rfl) (ha : (scope.names.any fun (n, k) => n == x && (k == .local || k == .cell)) = false := by decide +kernel) (hs : ∀ x, foldedSetIterable iter X.env x = pure x := by intro _; rfl) : WS X (.Assign [.Name x p'] (.ListComp elt [⟨tg, iter, ifs, 0⟩] scope p1) pos :: rest) ρ L kk := by
  have e0 : updS L m (some (tW (drN v s 0))) = L := updS_self hv
  refine ws_setLc (Lf := fun i => updS L m (some (tW (drN v s i)))) ct n hx hxl ok (by rw [e0]; exact hi) (lcS (f := f) (pf := fun i => decide (drV (drN v s i) s = 0)) (gf := f) (ρf := ρf) ct hk hz hjs (fun i x q Y c => ht x (List.mem_of_getElem? q) _ Y c) (fun i x q Y c => ?_) (fun i x q _ Y c => he x (List.mem_of_getElem? q) _ Y c)) ?_ hsw ha hs
  · have := hc i x q Y c
    rw [updS_updS] at this
    exact this
  · rw [List.length_map, (pick_made xs f s v xs.length).resolve_right (Nat.lt_irrefl _)]
    exact h
end
end TL


/-! != of instances with an own __eq__. -/
namespace TL
open PySem PySem.Spec PyProof.Rows L2
/-- the class at C as the text left it: nothing above it but object, an own __eq__ at f, no __ne__ -/
def slotsB (sl : List (Option Value)) : Bool := match sl with
  | [_, _, _, _, some (.builtin _), _] => true
  | _ => false
def clsShapeB (C : Addr) (o : Obj) : Bool := match o with
  | ⟨.type n, _, .cls cd, sl⟩ => decide (n = "type") && (decide (cd.mro = [.ref C, .type "object"]) && ((!cd.hasDel) && slotsB sl.toList))
  | _ => false
def keyStrB (e : DictEntry) : Bool := match e.key with
  | .str _ _ => true
  | _ => false
def nsEqB (K : PySem.W.Frag) (N f : Addr) : Bool := match K.lookup N with
  | some ⟨_, _, .dict es _, _⟩ => es.toList.all keyStrB && (decide (nsFind es "__eq__" = some (.ref f)) && decide (nsFind es "__ne__" = none))
  | _ => false
def fnTyB (K : PySem.W.Frag) (f : Addr) : Bool := match K.lookup f with
  | some ⟨.type n, _, _, _⟩ => decide (n = "function")
  | _ => false
def ownEqB (K : PySem.W.Frag) (C f : Addr) : Bool := (match K.lookup C with
  | some o => clsShapeB C o && (match o.data with
    | .cls cd => nsEqB K cd.ns f
    | _ => false)
  | none => false) && fnTyB K f
theorem look_objEq : ∃ y, typeLookup (.type "object") ("__eq__" : Str) = pure y := by
  refine ⟨some (.builtin "object.__eq__"), ?_⟩
  rw [typeLookup_type, PySem.builtinLookup_eq_fast]
  kernel_rfl
theorem ownEq_of {K : PySem.W.Frag} {h : Heap} {x C f : Addr} {o : Obj} (X : K.In h) (hx : h.get? x = some o) (hc : o.cls = .ref C) (e : ownEqB K C f = true) : h.OwnEqNoNe x C f "object" [.type "object"] := by
  unfold ownEqB at e
  obtain ⟨e1, e2⟩ := Bool.and_eq_true_iff.mp e
  cases q : K.lookup C with
  | none => rw [q] at e1; cases e1
  | some oC =>
    rw [q] at e1
    obtain ⟨e3, e4⟩ := Bool.and_eq_true_iff.mp (show (clsShapeB C oC && _) = true from e1)
    obtain ⟨oc, od, dt, osl⟩ := oC
    cases dt with
    | cls cd =>
      cases oc with
      | type n =>
        have e5 : (decide (n = "type") && (decide (cd.mro = [.ref C, .type "object"]) && ((!cd.hasDel) && slotsB osl.toList))) = true := e3
        simp only [Bool.and_eq_true, decide_eq_true_eq, Bool.not_eq_true'] at e5
        obtain ⟨rfl, h2, h3, h4⟩ := e5
        obtain ⟨nm, bs, mro, N, qn, hdct, sn, sub, ab, col, hd⟩ := cd
        subst h2
        subst h3
        have e6 : nsEqB K N f = true := e4
        unfold nsEqB at e6
        cases qN : K.lookup N with
        | none => rw [qN] at e6; cases e6
        | some oN =>
          obtain ⟨nc, nd, ndt, nsl⟩ := oN
          rw [qN] at e6
          cases ndt with
          | dict es ep =>
            obtain ⟨k1, k2⟩ := Bool.and_eq_true_iff.mp (show (es.toList.all keyStrB && (decide (nsFind es "__eq__" = some (.ref f)) && decide (nsFind es "__ne__" = none))) = true from e6)
            obtain ⟨k3, k4⟩ := Bool.and_eq_true_iff.mp k2
            unfold fnTyB at e2
            cases qf : K.lookup f with
            | none => rw [qf] at e2; cases e2
            | some of =>
              obtain ⟨fc, fd, fdt, fsl⟩ := of
              rw [qf] at e2
              cases fc with
              | type m =>
                have hm : m = "function" := of_decide_eq_true e2
                subst hm
                obtain ⟨y, hy⟩ := look_objEq
                have hsl : ∃ k0 k1 k2 k3 id k5, osl = #[k0, k1, k2, k3, some (.builtin id), k5] := by
                  obtain ⟨l⟩ := osl
                  have h4' : slotsB l = true := h4
                  unfold slotsB at h4'
                  split at h4'
                  · exact ⟨_, _, _, _, _, _, rfl⟩
                  · cases h4'
                obtain ⟨k0, k1', k2', k3', id, k5, rfl⟩ := hsl
                refine ⟨o, ⟨.type "function", fd, fdt, fsl⟩, nm, qn, N, bs, hdct, sn, sub, ab, col, od, k0, k1', k2', k3', k5, id, nsFind es, y, hx, hc, X _ _ q, ⟨_, es, ep, X _ _ qN, rfl, fun e he => ?_, fun _ => rfl⟩, of_decide_eq_true k3, X _ _ qf, rfl, PySem.F.mro_object, hy, of_decide_eq_true k4⟩
                have := List.all_eq_true.mp k1 e (Array.mem_toList_iff.mpr he)
                unfold keyStrB at this
                split at this
                · rename_i n' t' q'
                  exact ⟨n', t', q'⟩
                · cases this
              | _ => cases e2
          | _ => cases e6
      | _ => cases e3
    | _ => cases e4
section
variable {cm : Bool} {CX : CXT} {P : Program} {w : World} {K : PySem.W.Frag} {mg : Str → Option Value} {base : Heap} {k : Nat} {N : List Str} {sc : Scope} {fs : Str → Bool} {X : Cx}
variable {a b : Expr} {ρ : TEnv} {L L1 Lb : Store} {t u : T} {pos : Pos}
/-- what is asked of two instances ahead of their own == -/
def rNeG (K : PySem.W.Frag) (C : Addr) (Rl : Rel) : R2 := fun x y H Q => ∃ a b dx dy fs gs, x = .ref a ∧ y = .ref b ∧ H a = some (.ins C dx fs) ∧ H b = some (.ins C dy gs) ∧ spT K Rl [x, y] H (fun v H' => ∃ z, v = .bl z ∧ Q (.bl (!z)) H') E0
theorem op_neG {C f : Addr} {fd : FuncData} {ps : List Str} {Rl : Rel} {j : Nat} (ct : Cq true CX P w K mg base k N sc fs X) (F : FnT P w K mg base CX j f fd ps Rl) (hj : j + 1 ≤ k) (hb : Binds K fd ps []) (hne : ownEqB K C f = true) : OpR X (compareOp .NotEq) (rNeG X.K C Rl) := by
  have hx := ct.pass
  have hr := (ct.room rfl).mono hj
  have gd := ct.gd
  obtain ⟨rfl, rfl, rfl, rfl, rfl, _, _, _, _, _, _, _, _, _⟩ := ct
  intro pins s σ H x y v u Q I rx ry h
  obtain ⟨a, b, dx, dy, fs, gs, rfl, rfl, ha, hb', hsp⟩ := h
  obtain rfl : v = Value.ref a := rx
  obtain rfl : u = Value.ref b := ry
  obtain ⟨mA, J, _⟩ := ins_get I.hok ha
  obtain ⟨mB, J', _⟩ := ins_get I.hok hb'
  have O := ownEq_of I.kIn J.obj rfl hne
  have e0 : Env0 X.prog X.w X.K X.mg X.base X.A.in1 X.stack s H := by
    have e := I.env0
    exact ⟨e.frames, e.mod, e.bs, e.bsz, e.funs, e.frf, e.hok, e.bare⟩
  have rr : Vals [V.ref a, V.ref b] [Value.ref a, Value.ref b] := .cons rfl (.cons rfl .nil)
  have hl : ([Value.ref a, Value.ref b] ++ []).length = ps.length := by
    obtain ⟨ts', L', r', L'', W', _, r1, hR, _⟩ := hsp
    rw [← F.len _ _ _ _ hR, r1.length]; rfl
  have hu : X.A.units + 1 < cLine := by have := hr.un; omega
  have bb := hb s [Value.ref a, Value.ref b] I.kIn hl
  rw [List.append_nil] at bb
  have key := codeAny_mono (F.go X.A.in1 X.stack s H ⟨[.ref a, .ref b], []⟩ [.ref a, .ref b] [.ref a, .ref b] _ hr.in1 gd e0 bb rr hsp) (R' := fun out s' => match out with
    | .error e => X.xe e s'
    | .ok (.ret v) => ∃ z, v = .bool z ∧ EP X pins σ Q (.bool (!z)) s'
    | _ => False) fun out s' q => by
      match out, q with
      | .error e, q => exact hx pins σ H s e s' I q
      | .ok (.ret u), q =>
        obtain ⟨v, H', I3, rv, z, ev, q3⟩ := I.after q
        subst ev
        obtain rfl : u = Value.bool z := rv
        exact ⟨z, rfl, V.bl (!z), H', I3, rfl, q3⟩
  obtain ⟨hh, g, d, tk, os⟩ := s
  refine compareOp_ne_ownEq PySem.F.cmp_object O J'.obj rfl hu (wpAny_call (codeAny_mono key fun out s' q => ?_))
  match out, q with
  | .error e, q => exact q
  | .ok (.ret u), q => exact q
theorem ot_neG {C : Addr} {Rl : Rel} {ns ns' : List Str} {ts us : List T} {z : Bool} (h : Rl [.ins C ns ts, .ins C ns' us] L (.v (B z)) L) : OpT K (rNeG K C Rl) (.ins C ns ts) (.ins C ns' us) L (.v (B (!z))) := fun W H x y Q s r1 r2 q => by
  have r1' := r1
  have r2' := r2
  cases r1 with
  | ins f1 h1 l1 rr1 =>
    cases r2 with
    | ins f2 h2 l2 rr2 =>
      refine ⟨_, _, _, _, _, _, rfl, rfl, h1, h2, _, L, _, L, W, s, .cons r1' (.cons r2' .nil), h, fun v W' H' st s' r => ?_⟩
      cases r
      exact ⟨z, rfl, q _ W' H' st s' (.v _)⟩
/-- x != y, instances of a class with an own == -/
theorem eb_neG {C : Addr} {ps : List Str} {Rl : Rel} {j : Nat} {ns ns' : List Str} {ts us : List T} {z : Bool} (ct : Cq true CX P w K mg base k N sc fs X) (D : MetT CX P w K mg base j C "__eq__" ps Rl) (hne : ownEqB K C (He.ma K C "__eq__") = true) (ha : Ev X a ρ L (.v (.ins C ns ts)) L1) (hb : Ev X b ρ L1 (.v (.ins C ns' us)) Lb)
    (h : Rl [.ins C ns ts, .ins C ns' us] Lb (.v (B z)) Lb) (hj : j + 1 ≤ k := by decide) : EvB X (.Compare a [.NotEq] [b] pos) ρ L (!z) Lb := by
  obtain ⟨f, fd, F, M, hbd⟩ := D.ex
  have ef : He.ma K C "__eq__" = f := by unfold He.ma; rw [M.at_]
  rw [ef] at hne
  exact eb_cmp (op_neG ct F hj hbd hne) ha hb (by rw [ct.hK]; exact ot_neG h) (nomark _)
/-- what isinstance asks of an own class -/
def isiB (K : PySem.W.Frag) (C : Addr) : Bool := decide (PySem.W.findIn K (.ref C) "__class__" = some (some (.builtin "object.__class__"))) && (decide (PySem.W.specialIn K (.builtin "object.__class__") "__get__" = some (some (.builtin "getset_descriptor.__get__"))) &&
  (decide (PySem.W.takesIn K (.builtin "object.__class__") = some true) && decide (PySem.W.mroIn K C (.type "object") = some true)))
theorem ev_isiC {p : Pos} {C : Addr} {ns : List Str} {ts : List T} (ct : Cq cm CX P w K mg base k N sc fs X) (hm : mg "isinstance" = none) (cl : Cls K C) (hC : isiB K C = true) (ha : EvA X [a, b] ρ L [.ins C ns ts, .v (.ref C)] L1) (hg : glOk sc "isinstance" = true := by decide +kernel)
    (he : starEach [a, b] X.env = (false, eval a X.env) :: starEach [b] X.env := by rfl) (hpl : (backTo pos (starEach [b] X.env)).any (·.1) = false := by rfl) : Ev X (.Call (.Name "isinstance" p) [a, b] [] pos) ρ L (.v (B true)) L1 :=
  ev_cb ct call_isi PyProof.Rows.boot_isinstance hm hg ha (fun W H xs Q s r0 q => by
    obtain ⟨x, y, rfl, r1, r2⟩ := rp2 r0
    cases r2
    cases r1 with
    | ins f h1 l1 rr =>
      unfold isiB at hC
      simp only [Bool.and_eq_true, decide_eq_true_eq] at hC
      obtain ⟨c1, c2, c3, c4⟩ := hC
      refine ⟨_, .ref C, .ref C, .ref C, true, rfl, .own C, .base (.ins h1 (by rw [ct.hK]; exact cl) (by rw [ct.hK]; exact c1) (by rw [ct.hK]; exact c2) (by rw [ct.hK]; exact c3) (by rw [ct.hK]; exact c4)), ?_, ?_⟩
      · unfold PySem.W.kitOne
        rw [if_pos (by simp)]
      · exact q _ W H .refl s (Rp.v _)) he hpl
/-- the module's class as a value -/
theorem ncls {x : Str} {C : Addr} (ct : Cq cm CX P w K mg base k N sc fs X) (hm : mg x = some (.ref C)) (h : glOk sc x = true := by decide +kernel) : Ev X (.Name x pos) ρ L (.v (.v (.ref C))) L := ev_glob ct hm rfl h
/-- two texts -/
theorem eb_neS {x y : Str} (ha : Ev X a ρ L (.v (S x)) L1) (hb : Ev X b ρ L1 (.v (S y)) Lb) : EvB X (.Compare a [.NotEq] [b] pos) ρ L (!decide (x = y)) Lb := eb_cmp op_ne ha hb (fun W H u v Q s r1 r2 q => by
  cases r1; cases r2
  have : decide (x = y) = decide (V.str x = V.str y) := by
    by_cases e : x = y
    · subst e; simp
    · rw [decide_eq_false e, decide_eq_false (fun z => e (V.str.inj z))]
  exact ⟨rfl, by rw [← this]; exact q _ W H .refl s (.v _)⟩) (nomark _)
end
/-! == of towns -/
def tFour (t : Tw) : T := .tup [I t.n, .tup (t.st.map tLane), .tup (t.wd.map tPair), .tup (t.bd.map I)]
theorem sh_four (t : Tw) : Sh (tFour t) (.tuple [.int t.n, .tuple (t.st.map dLane), .tuple (t.wd.map dPair), .tuple (t.bd.map .int)]) 3 :=
  sh_tup (shl_cons (sh_I _) (shl_cons (sh_tup (shl_map sh_lane _)) (shl_cons (sh_tup (shl_map sh_pair _)) (shl_cons (sh_tup (shl_map sh_I _)) shl_nil))))
def R_eq (C : Addr) : Rel := fun ts L r L' => ∃ t u : Tw, ts = [tTw C t, tTw C u] ∧ r = .v (B (eqT (tFour t) (tFour u))) ∧ L' = L
end TL


/-! Home nights: the law's own defs, and the numbers. -/
namespace TL
open PySem PySem.Spec PyProof.Rows L2
def cellAt (ns : List Int) (k : Int) : Int := ns.getD k.toNat 0
def R_cell_at : Rel := fun ts L r L' => ∃ (ns : List Int) (k : Int), ts = [.scr (ns.map I), I k] ∧ 0 ≤ k ∧ r = .v (I (cellAt ns k)) ∧ L' = L
def R_lwhole : Rel := fun ts L r L' => ∃ t : Tw, ts = [tParts t] ∧ StOk t.st ∧ r = .v (I (lcmL t.st)) ∧ L' = L
def R_lhome : Rel := fun ts L r L' => ∃ (x : T) (ls : List Lane) (rest : List T) (d : Int), ts = [.tup (x :: .lst (ls.map tLane) :: rest), I d] ∧ StOk ls ∧ r = .v (B (homeB ls d)) ∧ L' = L
def bothB (h l : Lane) : Bool := ((rangeT 0 60).filter (homeB [h, l])).isEmpty
def b2 (st : List Lane) (i j : Nat) : Bool := bothB (st.getD i L00) (st.getD j L00)
def R_ltorn : Rel := fun ts L r L' => ∃ (t : Tw) (o : Option (Nat × Nat)), ts = [tParts t] ∧ StOk t.st ∧ FirstO (b2 t.st) t.st.length o ∧ r = .v (tO o) ∧ L' = L
def R_ldue : Rel := fun ts L r L' => ∃ (t : Tw) (o : Option (Nat × Nat)), ts = [tParts t] ∧ StOk t.st ∧ FirstO (b2 t.st) t.st.length o ∧ L' = L ∧
  match o with
  | some (i, j) => r = .v (.tup [S "never", I i, I j])
  | none => ∃ d ds, homesL t.st = d :: ds ∧ r = .v (.tup [S "nights", I d, I (lcmL t.st)])
/-! the first of a range -/
theorem rangeT_cons (lo : Int) (n : Nat) : rangeT lo (n + 1) = lo :: rangeT (lo + 1) n := by
  unfold rangeT
  rw [List.range_succ_eq_map, List.map_cons, List.map_map]
  refine congr (congrArg List.cons (by omega)) ?_
  refine List.map_congr_left fun i _ => ?_
  show lo + ((i + 1 : Nat) : Int) = lo + 1 + i
  omega
theorem filter_first {p : Int → Bool} : ∀ {n : Nat} {lo x : Int}, lo ≤ x → x < lo + n → p x = true → (∀ y, lo ≤ y → y < x → p y = false) → ∃ ds, (rangeT lo n).filter p = x :: ds
  | 0, lo, x, h1, h2, _, _ => by omega
  | n + 1, lo, x, h1, h2, hx, hy => by
    rw [rangeT_cons]
    by_cases e : lo = x
    · subst e
      exact ⟨_, by rw [List.filter_cons_of_pos hx]⟩
    · have hlo := hy lo (Int.le_refl _) (by omega)
      rw [List.filter_cons_of_neg (by rw [hlo]; decide)]
      exact filter_first (by omega) (by omega) hx fun y a b => hy y (by omega) b
theorem filter_some {p : Int → Bool} {n : Nat} {lo x : Int} (h1 : lo ≤ x) (h2 : x < lo + n) (hx : p x = true) : ∃ d ds, (rangeT lo n).filter p = d :: ds := by
  cases e : (rangeT lo n).filter p with
  | nil =>
    have := List.mem_filter.mpr ⟨mem_rangeT.mpr ⟨h1, h2⟩, hx⟩
    rw [e] at this; cases this
  | cons d ds => exact ⟨d, ds, rfl⟩
/-! two streets -/
theorem fin_two : ((List.range 7).all fun r => (List.range 7).all fun s => r == 0 || s == 0 || ((List.range r).all fun a => (List.range s).all fun b =>
    (!decide (((a : Int) - (b : Int)) % ((Nat.gcd r s : Nat) : Int) = 0)) == ((rangeT 0 60).filter fun d => decide ((d - (a : Int)) % (r : Int) = 0) && (decide ((d - (b : Int)) % (s : Int) = 0) && true)).isEmpty)) = true := by decide +kernel
theorem turns_mod (d n r : Int) : (d - n % r) % r = (d - n) % r := by
  rw [Int.sub_emod, Int.emod_emod_of_dvd _ (Int.dvd_refl r), ← Int.sub_emod]
theorem two_ok {h l : Lane} (h1 : 1 ≤ h.r) (h6 : h.r ≤ 6) (l1 : 1 ≤ l.r) (l6 : l.r ≤ 6) : nvB h l = bothB h l := by
  have key := List.all_eq_true.mp (List.all_eq_true.mp fin_two h.r.toNat (List.mem_range.mpr (by omega))) l.r.toNat (List.mem_range.mpr (by omega))
  have z1 : (h.r.toNat == 0) = false := by rw [beq_eq_false_iff_ne]; omega
  have z2 : (l.r.toNat == 0) = false := by rw [beq_eq_false_iff_ne]; omega
  simp only [z1, z2, Bool.false_or] at key
  have eh : (h.r.toNat : Int) = h.r := by omega
  have el : (l.r.toNat : Int) = l.r := by omega
  have a1 := Int.emod_nonneg h.n (b := h.r) (by omega)
  have a2 := Int.emod_lt_of_pos h.n (b := h.r) (by omega)
  have c1 := Int.emod_nonneg l.n (b := l.r) (by omega)
  have c2 := Int.emod_lt_of_pos l.n (b := l.r) (by omega)
  have k2 := List.all_eq_true.mp (List.all_eq_true.mp key (h.n % h.r).toNat (List.mem_range.mpr (by omega))) (l.n % l.r).toNat (List.mem_range.mpr (by omega))
  have k3 := eq_of_beq k2
  have ea : ((h.n % h.r).toNat : Int) = h.n % h.r := by omega
  have eb : ((l.n % l.r).toNat : Int) = l.n % l.r := by omega
  rw [ea, eb, eh, el] at k3
  unfold bothB
  have e1 : (rangeT 0 60).filter (homeB [h, l]) = (rangeT 0 60).filter fun d => decide ((d - h.n % h.r) % h.r = 0) && (decide ((d - l.n % l.r) % l.r = 0) && true) := by
    refine List.filter_congr fun d _ => ?_
    rw [turns_mod, turns_mod]
    simp [homeB, turnsB]
  rw [e1, ← k3]
  unfold nvB
  have hg1 : ((Nat.gcd h.r.toNat l.r.toNat : Nat) : Int) ∣ h.r := by
    rw [← eh]; exact Int.natCast_dvd_natCast.mpr (by first | exact Nat.gcd_dvd_left _ _ | (rw [Int.toNat_natCast]; exact Nat.gcd_dvd_left _ _))
  have hg2 : ((Nat.gcd h.r.toNat l.r.toNat : Nat) : Int) ∣ l.r := by
    rw [← el]; exact Int.natCast_dvd_natCast.mpr (by first | exact Nat.gcd_dvd_right _ _ | (rw [Int.toNat_natCast]; exact Nat.gcd_dvd_right _ _))
  rw [Int.sub_emod, ← Int.emod_emod_of_dvd h.n hg1, ← Int.emod_emod_of_dvd l.n hg2, ← Int.sub_emod]
/-! many streets -/
theorem fin_dist : ((List.range 61).all fun f => f == 0 || 60 % f != 0 || ((List.range 7).all fun h => h == 0 || ((List.range 7).all fun r => r == 0 || Nat.lcm (Nat.gcd f r) (Nat.gcd h r) % Nat.gcd (Nat.lcm f h) r == 0))) = true := by decide +kernel
theorem dist_ok {f h r : Nat} (hf : f ∣ 60) (h1 : 1 ≤ h) (h6 : h ≤ 6) (r1 : 1 ≤ r) (r6 : r ≤ 6) : Nat.gcd (Nat.lcm f h) r ∣ Nat.lcm (Nat.gcd f r) (Nat.gcd h r) := by
  have hf0 : 0 < f := Nat.pos_of_dvd_of_pos hf (by decide)
  have hf60 : f ≤ 60 := Nat.le_of_dvd (by decide) hf
  have k1 := List.all_eq_true.mp fin_dist f (List.mem_range.mpr (by omega))
  have z1 : (f == 0) = false := by rw [beq_eq_false_iff_ne]; omega
  have z2 : (60 % f != 0) = false := by rw [Nat.mod_eq_zero_of_dvd hf]; rfl
  simp only [z1, z2, Bool.false_or] at k1
  have k2 := List.all_eq_true.mp k1 h (List.mem_range.mpr (by omega))
  have z3 : (h == 0) = false := by rw [beq_eq_false_iff_ne]; omega
  simp only [z3, Bool.false_or] at k2
  have k3 := List.all_eq_true.mp k2 r (List.mem_range.mpr (by omega))
  have z4 : (r == 0) = false := by rw [beq_eq_false_iff_ne]; omega
  simp only [z4, Bool.false_or] at k3
  exact Nat.dvd_of_mod_eq_zero (eq_of_beq k3)
theorem gcd_lcmL {st : List Lane} {r : Nat} {x : Nat} (r1 : 1 ≤ r) (r6 : r ≤ 6) (ok : ∀ l ∈ st, 1 ≤ l.r ∧ l.r ≤ 6) (h : ∀ l ∈ st, Nat.gcd l.r.toNat r ∣ x) : ∀ f : Nat, f ∣ 60 → Nat.gcd f r ∣ x → Nat.gcd (st.foldl (fun f l => Nat.lcm f l.r.toNat) f) r ∣ x := by
  induction st with
  | nil => intro f _ hf; exact hf
  | cons l st ih =>
    intro f h60 hf
    have hl := ok l List.mem_cons_self
    refine ih (fun m hm => ok m (List.mem_cons_of_mem _ hm)) (fun m hm => h m (List.mem_cons_of_mem _ hm)) _ (Nat.lcm_dvd h60 (r_60 hl.1 hl.2)) ?_
    exact Nat.dvd_trans (dist_ok h60 (by omega) (by omega) r1 r6) (Nat.lcm_dvd hf (h l List.mem_cons_self))
theorem fin_meet : ((List.range 61).all fun m => m == 0 || ((List.range 7).all fun r => r == 0 || ((List.range r).all fun t => t % Nat.gcd m r != 0 || ((List.range r).any fun k => (t + m * k) % r == 0)))) = true := by decide +kernel
theorem meet_ok {m r : Nat} {t : Int} (m1 : 1 ≤ m) (m60 : m ≤ 60) (r1 : 1 ≤ r) (r6 : r ≤ 6) (h : ((Nat.gcd m r : Nat) : Int) ∣ t) : ∃ k : Nat, (t + m * k) % (r : Int) = 0 := by
  have k1 := List.all_eq_true.mp fin_meet m (List.mem_range.mpr (by omega))
  have z1 : (m == 0) = false := by rw [beq_eq_false_iff_ne]; omega
  simp only [z1, Bool.false_or] at k1
  have k2 := List.all_eq_true.mp k1 r (List.mem_range.mpr (by omega))
  have z2 : (r == 0) = false := by rw [beq_eq_false_iff_ne]; omega
  simp only [z2, Bool.false_or] at k2
  have a1 := Int.emod_nonneg t (b := (r : Int)) (by omega)
  have a2 := Int.emod_lt_of_pos t (b := (r : Int)) (by omega)
  have k3 := List.all_eq_true.mp k2 (t % r).toNat (List.mem_range.mpr (by omega))
  have hd : Nat.gcd m r ∣ (t % (r : Int)).toNat := by
    have h1 : ((Nat.gcd m r : Nat) : Int) ∣ (r : Int) := Int.natCast_dvd_natCast.mpr (Nat.gcd_dvd_right m r)
    have h2 : ((Nat.gcd m r : Nat) : Int) ∣ t % (r : Int) := by
      rw [Int.emod_def]
      exact Int.dvd_sub h (Int.dvd_trans h1 (Int.dvd_mul_right _ _))
    have h3 : (((t % (r : Int)).toNat : Nat) : Int) = t % (r : Int) := by omega
    rw [← h3] at h2
    exact Int.natCast_dvd_natCast.mp h2
  have z3 : ((t % (r : Int)).toNat % Nat.gcd m r != 0) = false := by rw [Nat.mod_eq_zero_of_dvd hd]; rfl
  simp only [z3, Bool.false_or] at k3
  obtain ⟨k, hk, e⟩ := List.any_eq_true.mp k3
  refine ⟨k, ?_⟩
  have e2 : ((t % (r : Int)).toNat + m * k) % r = 0 := eq_of_beq e
  have e3 : ((((t % (r : Int)).toNat + m * k) % r : Nat) : Int) = 0 := by rw [e2]; rfl
  have h3 : (((t % (r : Int)).toNat : Nat) : Int) = t % (r : Int) := by omega
  rw [Int.natCast_emod, Int.natCast_add, h3, Int.natCast_mul] at e3
  rw [Int.emod_add_emod] at e3
  exact e3
theorem lcmL_cons (l : Lane) (st : List Lane) : lcmL st ∣ lcmL (l :: st) := by
  refine lcmL_least fun m hm => ?_
  exact lcmL_mem (List.mem_cons_of_mem l hm)
theorem meet_all : ∀ {st : List Lane}, (∀ l ∈ st, 1 ≤ l.r ∧ l.r ≤ 6) → List.Pairwise (fun h l => nvB h l = false) st → ∃ d : Int, ∀ l ∈ st, (d - l.n) % l.r = 0
  | [], _, _ => ⟨0, fun l h => (nomatch h)⟩
  | l :: st, ok, hp => by
    obtain ⟨hp1, hp2⟩ := List.pairwise_cons.mp hp
    have okst : ∀ m ∈ st, 1 ≤ m.r ∧ m.r ≤ 6 := fun m hm => ok m (List.mem_cons_of_mem _ hm)
    obtain ⟨d, hd⟩ := meet_all okst hp2
    obtain ⟨l1, l6⟩ := ok l List.mem_cons_self
    have el : (l.r.toNat : Int) = l.r := by omega
    have h60 : lcmL st ∣ 60 := lcmL_least fun m hm => r_60 (okst m hm).1 (okst m hm).2
    have hpos : 0 < lcmL st := Nat.pos_of_dvd_of_pos h60 (by decide)
    have hg : Nat.gcd (lcmL st) l.r.toNat ∣ (d - l.n).natAbs := by
      refine gcd_lcmL (by omega) (by omega) okst (fun m hm => ?_) 1 (by decide) (by rw [Nat.gcd_one_left]; exact Nat.one_dvd _)
      have hn := hp1 m hm
      have e1 : (l.n - m.n) % ((Nat.gcd l.r.toNat m.r.toNat : Nat) : Int) = 0 := by
        unfold nvB at hn
        simpa using hn
      have d1 : ((Nat.gcd m.r.toNat l.r.toNat : Nat) : Int) ∣ l.n - m.n := by
        rw [Nat.gcd_comm]; exact Int.dvd_of_emod_eq_zero e1
      have em : (m.r.toNat : Int) = m.r := by have := (okst m hm).1; omega
      have d2 : ((Nat.gcd m.r.toNat l.r.toNat : Nat) : Int) ∣ d - m.n := by
        refine Int.dvd_trans ?_ (Int.dvd_of_emod_eq_zero (hd m hm))
        rw [← em]; exact Int.natCast_dvd_natCast.mpr (by first | exact Nat.gcd_dvd_left _ _ | (rw [Int.toNat_natCast]; exact Nat.gcd_dvd_left _ _))
      have d3 := Int.dvd_sub d2 d1
      rw [show d - m.n - (l.n - m.n) = d - l.n by omega] at d3
      exact Int.ofNat_dvd_left.mp d3
    obtain ⟨k, hk⟩ := meet_ok (t := d - l.n) hpos (Nat.le_of_dvd (by decide) h60) (by omega) (by omega) (Int.ofNat_dvd_left.mpr hg)
    refine ⟨d + (lcmL st : Int) * k, fun m hm => ?_⟩
    rcases List.mem_cons.mp hm with rfl | hm
    · rw [el] at hk
      rw [show d + (lcmL st : Int) * k - m.n = d - m.n + lcmL st * k by omega]; exact hk
    · have em : (m.r.toNat : Int) = m.r := by have := (okst m hm).1; omega
      have hdv : m.r ∣ (lcmL st : Int) * k := by
        refine Int.dvd_trans ?_ (Int.dvd_mul_right _ _)
        rw [← em]; exact Int.natCast_dvd_natCast.mpr (by first | exact lcmL_mem hm | (rw [Int.toNat_natCast]; exact lcmL_mem hm))
      rw [show d + (lcmL st : Int) * k - m.n = (d - m.n) + (lcmL st : Int) * k by omega]
      exact Int.emod_eq_zero_of_dvd (Int.dvd_add (Int.dvd_of_emod_eq_zero (hd m hm)) hdv)
theorem home_mod {st : List Lane} (ok : ∀ l ∈ st, 1 ≤ l.r ∧ l.r ≤ 6) {d : Int} (h : ∀ l ∈ st, (d - l.n) % l.r = 0) : homeB st (d % (lcmL st : Int)) = true := by
  unfold homeB
  rw [List.all_eq_true]
  intro l hl
  unfold turnsB
  refine decide_eq_true ?_
  have el : (l.r.toNat : Int) = l.r := by have := (ok l hl).1; omega
  have hdv : l.r ∣ (lcmL st : Int) := by rw [← el]; exact Int.natCast_dvd_natCast.mpr (by first | exact lcmL_mem hl | (rw [Int.toNat_natCast]; exact lcmL_mem hl))
  refine Int.emod_eq_zero_of_dvd ?_
  have e : d % (lcmL st : Int) - l.n = (d - l.n) - (lcmL st : Int) * (d / (lcmL st : Int)) := by rw [Int.emod_def]; omega
  rw [e]
  exact Int.dvd_sub (Int.dvd_of_emod_eq_zero (h l hl)) (Int.dvd_trans hdv (Int.dvd_mul_right _ _))
theorem homes_some {st : List Lane} (ok : StOk st) (h : FirstO (tornB st) st.length none) : ∃ d ds, homesL st = d :: ds := by
  have hp : List.Pairwise (fun h l => nvB h l = false) st := by
    rw [List.pairwise_iff_getElem]
    intro i j hi hj hij
    have := h i j hij hj
    unfold tornB at this
    rw [List.getD_eq_getElem?_getD, List.getD_eq_getElem?_getD, List.getElem?_eq_getElem hi, List.getElem?_eq_getElem hj] at this
    exact this
  obtain ⟨d, hd⟩ := meet_all ok.2 hp
  have hpos := lcmL_pos ok
  exact filter_some (Int.emod_nonneg _ (by omega)) (by have := Int.emod_lt_of_pos d (b := (lcmL st : Int)) (by omega); omega) (home_mod ok.2 hd)
theorem torn_b2 {st : List Lane} (ok : StOk st) (i j : Nat) (hij : i < j) (hj : j < st.length) : tornB st i j = b2 st i j := by
  unfold tornB b2
  have hi : i < st.length := by omega
  rw [List.getD_eq_getElem?_getD, List.getD_eq_getElem?_getD, List.getElem?_eq_getElem hi, List.getElem?_eq_getElem hj]
  have a := ok.2 _ (List.getElem_mem hi)
  have b := ok.2 _ (List.getElem_mem hj)
  exact two_ok a.1 a.2 b.1 b.2
/-! the least number that all rhythms part, by search -/
def partB (st : List Lane) (d : Int) : Bool := st.all fun l => decide (d % l.r = 0)
theorem whole_first {st : List Lane} (ok : StOk st) : ∃ ds, (rangeT 1 60).filter (partB st) = (lcmL st : Int) :: ds := by
  have hpos := lcmL_pos ok
  have hle := lcmL_le ok
  refine filter_first (by omega) (by omega) ?_ fun y y1 y2 => ?_
  · unfold partB
    rw [List.all_eq_true]
    intro l hl
    refine decide_eq_true (Int.emod_eq_zero_of_dvd ?_)
    have el : (l.r.toNat : Int) = l.r := by have := (ok.2 l hl).1; omega
    rw [← el]; exact Int.natCast_dvd_natCast.mpr (by first | exact lcmL_mem hl | (rw [Int.toNat_natCast]; exact lcmL_mem hl))
  · cases e : partB st y with
    | false => rfl
    | true =>
      unfold partB at e
      rw [List.all_eq_true] at e
      have : lcmL st ∣ y.toNat := lcmL_least fun l hl => by
        have h1 := of_decide_eq_true (e l hl)
        have el : (l.r.toNat : Int) = l.r := by have := (ok.2 l hl).1; omega
        have ey : (y.toNat : Int) = y := by omega
        have h2 := Int.dvd_of_emod_eq_zero h1
        rw [← el, ← ey] at h2
        exact Int.natCast_dvd_natCast.mp h2
      have := Nat.le_of_dvd (by omega) this
      omega
theorem empty_eq {α : Type} {f : α → T} {g : α → PyData} {k : Nat} (h : ∀ a, Sh (f a) (g a) k) (l : List α) : eqT (.lst (l.map f)) (.lst []) = l.isEmpty := by
  rw [(sh_lst (shl_map h l)).eqT (sh_lst (k := 0) shl_nil)]
  cases l <;> simp [PyData.eqv, PyData.eqvAll]
theorem none_left (l : List Lane) (p : Lane → Bool) : eqT (.lst ((l.filter fun x => !p x).map tLane)) (.lst []) = l.all p := by
  rw [empty_eq sh_lane]
  induction l with
  | nil => rfl
  | cons a l ih =>
    cases e : p a with
    | true => rw [List.filter_cons_of_neg (by simp [e]), List.all_cons, e, ih]; rfl
    | false => rw [List.filter_cons_of_pos (by simp [e]), List.all_cons, e]; rfl
theorem at1 (x y : T) (ts : List T) : atI (x :: y :: ts) 1 = some y := by
  unfold atI ixN
  rw [if_pos (by decide), if_pos (by simp only [List.length_cons]; omega)]
  rfl
/-! what is told, as a text -/
def dU (tag : Str) (i j : Int) : PyData := .tuple [.str tag, .int i, .int j]
def tU (tag : Str) (i j : Int) : T := .tup [S tag, I i, I j]
theorem pd_U (tag : Str) (i j : Int) : pd (tU tag i j) = some (dU tag i j) := pd_tup (by
  unfold pdL
  rw [show pd (S tag) = some (.str tag) by unfold pd pdV; rfl]
  unfold pdL
  rw [pd_I]
  unfold pdL
  rw [pd_I]
  unfold pdL; rfl)
theorem int_short : ((List.range 61).all fun i => decide ((PyData.shown (.int (i : Int))).length ≤ 10)) = true := by decide +kernel
theorem shown_short {tag : Str} {i j : Int} (ht : (PyData.shown (.str tag)).length ≤ 100) (i0 : 0 ≤ i) (i1 : i ≤ 60) (j0 : 0 ≤ j) (j1 : j ≤ 60) : (dU tag i j).shown.length ≤ sizeLine := by
  have a := of_decide_eq_true (List.all_eq_true.mp int_short i.toNat (List.mem_range.mpr (by omega)))
  have b := of_decide_eq_true (List.all_eq_true.mp int_short j.toNat (List.mem_range.mpr (by omega)))
  rw [show (i.toNat : Int) = i by omega] at a
  rw [show (j.toNat : Int) = j by omega] at b
  rw [sizeLine_eq]
  have e : (dU tag i j).shown = tupleText [PyData.shown (.str tag), PyData.shown (.int i), PyData.shown (.int j)] := rfl
  rw [e]
  unfold tupleText
  rw [strLen_append, strLen_append]
  have hj := join_length_add [PyData.shown (.str tag), PyData.shown (.int i), PyData.shown (.int j)] (by simp)
  simp only [piled, List.map_cons, List.map_nil, List.sum_cons, List.sum_nil] at hj
  have e1 : (("(" : String) : Str).length = 1 := rfl
  have e2 : ((if ([PyData.shown (.str tag), PyData.shown (.int i), PyData.shown (.int j)].length == 1) = true then ",)" else ")" : String) : Str).length = 1 := rfl
  rw [e1, e2]
  omega
end TL


/-! Numbers of k14: two streets at a time, beginnings, streets told again. -/
namespace TL
open PySem PySem.Spec PyProof.Rows L2
theorem stOk_take {st : List Lane} (ok : StOk st) (k : Nat) : StOk (st.take k) := ⟨by rw [List.length_take]; have := ok.1; omega, fun l hl => ok.2 l (List.mem_of_mem_take hl)⟩
/-- a home day is one of each beginning -/
theorem homeB_take {st : List Lane} {d : Int} (h : homeB st d = true) (k : Nat) : homeB (st.take k) d = true := by
  unfold homeB at h ⊢
  rw [List.all_eq_true] at h ⊢
  exact fun l hl => h l (List.mem_of_mem_take hl)
theorem lcmL_take {st : List Lane} (k : Nat) : lcmL (st.take k) ∣ lcmL st := lcmL_least fun l hl => lcmL_mem (List.mem_of_mem_take hl)
/-- two home days lie whole turns apart -/
theorem homes_apart {st : List Lane} (ok : ∀ l ∈ st, 1 ≤ l.r ∧ l.r ≤ 6) {d e : Int} (hd : homeB st d = true) (he : homeB st e = true) : (d - e) % (lcmL st : Int) = 0 := by
  unfold homeB at hd he
  rw [List.all_eq_true] at hd he
  refine Int.emod_eq_zero_of_dvd (Int.ofNat_dvd_left.mpr (lcmL_least fun l hl => ?_))
  have h1 := Int.dvd_of_emod_eq_zero (of_decide_eq_true (hd l hl))
  have h2 := Int.dvd_of_emod_eq_zero (of_decide_eq_true (he l hl))
  have h3 := Int.dvd_sub h1 h2
  rw [show d - l.n - (e - l.n) = d - e by omega] at h3
  have el : (l.r.toNat : Int) = l.r := by have := (ok l hl).1; omega
  rw [← el] at h3
  exact Int.ofNat_dvd_left.mp h3
/-- nothing is torn in a beginning of what is not torn -/
theorem firstO_none_take {st : List Lane} (h : FirstO (tornB st) st.length none) (k : Nat) : FirstO (tornB (st.take k)) (st.take k).length none := by
  intro i j hij hj
  rw [List.length_take] at hj
  have := h i j hij (by omega)
  unfold tornB at this ⊢
  rw [List.getD_eq_getElem?_getD, List.getD_eq_getElem?_getD] at this ⊢
  rw [List.getElem?_take_of_lt (by omega), List.getElem?_take_of_lt (by omega)]
  exact this
theorem nvB_comm (h l : Lane) : nvB h l = nvB l h := by
  unfold nvB
  rw [Nat.gcd_comm]
  have e : (h.n - l.n) = -(l.n - h.n) := by omega
  have : ((h.n - l.n) % ((Nat.gcd l.r.toNat h.r.toNat : Nat) : Int) = 0) ↔ ((l.n - h.n) % ((Nat.gcd l.r.toNat h.r.toNat : Nat) : Int) = 0) := by
    rw [e]
    constructor
    · intro q; exact Int.emod_eq_zero_of_dvd (Int.dvd_neg.mp (Int.dvd_of_emod_eq_zero q))
    · intro q; exact Int.emod_eq_zero_of_dvd (Int.dvd_neg.mpr (Int.dvd_of_emod_eq_zero q))
  simp [this]
/-- a street told again, some rhythms on, is turned on the same nights -/
theorem turnsB_on (l : Lane) (k d : Int) : turnsB ⟨l.a, l.b, l.r, l.n + l.r * k⟩ d = turnsB l d := by
  unfold turnsB
  show decide ((d - (l.n + l.r * k)) % l.r = 0) = _
  rw [show d - (l.n + l.r * k) = d - l.n - l.r * k by omega, Int.sub_mul_emod_self_left]
theorem two_torn {a b : Lane} (h : nvB a b = true) : FirstO (tornB [a, b]) 2 (some (0, 1)) := ⟨by decide, by decide, h, fun k k1 k2 => by omega, fun k m k1 k2 k3 => by omega⟩
theorem two_meet {a b : Lane} (h : nvB a b = false) : FirstO (tornB [a, b]) 2 none := fun i j h1 h2 => by
  have e1 : i = 0 := by omega
  have e2 : j = 1 := by omega
  subst e1; subst e2
  exact h
/-- the pairs of a list's items, by the second one's place -/
def twosN {α : Type} (st : List α) : Nat → List (α × α)
  | 0 => []
  | j + 1 => twosN st j ++ (match st[j]? with
    | some b => (st.take j).map fun a => (a, b)
    | none => [])
def twos {α : Type} (st : List α) : List (α × α) := twosN st st.length
theorem mem_twosN {α : Type} {st : List α} : ∀ {n : Nat} {q : α × α}, q ∈ twosN st n ↔ ∃ i j, i < j ∧ j < n ∧ st[i]? = some q.1 ∧ st[j]? = some q.2
  | 0, q => ⟨fun h => (nomatch h), fun ⟨i, j, h1, h2, _⟩ => by omega⟩
  | n + 1, q => by
    unfold twosN
    rw [List.mem_append, mem_twosN (n := n)]
    constructor
    · rintro (⟨i, j, h1, h2, h3, h4⟩ | h)
      · exact ⟨i, j, h1, by omega, h3, h4⟩
      · cases e : st[n]? with
        | none => rw [e] at h; cases h
        | some b =>
          rw [e] at h
          obtain ⟨a, ha, rfl⟩ := List.mem_map.mp h
          obtain ⟨i, hi, e2⟩ := List.mem_iff_getElem.mp ha
          rw [List.length_take] at hi
          rw [List.getElem_take] at e2
          exact ⟨i, n, by omega, by omega, by rw [List.getElem?_eq_getElem (by omega), e2], e⟩
    · rintro ⟨i, j, h1, h2, h3, h4⟩
      by_cases hj : j < n
      · exact .inl ⟨i, j, h1, hj, h3, h4⟩
      · right
        have : j = n := by omega
        subst this
        rw [h4]
        refine List.mem_map.mpr ⟨q.1, ?_, rfl⟩
        obtain ⟨hi, e⟩ := List.getElem?_eq_some_iff.mp h3
        exact List.mem_iff_getElem.mpr ⟨i, by rw [List.length_take]; omega, by rw [List.getElem_take]; exact e⟩
/-- some two are torn just where the first torn pair is told -/
theorem torn_twos {st : List Lane} {o : Option (Nat × Nat)} (h : FirstO (tornB st) st.length o) : (twos st).any (fun q => nvB q.1 q.2) = o.isSome := by
  have at_ : ∀ {i : Nat} {x : Lane}, st[i]? = some x → st.getD i L00 = x := fun {i x} e => by rw [List.getD_eq_getElem?_getD, e]; rfl
  cases o with
  | none =>
    show _ = false
    cases e : (twos st).any fun q => nvB q.1 q.2 with
    | false => rfl
    | true =>
      obtain ⟨q, hq, hn⟩ := List.any_eq_true.mp e
      obtain ⟨i, j, h1, h2, h3, h4⟩ := mem_twosN.mp hq
      have := h i j h1 h2
      unfold tornB at this
      rw [at_ h3, at_ h4, hn] at this
      cases this
  | some p =>
    obtain ⟨i, j⟩ := p
    obtain ⟨h1, h2, h3, _⟩ := h
    show _ = true
    refine List.any_eq_true.mpr ⟨(st[i], st[j]), mem_twosN.mpr ⟨i, j, h1, h2, List.getElem?_eq_getElem (by omega), List.getElem?_eq_getElem h2⟩, ?_⟩
    unfold tornB at h3
    rw [at_ (List.getElem?_eq_getElem (show i < st.length by omega)), at_ (List.getElem?_eq_getElem h2)] at h3
    exact h3
/-- a paper ("never", i, j) of two streets that there are -/
def R_shows_never (C : Addr) : Rel := fun ts L r L' => ∃ (t : Tw) (i j : Nat) (a b : Lane), ts = [tTw C t, tU "never" i j] ∧ StOk t.st ∧ t.st[i]? = some a ∧ t.st[j]? = some b ∧ r = .v (B (!decide ((i : Int) = (j : Int)) && nvB a b)) ∧ L' = L
section
variable {X : Cx} {a b : Expr} {ρ : TEnv} {L L1 Lb : Store} {pos : Pos}
theorem eb_eqS {x y : Str} (ha : Ev X a ρ L (.v (S x)) L1) (hb : Ev X b ρ L1 (.v (S y)) Lb) : EvB X (.Compare a [.Eq] [b] pos) ρ L (decide (x = y)) Lb := eb_cmp op_eq ha hb (fun W H u v Q s r1 r2 q => by
  cases r1; cases r2
  have : decide (x = y) = decide (V.str x = V.str y) := by
    by_cases e : x = y
    · subst e; simp
    · rw [decide_eq_false e, decide_eq_false (fun z => e (V.str.inj z))]
  exact ⟨rfl, by rw [← this]; exact q _ W H .refl s (.v _)⟩) (nomark _)
end
end TL


/-! What home tells, as a function. -/
namespace TL
open PySem PySem.Spec PyProof.Rows L2
theorem DefT.imp {CX : CXT} {P : Program} {w : World} {K : PySem.W.Frag} {mg : Str → Option Value} {base : Heap} {j : Nat} {x : Str} {ps : List Str} {Rl Rl' : Rel} (D : DefT CX P w K mg base j x ps Rl) (h : ∀ ts L r L', Rl' ts L r L' → Rl ts L r L') : DefT CX P w K mg base j x ps Rl' := by
  obtain ⟨f, fd, F, a, b, c⟩ := D.ex
  exact ⟨f, fd, F.imp h, a, b, c⟩
noncomputable def tornF (st : List Lane) : Option (Nat × Nat) := Classical.choose (firstO_ex (tornB st) st.length)
theorem tornF_ok (st : List Lane) : FirstO (tornB st) st.length (tornF st) := Classical.choose_spec (firstO_ex (tornB st) st.length)
theorem tornF_eq {st : List Lane} {o : Option (Nat × Nat)} (h : FirstO (tornB st) st.length o) : tornF st = o := firstO_uniq (tornF_ok st) h
def firstD (st : List Lane) : Int := (homesL st).headD 0
noncomputable def homeP (st : List Lane) : Str × Int × Int := match tornF st with
  | some (i, j) => ("never", (i : Int), (j : Int))
  | none => ("nights", firstD st, (lcmL st : Int))
noncomputable def homeT (st : List Lane) : T := tU (homeP st).1 (homeP st).2.1 (homeP st).2.2
def R_homeT (C : Addr) : Rel := fun ts L r L' => ∃ (t : Tw), ts = [tTw C t] ∧ StOk t.st ∧ r = .v (homeT t.st) ∧ L' = L
theorem home_rel {C : Addr} : ∀ ts L r L', R_homeT C ts L r L' → R_home C ts L r L' := by
  rintro ts L r L' ⟨q, rfl, ok, rfl, rfl⟩
  refine ⟨q, tornF q.st, rfl, ok, tornF_ok _, rfl, ?_⟩
  unfold homeT homeP
  have hF := tornF_ok q.st
  cases e : tornF q.st with
  | some p => obtain ⟨i, j⟩ := p; rfl
  | none =>
    rw [e] at hF
    obtain ⟨d, ds, hd⟩ := homes_some ok hF
    refine ⟨d, ds, hd, ?_⟩
    show R.v (tU "nights" (firstD q.st) (lcmL q.st)) = _
    unfold firstD; rw [hd]; rfl
theorem homeP_some {st : List Lane} {i j : Nat} (h : tornF st = some (i, j)) : homeP st = ((("never" : Str)), (i : Int), (j : Int)) := by unfold homeP; rw [h]
theorem homeP_none {st : List Lane} (h : tornF st = none) : homeP st = ((("nights" : Str)), firstD st, (lcmL st : Int)) := by unfold homeP; rw [h]
theorem homeT_some {st : List Lane} {i j : Nat} (h : tornF st = some (i, j)) : homeT st = tU "never" i j := by unfold homeT; rw [homeP_some h]
theorem homeT_none {st : List Lane} (h : tornF st = none) : homeT st = tU "nights" (firstD st) (lcmL st) := by unfold homeT; rw [homeP_none h]
theorem firstD_ok {st : List Lane} (ok : StOk st) (h : tornF st = none) : homeB st (firstD st) = true ∧ 0 ≤ firstD st ∧ firstD st < lcmL st := by
  have hF := tornF_ok st
  rw [h] at hF
  obtain ⟨d, ds, hd⟩ := homes_some ok hF
  have e : firstD st = d := by unfold firstD; rw [hd]; rfl
  have hm : d ∈ homesL st := by rw [hd]; exact List.mem_cons_self
  obtain ⟨h1, h2⟩ := List.mem_filter.mp hm
  have h3 := mem_rangeT.mp h1
  rw [e]
  exact ⟨h2, h3.1, by omega⟩
/-- a home day: then none are torn -/
theorem nvB_of {h l : Lane} (h1 : 1 ≤ h.r) (l1 : 1 ≤ l.r) {d : Int} (a : turnsB h d = true) (b : turnsB l d = true) : nvB h l = false := by
  unfold nvB
  have a1 := Int.dvd_of_emod_eq_zero (of_decide_eq_true a)
  have b1 := Int.dvd_of_emod_eq_zero (of_decide_eq_true b)
  have eh : (h.r.toNat : Int) = h.r := by omega
  have el : (l.r.toNat : Int) = l.r := by omega
  have g1 : ((Nat.gcd h.r.toNat l.r.toNat : Nat) : Int) ∣ h.r := by
    have := Int.natCast_dvd_natCast.mpr (Nat.gcd_dvd_left h.r.toNat l.r.toNat)
    rwa [eh] at this
  have g2 : ((Nat.gcd h.r.toNat l.r.toNat : Nat) : Int) ∣ l.r := by
    have := Int.natCast_dvd_natCast.mpr (Nat.gcd_dvd_right h.r.toNat l.r.toNat)
    rwa [el] at this
  have := Int.dvd_sub (Int.dvd_trans g2 b1) (Int.dvd_trans g1 a1)
  rw [show d - l.n - (d - h.n) = h.n - l.n by omega] at this
  rw [decide_eq_true (Int.emod_eq_zero_of_dvd this)]; rfl
theorem torn_none_of {st : List Lane} (ok : ∀ l ∈ st, 1 ≤ l.r) {d : Int} (h : homeB st d = true) : tornF st = none := by
  refine tornF_eq fun i j hij hj => ?_
  have hi : i < st.length := by omega
  unfold tornB
  rw [List.getD_eq_getElem?_getD, List.getD_eq_getElem?_getD, List.getElem?_eq_getElem hi, List.getElem?_eq_getElem hj]
  unfold homeB at h
  rw [List.all_eq_true] at h
  exact nvB_of (ok _ (List.getElem_mem hi)) (ok _ (List.getElem_mem hj)) (h _ (List.getElem_mem hi)) (h _ (List.getElem_mem hj))
theorem torn_none_iff {st : List Lane} (ok : StOk st) : tornF st = none ↔ ∃ d, homeB st d = true :=
  ⟨fun h => ⟨_, (firstD_ok ok h).1⟩, fun ⟨_, h⟩ => torn_none_of (fun l hl => (ok.2 l hl).1) h⟩
theorem lcmL_eq {st st' : List Lane} (h : ∀ l ∈ st, ∃ m ∈ st', m.r = l.r) (h' : ∀ l ∈ st', ∃ m ∈ st, m.r = l.r) : lcmL st = lcmL st' :=
  Nat.dvd_antisymm (lcmL_least fun l hl => by obtain ⟨m, hm, e⟩ := h l hl; rw [← e]; exact lcmL_mem hm) (lcmL_least fun l hl => by obtain ⟨m, hm, e⟩ := h' l hl; rw [← e]; exact lcmL_mem hm)
theorem homeP_eq {st st' : List Lane} (ok : StOk st) (ok' : StOk st') (hb : ∀ d, homeB st d = homeB st' d) (hl : lcmL st = lcmL st') (h : tornF st = none) : homeP st = homeP st' := by
  have h2 : tornF st' = none := (torn_none_iff ok').mpr (by
    obtain ⟨d, hd⟩ := (torn_none_iff ok).mp h
    exact ⟨d, by rw [← hb]; exact hd⟩)
  rw [homeP_none h, homeP_none h2]
  have : homesL st = homesL st' := by unfold homesL; rw [hl]; exact List.filter_congr fun d _ => hb d
  unfold firstD
  rw [this, hl]
/-- shapes -/
theorem sh_S {x : Str} (h : (PyData.str x).canLay0 = true := by decide +kernel) : Sh (S x) (.str x) 0 := ⟨by unfold pd pdV; rfl, h, Nat.zero_le _⟩
theorem eqv_str (x y : Str) : PyData.eqv (.str x) (.str y) = decide (x = y) := by
  by_cases h : x = y
  · subst h; simp [PyData.eqv]
  · simp [PyData.eqv, h]
theorem tag_ok (st : List Lane) : (homeP st).1 = ("never" : Str) ∨ (homeP st).1 = ("nights" : Str) := by
  cases e : tornF st with
  | some p => obtain ⟨i, j⟩ := p; rw [homeP_some e]; exact .inl rfl
  | none => rw [homeP_none e]; exact .inr rfl
theorem sh_tag {tag : Str} (h : tag = ("never" : Str) ∨ tag = ("nights" : Str)) : Sh (S tag) (.str tag) 0 := by
  rcases h with rfl | rfl <;> exact sh_S
theorem sh_UU {tag : Str} (h : tag = ("never" : Str) ∨ tag = ("nights" : Str)) (i j : Int) : Sh (tU tag i j) (dU tag i j) 1 := sh_tup (shl_cons (sh_tag h) (shl_cons (sh_I _) (shl_cons (sh_I _) shl_nil)))
theorem sh_home (st : List Lane) : Sh (homeT st) (dU (homeP st).1 (homeP st).2.1 (homeP st).2.2) 1 := sh_UU (tag_ok st) _ _
theorem eqv_U (t u : Str) (i j k l : Int) : PyData.eqv (dU t i j) (dU u k l) = decide (t = u ∧ i = k ∧ j = l) := by
  unfold dU
  rw [PyData.eqv, PyData.eqvAll, PyData.eqvAll, PyData.eqvAll, PyData.eqvAll, eqv_str, eqv_int, eqv_int]
  by_cases h1 : t = u <;> by_cases h2 : i = k <;> by_cases h3 : j = l <;> simp [h1, h2, h3]
theorem eqT_home {st st' : List Lane} (h : homeP st = homeP st') : eqT (homeT st) (homeT st') = true := by
  rw [(sh_home st).eqT (sh_home st'), eqv_U, h]; simp
theorem eqT_S {x y : Str} (hx : (PyData.str x).canLay0 = true := by decide +kernel) (hy : (PyData.str y).canLay0 = true := by decide +kernel) : eqT (S x) (S y) = decide (x = y) := by
  rw [(sh_S hx).eqT (sh_S hy), eqv_str]
theorem eqT_B (x y : Bool) : eqT (B x) (B y) = decide (x = y) := by
  rw [(sh_B x).eqT (sh_B y)]
  cases x <;> cases y <;> simp [PyData.eqv]
def twoTw (n : Int) (a b : Lane) : Tw := ⟨n, [a, b], [], []⟩
def stTw (n : Int) (st : List Lane) : Tw := ⟨n, st, [], []⟩
theorem stTw_made (n : Int) (st : List Lane) : (stTw n st).made = stTw n st := by
  unfold stTw Tw.made
  show Tw.mk n st (sortP []) (sortI []) = _
  have e1 : sortP [] = [] := List.length_eq_zero_iff.mp (sortP_perm []).length_eq
  have e2 : sortI [] = [] := List.length_eq_zero_iff.mp (sortI_perm []).length_eq
  rw [e1, e2]
theorem stTw_ok {q : Tw} (ok : PartsOk q) {st : List Lane} (h : ∀ l ∈ st, l ∈ q.st) (h12 : st.length ≤ 12) : PartsOk (stTw q.n st) :=
  ⟨ok.n1, ok.n8, fun l hl => ok.st l (h l hl), h12, ⟨fun p hp => (nomatch hp), List.nodup_nil⟩, ⟨fun p hp => (nomatch hp), List.nodup_nil⟩⟩
theorem PartsOk.stOk {q : Tw} (ok : PartsOk q) : StOk q.st := ⟨ok.s12, fun l hl => ⟨(ok.st l hl).r1, (ok.st l hl).r2⟩⟩
section
variable {cm : Bool} {CX : CXT} {P : Program} {w : World} {K : PySem.W.Frag} {mg : Str → Option Value} {base : Heap} {k : Nat} {N : List Str} {sc : Scope} {fs : Str → Bool} {X : Cx}
variable {tg iter elt : Expr} {ifs : List Expr} {ρ : TEnv} {L L1 : Store} {pos : Pos} {x : Str}
theorem wlc1 {scope : Scope} {own : List (Str × Nat)} {js : List Nat} {α : Type} {xs : List α} {f : α → T} {pf : α → Bool} {gf : α → T} {ρf : α → TEnv} {p1 p' : Pos} {rest : List Stmt} {kk : TK} (ct : Cq true CX P w K mg base k N sc fs X) (n : Nat)
    (hi : EvI X tg iter ρ L (xs.map f) L1) (hz : xs.length ≤ 100000)
    (ht : ∀ x ∈ xs, ∀ Y, Bk CX P w K mg base k N sc scope Y → TgT Y tg js (f x) (wipeT ρ (own.map (·.2))) (ρf x) L1) (hc : ∀ x ∈ xs, ∀ Y, Bk CX P w K mg base k N sc scope Y → EvC Y ifs (ρf x) L1 (pf x) L1)
    (he : ∀ x ∈ xs, pf x = true → ∀ Y, Bk CX P w K mg base k N sc scope Y → Ev Y elt (ρf x) L1 (.v (gf x)) L1) (h : WS X rest (ρ.set n (some (.lst ((xs.filter pf).map gf)))) L1 kk)
    (hx : locOk N sc fs n x = true := by decide +kernel) (hxl : sc.names.lookup x = some .local := by decide +kernel) (ok : blkC N sc scope own = true := by decide +kernel) (hk : scope.kind = .function := by rfl) (hjs : ∀ j ∈ js, j ∈ own.map (·.2) := by decide)
    (hsw : (p'.line == p1.line) = true := by rfl) (ha : (scope.names.any fun (n, k) => n == x && (k == .local || k == .cell)) = false := by decide +kernel) (hs : ∀ x, foldedSetIterable iter X.env x = pure x := by intro _; rfl) : WS X (.Assign [.Name x p'] (.ListComp elt [⟨tg, iter, ifs, 0⟩] scope p1) pos :: rest) ρ L kk :=
  wlc ct n hx hxl ok hi hz ht hc he h hk hjs hsw ha hs
theorem wlc0 {scope : Scope} {own : List (Str × Nat)} {js : List Nat} {α : Type} {xs : List α} {f : α → T} {gf : α → T} {ρf : α → TEnv} {p1 p' : Pos} {rest : List Stmt} {kk : TK} (ct : Cq true CX P w K mg base k N sc fs X) (n : Nat)
    (hi : EvI X tg iter ρ L (xs.map f) L1) (hz : xs.length ≤ 100000)
    (ht : ∀ x ∈ xs, ∀ Y, Bk CX P w K mg base k N sc scope Y → TgT Y tg js (f x) (wipeT ρ (own.map (·.2))) (ρf x) L1)
    (he : ∀ x ∈ xs, ∀ Y, Bk CX P w K mg base k N sc scope Y → Ev Y elt (ρf x) L1 (.v (gf x)) L1) (h : WS X rest (ρ.set n (some (.lst (xs.map gf)))) L1 kk)
    (hx : locOk N sc fs n x = true := by decide +kernel) (hxl : sc.names.lookup x = some .local := by decide +kernel) (ok : blkC N sc scope own = true := by decide +kernel) (hk : scope.kind = .function := by rfl) (hjs : ∀ j ∈ js, j ∈ own.map (·.2) := by decide)
    (hsw : (p'.line == p1.line) = true := by rfl) (ha : (scope.names.any fun (n, k) => n == x && (k == .local || k == .cell)) = false := by decide +kernel) (hs : ∀ x, foldedSetIterable iter X.env x = pure x := by intro _; rfl) : WS X (.Assign [.Name x p'] (.ListComp elt [⟨tg, iter, [], 0⟩] scope p1) pos :: rest) ρ L kk := by
  refine wlc1 (pf := fun _ => true) (own := own) (js := js) ct n hi hz ht (fun _ _ _ _ => ec_nil) (fun x hx _ => he x hx) ?_ hx hxl ok hk hjs hsw ha hs
  rw [List.filter_eq_self.mpr (fun _ _ => rfl)]
  exact h
end
section
variable {X : Cx} {es : List Expr} {ρ : TEnv} {L L1 Lb : Store} {t : T} {ts : List T}
theorem eaN {n : Str} {p : Pos} (ha : Ev X (.Name n p) ρ L (.v t) L1) (hb : EvA X es ρ L1 ts Lb) : EvA X (.Name n p :: es) ρ L (t :: ts) Lb := ea_cons ha hb se1
theorem eaC {c : Const} {j p} (ha : Ev X (.Constant c j p) ρ L (.v t) L1) (hb : EvA X es ρ L1 ts Lb) : EvA X (.Constant c j p :: es) ρ L (t :: ts) Lb := ea_cons ha hb se2
theorem eaL {l : List Expr} {p : Pos} (ha : Ev X (.List l p) ρ L (.v t) L1) (hb : EvA X es ρ L1 ts Lb) : EvA X (.List l p :: es) ρ L (t :: ts) Lb := ea_cons ha hb se3
theorem eaT {l : List Expr} {j p} (ha : Ev X (.Tuple l j p) ρ L (.v t) L1) (hb : EvA X es ρ L1 ts Lb) : EvA X (.Tuple l j p :: es) ρ L (t :: ts) Lb := ea_cons ha hb se4
theorem eaK {f : Expr} {l k p} (ha : Ev X (.Call f l k p) ρ L (.v t) L1) (hb : EvA X es ρ L1 ts Lb) : EvA X (.Call f l k p :: es) ρ L (t :: ts) Lb := ea_cons ha hb se5
theorem eaB {x y : Expr} {o p} (ha : Ev X (.BinOp x o y p) ρ L (.v t) L1) (hb : EvA X es ρ L1 ts Lb) : EvA X (.BinOp x o y p :: es) ρ L (t :: ts) Lb := ea_cons ha hb se6
theorem eaS {x y : Expr} {p} (ha : Ev X (.Subscript x y p) ρ L (.v t) L1) (hb : EvA X es ρ L1 ts Lb) : EvA X (.Subscript x y p :: es) ρ L (t :: ts) Lb := ea_cons ha hb se7
theorem eaA {x : Expr} {n p} (ha : Ev X (.Attribute x n p) ρ L (.v t) L1) (hb : EvA X es ρ L1 ts Lb) : EvA X (.Attribute x n p :: es) ρ L (t :: ts) Lb := ea_cons ha hb se8
theorem eaM {x : Expr} {g s p} (ha : Ev X (.ListComp x g s p) ρ L (.v t) L1) (hb : EvA X es ρ L1 ts Lb) : EvA X (.ListComp x g s p :: es) ρ L (t :: ts) Lb := ea_cons ha hb se9
end
end TL


/-! Rules that the hand layer lacks: list += list, set(list of ints), sum of a tuple, in a tuple, a sequence backwards. -/
namespace TL
open PySem PySem.Spec PyProof.Rows L2
section
variable {prog : Program} {w : World} {A : Around} {E : Value → Shared → Prop} {s : Shared} {l b : Addr} {items items2 : Array Value} {n n2 : Nat}
theorem iadd_list {Q : Value → Shared → Prop} (hl : s.heap.get? l = some { cls := .type "list", dict := none, data := .seq items n, slots := #[] }) (hb : s.heap.get? b = some { cls := .type "list", dict := none, data := .seq items2 n2, slots := #[] })
    (h0 : ¬(!items.isEmpty && Builtin.List.listTooLong (items.size + items2.size)) = true) (h1 : items.size ≤ sizeLine) (h2 : items.size + items2.size ≤ sizeLine + 1)
    (h : Q (.ref l) { s with heap := s.heap.update l (Obj.mapSeq fun x => x ++ items2) }) : wpAny (model prog w) A (inplaceOp .Add (.ref l) (.ref b)) Q E s := by
  have ta : s.TypeIs (.ref l) "list" := ⟨_, hl, rfl⟩
  have tb : s.TypeIs (.ref b) "list" := ⟨_, hb, rfl⟩
  unfold inplaceOp
  refine wpAny_holding ?_
  have hsq : isSeqSlot (some (.builtin "list.__iadd__")) = true := by decide +kernel
  have hfi : fillsInplaceSlot (.type "list") "add" (Operator.Add == .Add) = pure false := by
    unfold fillsInplaceSlot
    show (typeLookup (.type "list") (dunderI "add") >>= fun fi => pure (fi.isSome && !isSeqSlot fi)) = pure false
    rw [F.slot_list_iadd.lookup]
    show (pure (true && !isSeqSlot (some (.builtin "list.__iadd__"))) : Sem Bool) = pure false
    rw [hsq]; rfl
  refine wpAny_bind (wpAny_typeOf ta (wpAny_bind (wpAny_of_eq hfi ?_)))
  show wpAny _ A (if false = true then _ else _) Q E s
  rw [if_neg Bool.false_ne_true]
  refine wpAny_bind (wpAny_binaryOp1_none (nm := "add") ta tb noFill_list_add ?_)
  refine wpAny_bind (wpAny_of_eq (PySem.seqSlot_of F.slot_list_iadd.lookup hsq) ?_)
  refine wpAny_bind (wpAny_rule ?_)
  exact call_meets F.slot_list_iadd ta F.entry_list_iadd (F.args_list_iadd_2 _ _) (AutoSeq1.list___iadd___list_list_0 l items n b items2 n2 h0 h1 h2) ⟨hl, hb, h⟩
end
section
open PySem.Calls PyProof.V
variable {prog : Program} {w : World} {A : Around} {E : Value → Shared → Prop} {s : Shared}
theorem sum_tup {t : Addr} {its : Array Value} {ns : List Int} {Q : Value → Shared → Prop} (hh : A.handled = none) (ht : s.heap.IsTuple t its) (hi : IntsAre its.toList ns)
    (h : ∀ h' tk t', (∀ b o, s.heap.get? b = some o → h'.get? b = some o) → Q (.int ns.sum t') { s with heap := h', toks := tk }) : wpAny (model prog w) A (call (.builtin "sum") [.ref t]) Q E s := by
  have hm := hi.numsOf
  obtain ⟨xs, hx⟩ := hi.allInts.items
  have e : its = intItems xs := by rw [← hx]
  subst e
  rw [nums_intItems] at hm
  refine PySem.W.ktm_sumG hh ht fun h' tk t' hk => ?_
  have := h h' tk t' hk
  rw [preSum_eq, List.take_of_length_le (by simp), hm]
  exact this
end
section
open PySem.Calls
variable {prog : Program} {w : World} {A : Around} {E : Value → Shared → Prop} {s : Shared}
/-- an empty set, new -/
abbrev set0 (w : World) : Obj := { cls := .type "set", dict := none, data := .set #[] 0 (.fresh 0 0 (!w.params.followText "set-order")) }
/-- set(l) of a list of ints: what the made set holds -/
theorem set_listR {l : Addr} {its : Array Value} (ns : List Int) {Q : Value → Shared → Prop} (hcalm : A.handled = none) (isL : s.heap.IsList l its) (isI : IntsAre its.toList ns) (few : ns.length + 1 < scanBound)
    (q : ∀ (h' : Heap) (tk c : Nat), SetR w h' s.heap.objs.size (fun j => decide (j ∈ ns)) c → c ≤ ns.length → (∀ b o, s.heap.get? b = some o → h'.get? b = some o) → Q (.ref s.heap.objs.size) { s with heap := h', toks := tk }) :
    wpAny (model prog w) A (call (.type "set") [.ref l]) Q E s := by
  have size_eq : its.size = ns.length := by rw [← Array.length_toList]; exact IntsAre.length isI
  have mro := F.called_set.mro
  obtain ⟨c0, tl0, mro⟩ := mro
  have made := F.called_set.made
  have sub := F.called_set.sub
  refine wpAny_call (codeAny_of_tree (show wpAny _ _ (callAny (.type "set") _) _ _ _ from wpAny_pure ⟨Code.quiet_builtin _ (by decide +kernel), codeAny_builtin F.entry_type_call ?_⟩))
  rw [Around.under_plain (weight_type_call_type "set" [.ref l] []) rfl]
  have k1 := F.called_set.notType
  have k2 := F.called_set.canCreate
  have k3 := F.typeCall_set_1 (.ref l)
  repeat (any_goals (first | assumption | wp_step))
  refine codeAny_mono (L2.code_set_led1 (P := prog) (w := w) (.ref l) (E := E) (Q₁ := fun x s₁ => x = .ref s.heap.objs.size ∧ s₁ = { s with heap := s.heap.push (set0 w) }) ⟨rfl, rfl⟩) fun r s₁ hr => ?_
  rcases r with e | fl
  · exact hr
  rcases fl with _ | _ | _ | x
  all_goals first | exact hr.elim | skip
  obtain ⟨rfl, rfl⟩ := hr
  have atS : (s.heap.push (set0 w)).get? s.heap.objs.size = some (set0 w) := Heap.get?_push_size _ rfl
  have tyS : Shared.TypeIs { s with heap := s.heap.push (set0 w) } (.ref s.heap.objs.size) "set" := ⟨_, atS, rfl⟩
  have look := F.called_set.init.lookup
  have bind := F.called_set.init.bind (.ref s.heap.objs.size)
  repeat (any_goals (first | assumption | wp_step))
  refine codeAny_mono (codeAny_call_builtin (R := wants (fun r s₂ => r = .none ∧ ∃ h' tk c, s₂ = { s with heap := h', toks := tk } ∧ SetR w h' s.heap.objs.size (fun j => decide (j ∈ ns)) c ∧ c ≤ ns.length ∧
    (∀ b o, s.heap.get? b = some o → h'.get? b = some o)) E) F.called_set.init.plain F.entry_set_init (check_set_init_1 tyS ?ini)) fun r₂ s₂ hr₂ => ?fin
  case fin =>
    rcases r₂ with e | fl
    · exact hr₂
    rcases fl with _ | _ | _ | x
    all_goals first | exact hr₂.elim | skip
    obtain ⟨rfl, h', tk, c, rfl, a1, a2, a3⟩ := hr₂
    repeat (any_goals (first | assumption | wp_step))
    exact q _ _ _ a1 a2 a3
  case ini =>
    obtain ⟨ol, atL, clsL, nl, datL⟩ := isL
    obtain ⟨ocls, odict, odata, oslots⟩ := ol
    simp only at clsL datL
    subst clsL; subst datL
    have atL1 : (s.heap.push (set0 w)).get? l = some { cls := .type "list", dict := odict, data := .seq its nl, slots := oslots } := Heap.get?_push_of_some _ atL
    have sb1 := F.sub_list_set
    have sb2 := F.sub_list_frozenset
    have nodict : (Value.type "list" == Value.type "dict") = false := by decide
    have isL1 : (s.heap.push (set0 w)).IsList l its := ⟨_, atL1, rfl, nl, rfl⟩
    unfold Builtin.«set.__init__» noKeywords Builtin.Frozenset.updateFrom
    generalize hIter : pyIter = Iter
    wp_walk
    subst hIter
    refine wpAny_pyIter_list isL1 ?_
    refine wpAny_bind (wpAny_runValue ?_)
    have lt0 : l < s.heap.objs.size := Heap.lt_size atL
    have calm3 : A.in1.in1.in1.handled = none := by simp [hcalm]
    have sz1 : (s.heap.push (set0 w)).objs.size = s.heap.objs.size + 1 := Heap.size_push ..
    have ne1 : l ≠ (s.heap.push (set0 w)).objs.size := sz1 ▸ Nat.ne_of_lt (Nat.lt_succ_of_lt lt0)
    have away : s.heap.objs.size ∉ [(s.heap.push (set0 w)).objs.size, l] := by
      rw [sz1]
      simp only [List.mem_cons, List.not_mem_nil, or_false, not_or]
      exact And.intro (Nat.ne_of_lt (Nat.lt_succ_self s.heap.objs.size)) (Nat.ne_of_gt lt0)
    have vals : ∀ (i : Nat) (v : Value), its[i]? = some v → ∃ k t, ns[i]? = some k ∧ v = .int k t := fun i v hv => by
      have hi : i < ns.length := size_eq ▸ (Array.getElem?_eq_some_iff.mp hv).1
      obtain ⟨t, e⟩ := PyProof.Rows.IntsAre.int_at isI i v (by rw [Array.getElem?_toList]; exact hv)
      exact ⟨ns[i], t, List.getElem?_eq_getElem hi, by rw [e, List.getD_eq_getElem?_getD, List.getElem?_eq_getElem hi] <;> rfl⟩
    have start := (⟨_, Heap.get?_push_size _ rfl, rfl, rfl⟩ : ((s.heap.push (set0 w)).push { cls := .type "list_iterator", data := .fields #[.ref l, .int 0 0] }).IsListIter (s.heap.push (set0 w)).objs.size l 0)
    refine L2.set_update_ints ((Walks.list calm3 _ l ne1 its).toS) s.heap.objs.size away ns size_eq few vals (its.size - 0) 0 _ (by omega) (Nat.zero_le _) ⟨start, (isL1.push _)⟩ ⟨0, Nat.le_refl 0, L2.setR_new_at (Heap.get?_push_of_some _ atS)⟩ fun s' c' moved le' isS => ?_
    obtain ⟨h', g2, d', tk', os'⟩ := s'
    obtain rfl : g2 = s.gens := moved.gens
    obtain rfl : d' = s.drawn := moved.drawn
    obtain rfl : os' = s.os := moved.os
    show wpAny _ _ _ _ _ _
    refine wpAny_pure ?_
    show wpAny _ _ (ret Value.none) _ _ _
    refine wpAny_pure ⟨rfl, h', tk', c', rfl, isS, size_eq ▸ le', fun b o e => ?_⟩
    have lb : b < s.heap.objs.size := Heap.lt_size e
    refine moved.heap b o ?_ (Heap.get?_push_of_some _ (Heap.get?_push_of_some _ e))
    simp only [List.mem_cons, List.not_mem_nil, or_false, not_or]
    rw [sz1]
    exact And.intro (Nat.ne_of_lt lb) (Nat.ne_of_lt (Nat.lt_succ_of_lt lb))
end
section
variable {X : Cx}
/-- += of lists, in place -/
def ipL : TIp := fun x y H Q => ∃ l b xs zs, x = .ref l ∧ y = .ref b ∧ H l = some (.lst xs) ∧ H b = some (.lst zs) ∧ xs.length + zs.length ≤ 100000 ∧ Q (.ref l) (upd H l (.lst (xs ++ zs)))
theorem ip_catL : PIp X .Add ipL := by
  intro pins s σ H x y v u Q I rx ry h
  obtain ⟨l, b, xs, zs, rfl, rfl, hH, hB, hz, q⟩ := h
  cases rx
  cases ry
  obtain ⟨z, its, n, r, hl, e⟩ := I.lstM hH
  obtain ⟨z2, its2, n2, r2, hl2, e2⟩ := I.lstM hB
  have h5 : (100000 : Nat) ≤ sizeLine := by decide
  have hsz : its.toArray.size + its2.toArray.size ≤ sizeLine := by rw [List.size_toArray, List.size_toArray]; omega
  have hlong : ¬ (!its.toArray.isEmpty && Builtin.List.listTooLong (its.toArray.size + its2.toArray.size)) = true := by
    rw [notLongL hsz, Bool.and_false]
    exact Bool.false_ne_true
  refine iadd_list e e2 hlong (by omega) (by omega) ?_
  exact ⟨.ref _, _, I.lset (its' := its ++ its2) hH e (by simp) (r.append r2) (by rw [List.length_append]; omega), rfl, q⟩
/-- sum of a tuple of ints -/
def rSumT (K : PySem.W.Frag) : List V → Hp → VK → Prop := fun vs H Q => ∃ (a : Addr) (ns : List Int), vs = [V.ref a] ∧ SqT K H a (ns.map V.int) ∧ Q (.int ns.sum) H
theorem cr_sumT (hc : X.calm = true) : CallR X (.builtin "sum") (rSumT X.K) := by
  intro pins s σ H vs us Q I r h
  obtain ⟨a, ns, rfl, hs, q⟩ := h
  obtain ⟨its, rv, pt, hz⟩ := I.tuple hs
  rw [Vals.ref1 r]
  exact sum_tup (I.ok.hd hc) (show s.heap.IsTuple a its.toArray from pt) (by simpa using rv.ints) fun h' tk t' hk => ⟨.int _, H, I.kept hk, ⟨_, rfl⟩, q⟩
/-- set of a list of ints -/
def rSetL (K : PySem.W.Frag) (w : World) : List V → Hp → VK → Prop := fun vs H Q => ∃ (a : Addr) (ns : List Int), vs = [V.ref a] ∧ SqL K H a (ns.map V.int) ∧ ns.length ≤ 1000 ∧
  ∀ (p : Addr) (c : Nat), H p = none → c ≤ ns.length → Q (.ref p) (upd H p (SetO w p (fun j => decide (j ∈ ns)) c))
theorem cr_setL (hc : X.calm = true) : CallR X (.type "set") (rSetL X.K X.w) := by
  intro pins s σ H vs us Q I r h
  obtain ⟨a, ns, rfl, hs, hz, q⟩ := h
  obtain ⟨its, rv, pl, _⟩ := I.list hs
  rw [Vals.ref1 r]
  refine set_listR (prog := X.prog) (w := X.w) ns (I.ok.hd hc) pl.isList (by simpa using rv.ints) (by unfold scanBound; omega) fun h' tk c R hcn k => ?_
  exact ⟨.ref s.heap.objs.size, upd H s.heap.objs.size (SetO X.w s.heap.objs.size (fun j => decide (j ∈ ns)) c), I.laid (t' := tk) k (Nat.le_refl _) (setO_new R), rfl, q _ c (I.hok.fresh (Nat.le_refl _)) hcn⟩
/-- x in a tuple of data -/
def rInTD (K : PySem.W.Frag) (neg : Bool) : R2 := fun x y H Q => ∃ d ds, Dp K H x d ∧ Dp K H y (.tuple ds) ∧ SeqAt.shaped d = true ∧ SeqAt.shaped (.tuple ds) = true ∧ Q (.bl (if neg = true then !ds.any fun z => PyData.eqv z d else ds.any fun z => PyData.eqv z d)) H
theorem op_inTD (room : X.A.units + 65 < cLine) : OpR X (compareOp .In) (rInTD X.K false) := fun pins s σ H x y v u Q Iv r1 r2 ⟨d, ds, p1, p2, shd, shs, q⟩ => by
  have ⟨_, rd1⟩ := Dp.reads Iv d x v p1 r1
  have ⟨_, rd2⟩ := Dp.reads Iv (.tuple ds) y u p2 r2
  exact SeqAt.in_tuple_reads rd2 rd1 (SeqAt.canLay_of_shaped shs) (SeqAt.canLay_of_shaped shd) (room_in_shaped shd room) ⟨.bl _, H, Iv, rfl, q⟩
theorem op_notInTD (room : X.A.units + 65 < cLine) : OpR X (compareOp .NotIn) (rInTD X.K true) := fun pins s σ H x y v u Q Iv r1 r2 ⟨d, ds, p1, p2, shd, shs, q⟩ => by
  have ⟨_, rd1⟩ := Dp.reads Iv d x v p1 r1
  have ⟨_, rd2⟩ := Dp.reads Iv (.tuple ds) y u p2 r2
  exact SeqAt.notIn_tuple_reads rd2 rd1 (SeqAt.canLay_of_shaped shs) (SeqAt.canLay_of_shaped shd) (room_in_shaped shd room) ⟨.bl _, H, Iv, rfl, q⟩
end
end TL


/-! The tree layer, part I: sets of ints that are sorted, list += list, sums, in a tuple, lists as cells. -/
namespace TL
open PySem PySem.Spec PyProof.Rows L2
def sortU (ns : List Int) : List Int := sortI ns.eraseDups
theorem mem_sortU {ns : List Int} {k : Int} : k ∈ sortU ns ↔ k ∈ ns := by
  unfold sortU
  rw [(sortI_perm _).mem_iff, List.mem_eraseDups]
theorem nodup_eraseDups : ∀ (n : Nat) (ns : List Int), ns.length ≤ n → ns.eraseDups.Nodup
  | _, [], _ => by simp
  | n + 1, a :: l, h => by
    rw [List.eraseDups_cons]
    refine List.nodup_cons.mpr ⟨fun hm => ?_, nodup_eraseDups n _ ?_⟩
    · rw [List.mem_eraseDups, List.mem_filter] at hm
      simp at hm
    · have := List.length_filter_le (fun b => !b == a) l
      simp only [List.length_cons] at h
      omega
theorem sortU_strict (ns : List Int) : (sortU ns).Pairwise (· < ·) := by
  unfold sortU
  have h1 := sortI_sorted ns.eraseDups
  have h2 : (sortI ns.eraseDups).Nodup := (sortI_perm _).nodup_iff.mpr (nodup_eraseDups _ _ (Nat.le_refl _))
  have := List.Pairwise.and h1 h2
  exact this.imp fun {a b} h => by have := h.1; have := h.2; omega
theorem strict_uniq : ∀ {l m : List Int}, l.Pairwise (· < ·) → m.Pairwise (· < ·) → (∀ k, k ∈ l ↔ k ∈ m) → l = m
  | [], [], _, _, _ => rfl
  | [], b :: m, _, _, h => by have := (h b).mpr List.mem_cons_self; cases this
  | a :: l, [], _, _, h => by have := (h a).mp List.mem_cons_self; cases this
  | a :: l, b :: m, h1, h2, h => by
    obtain ⟨a1, a2⟩ := List.pairwise_cons.mp h1
    obtain ⟨b1, b2⟩ := List.pairwise_cons.mp h2
    have e : a = b := by
      rcases List.mem_cons.mp ((h a).mp List.mem_cons_self) with e | e
      · exact e
      · rcases List.mem_cons.mp ((h b).mpr List.mem_cons_self) with e2 | e2
        · exact e2.symm
        · have := a1 _ e2; have := b1 _ e; omega
    subst e
    refine congrArg _ (strict_uniq a2 b2 fun k => ⟨fun hk => ?_, fun hk => ?_⟩)
    · rcases List.mem_cons.mp ((h k).mp (List.mem_cons_of_mem _ hk)) with e | e
      · have := a1 k hk; omega
      · exact e
    · rcases List.mem_cons.mp ((h k).mpr (List.mem_cons_of_mem _ hk)) with e | e
      · have := b1 k hk; omega
      · exact e
theorem sortU_eq {ns ms : List Int} (h1 : ms.Pairwise (· < ·)) (h2 : ∀ k, k ∈ ms ↔ k ∈ ns) : ms = sortU ns := strict_uniq h1 (sortU_strict ns) fun k => (h2 k).trans mem_sortU.symm
theorem sortU_congr {ns ms : List Int} (h : ∀ k, k ∈ ms ↔ k ∈ ns) : sortU ms = sortU ns := sortU_eq (sortU_strict ms) fun k => mem_sortU.trans (h k)
section
variable {cm : Bool} {CX : CXT} {P : Program} {w : World} {K : PySem.W.Frag} {mg : Str → Option Value} {base : Heap} {k : Nat} {N : List Str} {sc : Scope} {fs : Str → Bool} {X : Cx}
variable {e a b c tg iter elt : Expr} {es ifs : List Expr} {ρ ρ' ρ1 : TEnv} {L L1 Lb Lc : Store} {t u : T} {ts us : List T} {pos p p2 pos2 : Pos} {i j : Int} {x : Str} {z : R} {ss rest : List Stmt} {kk : TK}
/-- sorted(set(ints)) -/
theorem ev_sortSet {ns : List Int} (ct : Cq true CX P w K mg base k N sc fs X) (hm : mg "sorted" = none) (hm2 : mg "set" = none) (ha : EvA X [e] ρ L [t] L1) (hl : LstT L1 t (ns.map I)) (hz : ns.length < 64) (hg : glOk sc "sorted" = true := by decide +kernel) (hg2 : glOk sc "set" = true := by decide +kernel)
    (he : starEach [e] X.env = (false, eval e X.env) :: starEach [] X.env := by first | with_reducible exact se1 | with_reducible exact se2 | with_reducible exact se3 | with_reducible exact se4 | with_reducible exact se5 | with_reducible exact se6 | with_reducible exact se7 | with_reducible exact se8 | with_reducible exact se9 | rfl) (hpl : (backTo pos2 (starEach [] X.env)).any (·.1) = false := by rfl) (hpl2 : (backTo pos (starEach [] X.env)).any (·.1) = false := by rfl) :
    Ev X (.Call (.Name "sorted" p) [.Call (.Name "set" p2) [e] [] pos2] [] pos) ρ L (.n (.lst ((sortU ns).map I))) L1 := by
  refine ⟨fun W H σ Q s en q => ?_⟩
  refine wp_pe (pe_callB (cr_sortedSet (ct.calm rfl)) (ct.gl hg) (by rw [ct.hmg]; exact hm) PyProof.Rows.boot_sorted (pa_cons (pe_callTy (cr_setL (ct.calm rfl)) (ct.gl hg2) (by rw [ct.hmg]; exact hm2) PyProof.Rows.boot_set pa_wp (glOk_of hg2).2.2 (glOk_of hg2).2.1 he hpl) pa_nil se5) (glOk_of hg).2.2 (glOk_of hg).2.1 se5 hpl2) ?_
  refine ha W H σ _ s en fun xs W1 H1 st1 s1 r1 => ?_
  obtain ⟨x, rfl, r⟩ := rp1 r1
  obtain ⟨l, vs, rfl, hq, rr⟩ := lst_sq s1 r hl
  have e1 := RpL.atoms V.int rr
  subst e1
  refine ⟨l, ns, rfl, hq, by omega, fun p1 c hp hc => ?_⟩
  refine ⟨p1, fun j => decide (j ∈ ns), c, rfl, upd_same, by omega, fun ms p3 h1 h2 h3 hp3 => ?_⟩
  have e2 : ms = sortU ns := sortU_eq h1 fun k => (h2 k).trans (by simp)
  subst e2
  have st2 : Step W1 L1 H1 W1 L1 (upd H1 p1 (SetO X.w p1 (fun j => decide (j ∈ ns)) c)) := .newp hp
  have s2 := s1.new (o := SetO X.w p1 (fun j => decide (j ∈ ns)) c) hp
  refine q _ W1 _ (st1.trans (st2.trans (.newp hp3))) (s2.new hp3) (((new_n (t := .lst _) s2 hp3 ⟨_, upd_same, RpL.of_atoms V.int _⟩).back st2.dom).back st1.dom)
/-- sum of a pair -/
theorem ksumP {q : Int × Int} (ct : Cq true CX P w K mg base k N sc fs X) (hm : mg "sum" = none) (ha : EvA X [e] ρ L [tPair q] L1) (hg : glOk sc "sum" = true := by decide +kernel)
    (he : starEach [e] X.env = (false, eval e X.env) :: starEach [] X.env := by first | with_reducible exact se1 | with_reducible exact se2 | with_reducible exact se3 | with_reducible exact se4 | with_reducible exact se5 | with_reducible exact se6 | with_reducible exact se7 | with_reducible exact se8 | with_reducible exact se9 | rfl) (hpl : (backTo pos (starEach [] X.env)).any (·.1) = false := by rfl) : Ev X (.Call (.Name "sum" p) [e] [] pos) ρ L (.v (I (q.1 + q.2))) L1 :=
  ev_cb ct (cr_sumT (ct.calm rfl)) (by decide +kernel) hm hg ha (fun W H xs Q s r0 g => by
    obtain ⟨x, rfl, r⟩ := rp1 r0
    cases r with
    | tup f h rr =>
      have e1 := RpL.atoms (l := [q.1, q.2]) V.int rr
      subst e1
      exact ⟨_, [q.1, q.2], rfl, .inl (.inl h), by rw [show ([q.1, q.2] : List Int).sum = q.1 + q.2 by simp]; exact g _ W H .refl s (.v _)⟩) he hpl
theorem ot_inTD (h1 : shp t = true) (h2 : shp (.tup ts) = true) : OpT K (rInTD K false) t (.tup ts) L (.v (B (inT t (.tup ts)))) := fun W H x y Q s r1 r2 q => by
  obtain ⟨d, e1, s1⟩ := shp_of h1
  obtain ⟨e, e2, s2⟩ := shp_of h2
  have ⟨ds, e4, e3⟩ : ∃ ds, e = .tuple ds ∧ pdL ts = some ds := by
    unfold pd at e2
    cases q : pdL ts with
    | none => rw [q] at e2; cases e2
    | some ds => rw [q] at e2; cases e2; exact ⟨ds, rfl, rfl⟩
  subst e4
  refine ⟨d, ds, dp_of t x d r1 e1, dp_of _ y _ r2 e2, s1, s2, ?_⟩
  rw [if_neg Bool.false_ne_true, any_pd e3 e1]
  exact q _ W H .refl s (.v _)
theorem ev_inTt (ct : Cq cm CX P w K mg base k N sc fs X) (ha : Ev X a ρ L (.v t) L1) (hb : Ev X b ρ L1 (.v (.tup ts)) Lb) (h1 : shp t = true) (h2 : shp (.tup ts) = true) (hm : behindInMarks .In b = false := by rfl) : Ev X (.Compare a [.In] [b] pos) ρ L (.v (B (inT t (.tup ts)))) Lb := ev_cmp (op_inTD ct.u65) ha hb (ot_inTD h1 h2) hm
theorem eb_inTt (ct : Cq cm CX P w K mg base k N sc fs X) (ha : Ev X a ρ L (.v t) L1) (hb : Ev X b ρ L1 (.v (.tup ts)) Lb) (h1 : shp t = true) (h2 : shp (.tup ts) = true) (hm : behindInMarks .In b = false := by rfl) : EvB X (.Compare a [.In] [b] pos) ρ L (inT t (.tup ts)) Lb := eb_cmp (op_inTD ct.u65) ha hb (ot_inTD h1 h2) hm
theorem inT_mapT {α : Type} [DecidableEq α] {f : α → T} (h : ∀ a b, eqT (f a) (f b) = decide (a = b)) (a : α) (l : List α) : inT (f a) (.tup (l.map f)) = decide (a ∈ l) := inT_map h a l
/-- name += list, name a cell -/
theorem waugL {p' : Pos} {m : Nat} (ct : Cq cm CX P w K mg base k N sc fs X) (n : Nat) (hρ : ρ[n]? = some (some (.cel m))) (he : Ev X e ρ L (.v u) L1) (hl : L1 m = some (.lst ts)) (hu : LstM L1 u us) (hne : u ≠ .cel m) (hz : ts.length + us.length ≤ 100000)
    (h : WS X rest (ρ.set n (some (.cel m))) (updS L1 m (some (.lst (ts ++ us)))) kk) (hx : locOk N sc fs n x = true := by decide +kernel) : WS X (.AugAssign (.Name x p') .Add e pos :: rest) ρ L kk := by
  refine ws_cons ?_
  refine ⟨fun W H σ D s en d => ?_⟩
  obtain ⟨h1, h2, h3, h4⟩ := ct.loc hx
  obtain ⟨y, e1, e2⟩ := en.2 n _ hρ
  refine wp_ps (ps_aug h1 h2 h3 pe_wp ip_catL h4) ⟨_, e1, ?_⟩
  refine he W H σ _ s en fun v W2 H2 st2 s2 r2 => ?_
  have r3 := e2.step st2 s
  cases r3 with
  | cel ha =>
    obtain ⟨vs, c1, c2⟩ := s2.cel m _ _ hl ha
    obtain ⟨b, zs, rfl, z1, z2⟩ := lst_m s2 r2 hu
    refine ⟨_, b, vs, zs, rfl, rfl, c1, z1, by rw [← c2.length, ← z2.length]; exact hz, ?_⟩
    have c3 : CellR X.K W2 (upd H2 _ (.lst (vs ++ zs))) (.lst (ts ++ us)) _ := ⟨_, upd_same, (c2.append z2).write s2 hl ha⟩
    have st3 := Step.write (t' := .lst (ts ++ us)) (H := H2) (o := .lst (vs ++ zs)) hl ha
    exact d.nx _ _ W2 _ _ (st2.trans st3) (s2.write hl ha c3) ((en.step (st2.trans st3) s).set (.cel ha)) h
/-- name = [..] on one line, the list a cell -/
theorem wlc1C {scope : Scope} {own : List (Str × Nat)} {js : List Nat} {α : Type} {xs : List α} {f : α → T} {pf : α → Bool} {gf : α → T} {ρf : α → TEnv} {p1 p' : Pos} (ct : Cq true CX P w K mg base k N sc fs X) (n : Nat)
    (hi : EvI X tg iter ρ L (xs.map f) L1) (hz : xs.length ≤ 100000)
    (ht : ∀ x ∈ xs, ∀ Y, Bk CX P w K mg base k N sc scope Y → TgT Y tg js (f x) (wipeT ρ (own.map (·.2))) (ρf x) L1) (hc : ∀ x ∈ xs, ∀ Y, Bk CX P w K mg base k N sc scope Y → EvC Y ifs (ρf x) L1 (pf x) L1)
    (he : ∀ x ∈ xs, pf x = true → ∀ Y, Bk CX P w K mg base k N sc scope Y → Ev Y elt (ρf x) L1 (.v (gf x)) L1) (h : ∀ m, L1 m = none → WS X rest (ρ.set n (some (.cel m))) (updS L1 m (some (.lst ((xs.filter pf).map gf)))) kk)
    (hx : locOk N sc fs n x = true := by decide +kernel) (hxl : sc.names.lookup x = some .local := by decide +kernel) (ok : blkC N sc scope own = true := by decide +kernel) (hk : scope.kind = .function := by rfl) (hjs : ∀ j ∈ js, j ∈ own.map (·.2) := by decide)
    (hsw : (p'.line == p1.line) = true := by rfl) (ha : (scope.names.any fun (n, k) => n == x && (k == .local || k == .cell)) = false := by decide +kernel) (hs : ∀ x, foldedSetIterable iter X.env x = pure x := by intro _; rfl) : WS X (.Assign [.Name x p'] (.ListComp elt [⟨tg, iter, ifs, 0⟩] scope p1) pos :: rest) ρ L kk := by
  refine ws_setLcC ct n hx hxl ok hi (lcP (f := f) (pf := pf) (gf := gf) ct hk hz hjs ht hc he) (fun m hm => ?_) hsw ha hs
  rw [List.length_map, made_map xs f pf gf (fun _ => True)]
  exact h m hm
theorem wlc0C {scope : Scope} {own : List (Str × Nat)} {js : List Nat} {α : Type} {xs : List α} {f : α → T} {gf : α → T} {ρf : α → TEnv} {p1 p' : Pos} (ct : Cq true CX P w K mg base k N sc fs X) (n : Nat)
    (hi : EvI X tg iter ρ L (xs.map f) L1) (hz : xs.length ≤ 100000)
    (ht : ∀ x ∈ xs, ∀ Y, Bk CX P w K mg base k N sc scope Y → TgT Y tg js (f x) (wipeT ρ (own.map (·.2))) (ρf x) L1)
    (he : ∀ x ∈ xs, ∀ Y, Bk CX P w K mg base k N sc scope Y → Ev Y elt (ρf x) L1 (.v (gf x)) L1) (h : ∀ m, L1 m = none → WS X rest (ρ.set n (some (.cel m))) (updS L1 m (some (.lst (xs.map gf)))) kk)
    (hx : locOk N sc fs n x = true := by decide +kernel) (hxl : sc.names.lookup x = some .local := by decide +kernel) (ok : blkC N sc scope own = true := by decide +kernel) (hk : scope.kind = .function := by rfl) (hjs : ∀ j ∈ js, j ∈ own.map (·.2) := by decide)
    (hsw : (p'.line == p1.line) = true := by rfl) (ha : (scope.names.any fun (n, k) => n == x && (k == .local || k == .cell)) = false := by decide +kernel) (hs : ∀ x, foldedSetIterable iter X.env x = pure x := by intro _; rfl) : WS X (.Assign [.Name x p'] (.ListComp elt [⟨tg, iter, [], 0⟩] scope p1) pos :: rest) ρ L kk := by
  refine wlc1C (pf := fun _ => true) (own := own) (js := js) ct n hi hz ht (fun _ _ _ _ => ec_nil) (fun x hx _ => he x hx) (fun m hm => ?_) hx hxl ok hk hjs hsw ha hs
  rw [List.filter_eq_self.mpr (fun _ _ => rfl)]
  exact h m hm
end
end TL


/-! Where one can go: what leads and open_from promise. -/
namespace TL
open PySem PySem.Spec PyProof.Rows L2
def leadsL (l : Lane) (d : Int) : Int × Int := if (d - l.n) / l.r % 2 = 0 then (l.a, l.b) else (l.b, l.a)
def R_leads (C : Addr) : Rel := fun ts L r L' => ∃ (t : Tw) (i : Int) (l : Lane) (d : Int), ts = [tTw C t, I i, I d] ∧ 0 ≤ i ∧ t.st[i.toNat]? = some l ∧ t.st.length ≤ 12 ∧ 1 ≤ l.r ∧ l.r ≤ 6 ∧ r = .v (tPair (leadsL l d)) ∧ L' = L
def R_check_place (C : Addr) : Rel := fun ts L r L' => ∃ (t : Tw) (p : Int), ts = [tTw C t, I p] ∧ 1 ≤ p ∧ p ≤ t.n ∧ r = .v N0 ∧ L' = L
def R_turn_of (C : Addr) : Rel := fun ts L r L' => ∃ (t : Tw), ts = [tTw C t] ∧ StOk t.st ∧ r = .v (I (2 * (lcmL t.st : Int))) ∧ L' = L
/-- the ways that the numbers of streets tell, unsorted -/
def waysL (t : Tw) (p d : Int) : List Int := (((t.st.map fun l => leadsL l d).filter fun q => decide (q.1 = p)).map fun q => q.2) ++ ((t.wd.filter fun q => decide (p = q.1 ∨ p = q.2)).map fun q => q.1 + q.2 - p) ++ (if p ∈ t.bd then [p] else [])
def openL (t : Tw) (p d : Int) : List Int := sortU (waysL t p d)
def R_open_from (C : Addr) : Rel := fun ts L r L' => ∃ (t : Tw) (p d : Int), ts = [tTw C t, I p, I d] ∧ PartsOk t ∧ 1 ≤ p ∧ p ≤ t.n ∧ r = .n (.lst ((openL t p d).map I)) ∧ L' = L
theorem pairs_len28 {m : Int} {ps : List (Int × Int)} (h : PairsOk m ps) (h8 : m ≤ 8) : ps.length ≤ 28 := by
  refine Nat.le_trans (nodup_len (m := pairsTo 7) h.nd fun p hp => ?_) (by decide +kernel)
  obtain ⟨h1, h2, h3, h4, h5⟩ := h.ok p hp
  unfold pairsTo
  rw [List.mem_flatMap]
  refine ⟨p.2, mem_rangeT.mpr ⟨by omega, by omega⟩, ?_⟩
  rw [List.mem_map]
  exact ⟨p.1, mem_rangeT.mpr ⟨h1, by omega⟩, rfl⟩
theorem ways_len {t : Tw} (ok : PartsOk t) (p d : Int) : (waysL t p d).length ≤ 41 := by
  unfold waysL
  rw [List.length_append, List.length_append, List.length_map, List.length_map]
  have h1 := List.length_filter_le (fun q : Int × Int => decide (q.1 = p)) (t.st.map fun l => leadsL l d)
  have h2 := List.length_filter_le (fun q : Int × Int => decide (p = q.1 ∨ p = q.2)) t.wd
  rw [List.length_map] at h1
  have h3 := ok.s12
  have h4 := pairs_len28 ok.wd ok.n8
  have h5 : (if p ∈ t.bd then [p] else []).length ≤ 1 := by split <;> simp
  omega
theorem mem_openL {t : Tw} {p d y : Int} : y ∈ openL t p d ↔ (∃ l ∈ t.st, leadsL l d = (p, y)) ∨ (∃ q ∈ t.wd, (p = q.1 ∨ p = q.2) ∧ y = q.1 + q.2 - p) ∨ (p ∈ t.bd ∧ y = p) := by
  unfold openL waysL
  rw [mem_sortU, List.mem_append, List.mem_append, or_assoc]
  refine or_congr ?_ (or_congr ?_ ?_)
  · rw [List.mem_map]
    constructor
    · rintro ⟨q, hq, rfl⟩
      obtain ⟨h1, h2⟩ := List.mem_filter.mp hq
      obtain ⟨l, hl, e⟩ := List.mem_map.mp h1
      have := of_decide_eq_true h2
      exact ⟨l, hl, by rw [e, ← this]⟩
    · rintro ⟨l, hl, e⟩
      exact ⟨(p, y), List.mem_filter.mpr ⟨List.mem_map.mpr ⟨l, hl, e⟩, by simp⟩, rfl⟩
  · rw [List.mem_map]
    constructor
    · rintro ⟨q, hq, rfl⟩
      obtain ⟨h1, h2⟩ := List.mem_filter.mp hq
      exact ⟨q, h1, of_decide_eq_true h2, rfl⟩
    · rintro ⟨q, hq, h1, rfl⟩
      exact ⟨q, List.mem_filter.mpr ⟨hq, decide_eq_true h1⟩, rfl⟩
  · by_cases h : p ∈ t.bd
    · rw [if_pos h]; simp [h]
    · rw [if_neg h]; simp [h]
/-- alike in streets one by one: then one can go to the same places -/
theorem openL_congr {t u : Tw} {p d : Int} {e : Int} (h1 : ∀ y, (∃ l ∈ t.st, leadsL l d = (p, y)) ↔ (∃ l ∈ u.st, leadsL l e = (p, y))) (h2 : t.wd = u.wd) (h3 : t.bd = u.bd) : openL t p d = openL u p e := by
  refine strict_uniq (sortU_strict _) (sortU_strict _) fun y => ?_
  show y ∈ openL t p d ↔ y ∈ openL u p e
  rw [mem_openL, mem_openL, h1, h2, h3]
theorem eqT_pairMem (p : Int) (q : Int × Int) : inT (I p) (tPair q) = decide (p = q.1 ∨ p = q.2) := by
  have h := inT_mapT (f := I) eqT_I p [q.1, q.2]
  have e : inT (I p) (tPair q) = decide (p ∈ [q.1, q.2]) := h
  rw [e]
  simp
theorem PartsOk.made {t : Tw} (ok : PartsOk t) : PartsOk t.made :=
  ⟨ok.n1, ok.n8, ok.st, ok.s12, ⟨fun p hp => ok.wd.ok p ((sortP_perm t.wd).mem_iff.mp hp), (sortP_perm t.wd).nodup_iff.mpr ok.wd.nd⟩, ⟨fun p hp => ok.bd.ok p ((sortI_perm t.bd).mem_iff.mp hp), (sortI_perm t.bd).nodup_iff.mpr ok.bd.nd⟩⟩
/-- parts that are rising already -/
def Srt (t : Tw) : Prop := sortP t.wd = t.wd ∧ sortI t.bd = t.bd
theorem srt_made (t : Tw) : Srt t.made := ⟨(sortP_uniq (.refl _) (sortP_sorted t.wd)).symm, (sortI_uniq (.refl _) (sortI_sorted t.bd)).symm⟩
theorem Srt.made {t : Tw} (h : Srt t) : t.made = t := by
  unfold Tw.made; rw [h.1, h.2]
theorem homeB_congr {st st' : List Lane} {f : Lane → Lane} (h : ∀ l ∈ st, ∀ d, turnsB (f l) d = turnsB l d) (d : Int) : homeB (st.map f) d = homeB st d := by
  unfold homeB
  rw [List.all_map]
  apply Bool.eq_iff_iff.mpr
  rw [List.all_eq_true, List.all_eq_true]
  exact ⟨fun g l hl => by rw [← h l hl]; exact g l hl, fun g l hl => by show turnsB (f l) d = true; rw [h l hl]; exact g l hl⟩
theorem nvB_turns {h l h' l' : Lane} (r1 : 1 ≤ h.r) (r2 : h.r ≤ 6) (r3 : 1 ≤ l.r) (r4 : l.r ≤ 6) (e1 : h'.r = h.r) (e2 : l'.r = l.r) (t1 : ∀ d, turnsB h' d = turnsB h d) (t2 : ∀ d, turnsB l' d = turnsB l d) : nvB h' l' = nvB h l := by
  rw [two_ok r1 r2 r3 r4, two_ok (by omega) (by omega) (by omega) (by omega)]
  unfold bothB
  congr 1
  refine List.filter_congr fun d _ => ?_
  unfold homeB
  simp only [List.all_cons, List.all_nil, t1, t2]
/-- streets told otherwise, with the same rhythms and turned on the same nights: home tells the same -/
theorem homeP_map {st : List Lane} {f : Lane → Lane} (ok : StOk st) (hr : ∀ l ∈ st, (f l).r = l.r) (ht : ∀ l ∈ st, ∀ d, turnsB (f l) d = turnsB l d) : homeP (st.map f) = homeP st := by
  have ok' : StOk (st.map f) := ⟨by rw [List.length_map]; exact ok.1, fun l hl => by
    obtain ⟨m, hm, rfl⟩ := List.mem_map.mp hl
    rw [hr m hm]; exact ok.2 m hm⟩
  have hl : lcmL (st.map f) = lcmL st := lcmL_eq (fun l hl => by
    obtain ⟨m, hm, rfl⟩ := List.mem_map.mp hl
    exact ⟨m, hm, (hr m hm).symm⟩) fun l hl => ⟨f l, List.mem_map.mpr ⟨l, hl, rfl⟩, hr l hl⟩
  have htn : tornF (st.map f) = tornF st := by
    refine tornF_eq ?_
    rw [List.length_map]
    refine firstO_congr (fun i j hij hj => ?_) (tornF_ok st)
    have hi : i < st.length := by omega
    unfold tornB
    rw [List.getD_eq_getElem?_getD, List.getD_eq_getElem?_getD, List.getD_eq_getElem?_getD, List.getD_eq_getElem?_getD, List.getElem?_map, List.getElem?_map, List.getElem?_eq_getElem hi, List.getElem?_eq_getElem hj]
    have a := ok.2 _ (List.getElem_mem hi)
    have b := ok.2 _ (List.getElem_mem hj)
    exact (nvB_turns a.1 a.2 b.1 b.2 (hr _ (List.getElem_mem hi)) (hr _ (List.getElem_mem hj)) (ht _ (List.getElem_mem hi)) (ht _ (List.getElem_mem hj))).symm
  cases e : tornF st with
  | some p =>
    obtain ⟨i, j⟩ := p
    rw [homeP_some e, homeP_some (htn.trans e)]
  | none => exact homeP_eq ok' ok (homeB_congr (st' := st) ht) hl (htn.trans e)
/-- by number, each street -/
theorem range_at {α β : Type} (st : List α) (d : α) (f : α → β) : (TL.rangeT 0 st.length).map (fun x => f (st.getD x.toNat d)) = st.map f := by
  apply List.ext_getElem?
  intro i
  rw [List.getElem?_map, List.getElem?_map]
  by_cases hi : i < st.length
  · have e2 : (TL.rangeT 0 st.length)[i]? = some (0 + (i : Int)) := by
      unfold TL.rangeT
      rw [List.getElem?_map, List.getElem?_range hi]; rfl
    rw [e2, List.getElem?_eq_getElem hi]
    show some (f (st.getD (0 + (i : Int)).toNat d)) = some _
    rw [show (0 + (i : Int)).toNat = i by omega, List.getD_eq_getElem?_getD, List.getElem?_eq_getElem hi]; rfl
  · rw [List.getElem?_eq_none (by rw [length_rangeT]; omega), List.getElem?_eq_none (by omega)]; rfl
theorem at_num {α : Type} {st : List α} {d : α} {x : Int} (h : x ∈ TL.rangeT 0 st.length) : st[x.toNat]? = some (st.getD x.toNat d) := by
  have hm := mem_rangeT.mp h
  rw [List.getD_eq_getElem?_getD, List.getElem?_eq_getElem (show x.toNat < st.length by omega)]; rfl
theorem mem_num {α : Type} {st : List α} {d : α} {x : Int} (h : x ∈ TL.rangeT 0 st.length) : st.getD x.toNat d ∈ st := List.mem_of_getElem? (at_num h)
end TL


/-! Towns told otherwise: plain, moved, turned about, alike. -/
namespace TL
open PySem PySem.Spec PyProof.Rows L2
def plainL (l : Lane) : Lane := if l.b < l.a then ⟨l.b, l.a, l.r, (l.n + l.r) % (2 * l.r)⟩ else ⟨l.a, l.b, l.r, l.n % (2 * l.r)⟩
def movL (k : Int) (l : Lane) : Lane := ⟨l.a, l.b, l.r, l.n + k⟩
def flipL (l : Lane) : Lane := ⟨l.b, l.a, l.r, l.n⟩
def withSt (t : Tw) (ls : List Lane) : Tw := ⟨t.n, ls, t.wd, t.bd⟩
def R_with_streets (C : Addr) : Rel := fun ts L r L' => ∃ (t : Tw) (ls : List Lane), ts = [tTw C t, .lst (ls.map tLane)] ∧ PartsOk t ∧ Srt t ∧ (∀ l ∈ ls, l.Ok t.n) ∧ ls.length ≤ 12 ∧ r = .n (tTw C (withSt t ls)) ∧ L' = L
def R_plain (C : Addr) : Rel := fun ts L r L' => ∃ (t : Tw), ts = [tTw C t] ∧ PartsOk t ∧ Srt t ∧ r = .n (tTw C (withSt t (t.st.map plainL))) ∧ L' = L
def R_moved (C : Addr) : Rel := fun ts L r L' => ∃ (t : Tw) (k : Int), ts = [tTw C t, I k] ∧ PartsOk t ∧ Srt t ∧ r = .n (tTw C (withSt t (t.st.map (movL k)))) ∧ L' = L
def R_about (C : Addr) : Rel := fun ts L r L' => ∃ (t : Tw), ts = [tTw C t] ∧ PartsOk t ∧ Srt t ∧ r = .n (tTw C (withSt t (t.st.map flipL))) ∧ L' = L
def R_check_counts (C : Addr) : Rel := fun ts L r L' => ∃ (t u : Tw), ts = [tTw C t, tTw C u] ∧ t.n = u.n ∧ r = .v N0 ∧ L' = L
def bothI (t u : Tw) : Int := 2 * (lcmL t.st : Int) * (2 * (lcmL u.st : Int)) / ((Nat.gcd (2 * lcmL t.st) (2 * lcmL u.st) : Nat) : Int)
def R_both_turns (C : Addr) : Rel := fun ts L r L' => ∃ (t u : Tw), ts = [tTw C t, tTw C u] ∧ StOk t.st ∧ StOk u.st ∧ r = .v (I (bothI t u)) ∧ L' = L
def R_alike_same (C : Addr) : Rel := fun ts L r L' => ∃ (t u : Tw), ts = [tTw C t, tTw C u] ∧ PartsOk t ∧ PartsOk u ∧ t.n = u.n ∧ (∀ p d, openL t p d = openL u p d) ∧ r = .v (.tup [S "alike"]) ∧ L' = L
theorem both_ok {t u : Tw} (h1 : StOk t.st) (h2 : StOk u.st) : 0 ≤ bothI t u ∧ bothI t u ≤ 14400 := by
  have a1 := lcmL_pos h1
  have a2 := lcmL_le h1
  have b1 := lcmL_pos h2
  have b2 := lcmL_le h2
  have hg : 0 < Nat.gcd (2 * lcmL t.st) (2 * lcmL u.st) := Nat.gcd_pos_of_pos_left _ (by omega)
  have hx : 2 * (lcmL t.st : Int) * (2 * (lcmL u.st : Int)) ≤ 14400 := by
    have := Nat.mul_le_mul (show 2 * lcmL t.st ≤ 120 by omega) (show 2 * lcmL u.st ≤ 120 by omega)
    have : ((2 * lcmL t.st * (2 * lcmL u.st) : Nat) : Int) ≤ 14400 := by omega
    simpa using this
  have h0 : 0 ≤ 2 * (lcmL t.st : Int) * (2 * (lcmL u.st : Int)) := Int.mul_nonneg (by omega) (by omega)
  unfold bothI
  refine ⟨Int.ediv_nonneg h0 (by omega), Int.le_trans (Int.ediv_le_self _ h0) hx⟩
/-! streets told otherwise lead alike -/
theorem emod2 (n r k : Int) : (n + 2 * r * k) % (2 * r) = n % (2 * r) := by rw [Int.add_mul_emod_self_left]
theorem div_par {r : Int} (x k : Int) (h : 1 ≤ r) : (x + 2 * r * k) / r % 2 = x / r % 2 := by
  rw [show x + 2 * r * k = x + r * (2 * k) by rw [← Int.mul_assoc, Int.mul_comm r 2], Int.add_mul_ediv_left _ _ (by omega), Int.add_mul_emod_self_left]
theorem leads_mod {r : Int} (d n : Int) (h : 1 ≤ r) : (d - n % (2 * r)) / r % 2 = (d - n) / r % 2 := by
  have e : d - n % (2 * r) = (d - n) + 2 * r * (n / (2 * r)) := by rw [Int.emod_def]; omega
  rw [e, div_par _ _ h]
theorem div_flip {r : Int} (x : Int) (h : 1 ≤ r) : (x - r) / r = x / r - 1 := by
  rw [show x - r = x + r * (-1) by omega, Int.add_mul_ediv_left _ _ (by omega)]; omega
theorem leads_plain {l : Lane} (h : 1 ≤ l.r) (d : Int) : leadsL (plainL l) d = leadsL l d := by
  unfold leadsL plainL
  split
  · show (if (d - (l.n + l.r) % (2 * l.r)) / l.r % 2 = 0 then (l.b, l.a) else (l.a, l.b)) = _
    rw [leads_mod _ _ h, show d - (l.n + l.r) = d - l.n - l.r by omega, div_flip _ h]
    by_cases hz : (d - l.n) / l.r % 2 = 0
    · rw [if_pos hz, if_neg (by omega)]
    · rw [if_neg hz, if_pos (by omega)]
  · show (if (d - l.n % (2 * l.r)) / l.r % 2 = 0 then (l.a, l.b) else (l.b, l.a)) = _
    rw [leads_mod _ _ h]
theorem turns_shift {r : Int} (d n k : Int) : (d - (n + r * k)) % r = (d - n) % r := by
  rw [show d - (n + r * k) = d - n - r * k by omega, Int.sub_mul_emod_self_left]
theorem turns_plain (l : Lane) (d : Int) : turnsB (plainL l) d = turnsB l d := by
  unfold turnsB plainL
  have key : ∀ n : Int, (d - n % (2 * l.r)) % l.r = (d - n) % l.r := fun n => by
    have e : n % (2 * l.r) = n + l.r * (-(2 * (n / (2 * l.r)))) := by
      rw [Int.emod_def, Int.mul_neg, ← Int.mul_assoc, Int.mul_comm l.r 2]; omega
    rw [e, turns_shift]
  split
  · show decide ((d - (l.n + l.r) % (2 * l.r)) % l.r = 0) = _
    rw [key]
    have := turns_shift (r := l.r) d l.n 1
    rw [Int.mul_one] at this
    rw [this]
  · show decide ((d - l.n % (2 * l.r)) % l.r = 0) = _
    rw [key]
theorem plain_r (l : Lane) : (plainL l).r = l.r := by unfold plainL; split <;> rfl
theorem plain_ok {m : Int} {l : Lane} (h : l.Ok m) : (plainL l).Ok m ∧ (plainL l).a < (plainL l).b ∧ 0 ≤ (plainL l).n ∧ (plainL l).n < 2 * (plainL l).r := by
  obtain ⟨a1, a2, b1, b2, ne, r1, r2⟩ := h
  unfold plainL
  have m1 := Int.emod_nonneg (l.n + l.r) (b := 2 * l.r) (by omega)
  have m2 := Int.emod_lt_of_pos (l.n + l.r) (b := 2 * l.r) (by omega)
  have m3 := Int.emod_nonneg l.n (b := 2 * l.r) (by omega)
  have m4 := Int.emod_lt_of_pos l.n (b := 2 * l.r) (by omega)
  split
  · exact ⟨⟨b1, b2, a1, a2, fun e => ne e.symm, r1, r2⟩, by assumption, m1, m2⟩
  · exact ⟨⟨a1, a2, b1, b2, ne, r1, r2⟩, by show l.a < l.b; omega, m3, m4⟩
theorem plain_plain {m : Int} {l : Lane} (h : l.Ok m) : plainL (plainL l) = plainL l := by
  obtain ⟨_, h2, h3, h4⟩ := plain_ok h
  generalize plainL l = x at *
  unfold plainL
  rw [if_neg (by omega), Int.emod_eq_of_lt h3 h4]
theorem plain_mov {l : Lane} (k : Int) : plainL (movL (2 * l.r * k) l) = plainL l := by
  unfold plainL movL
  dsimp only
  rw [emod2, show l.n + 2 * l.r * k + l.r = l.n + l.r + 2 * l.r * k by omega, emod2]
theorem plain_other {m : Int} {l : Lane} (h : l.Ok m) (k : Int) : plainL ⟨l.b, l.a, l.r, l.n + 2 * l.r * k + l.r⟩ = plainL l := by
  have hne := h.ne
  unfold plainL
  dsimp only
  by_cases hc : l.b < l.a
  · rw [if_pos hc, if_neg (by omega), show l.n + 2 * l.r * k + l.r = l.n + l.r + 2 * l.r * k by omega, emod2]
  · rw [if_neg hc, if_pos (by omega), show l.n + 2 * l.r * k + l.r + l.r = l.n + 2 * l.r * (k + 1) by rw [Int.mul_add]; omega, emod2]
theorem open_plain {t : Tw} (ok : StOk t.st) (p d : Int) : openL (withSt t (t.st.map plainL)) p d = openL t p d := by
  refine openL_congr (fun y => ?_) rfl rfl
  constructor
  · rintro ⟨l, hl, e⟩
    obtain ⟨m, hm, rfl⟩ := List.mem_map.mp hl
    exact ⟨m, hm, by rw [← e, leads_plain (ok.2 m hm).1]⟩
  · rintro ⟨l, hl, e⟩
    exact ⟨plainL l, List.mem_map.mpr ⟨l, hl, rfl⟩, by rw [leads_plain (ok.2 l hl).1]; exact e⟩
theorem withSt_ok {t : Tw} {ls : List Lane} (ok : PartsOk t) (h : ∀ l ∈ ls, l.Ok t.n) (hz : ls.length ≤ 12) : PartsOk (withSt t ls) := ⟨ok.n1, ok.n8, h, hz, ok.wd, ok.bd⟩
theorem withSt_srt {t : Tw} {ls : List Lane} (h : Srt t) : Srt (withSt t ls) := h
theorem withSt_map_ok {t : Tw} {f : Lane → Lane} (ok : PartsOk t) (h : ∀ l ∈ t.st, (f l).Ok t.n) : PartsOk (withSt t (t.st.map f)) := withSt_ok ok (fun l hl => by
  obtain ⟨m, hm, rfl⟩ := List.mem_map.mp hl
  exact h m hm) (by rw [List.length_map]; exact ok.s12)
theorem movL_ok {m k : Int} {l : Lane} (h : l.Ok m) : (movL k l).Ok m := ⟨h.a1, h.a2, h.b1, h.b2, h.ne, h.r1, h.r2⟩
theorem flipL_ok {m : Int} {l : Lane} (h : l.Ok m) : (flipL l).Ok m := ⟨h.b1, h.b2, h.a1, h.a2, fun e => h.ne e.symm, h.r1, h.r2⟩
/-! three names at once -/
section
variable {cm : Bool} {CX : CXT} {P : Program} {w : World} {K : PySem.W.Frag} {mg : Str → Option Value} {base : Heap} {k : Nat} {N : List Str} {sc : Scope} {fs : Str → Bool} {X : Cx}
variable {a b c : Expr} {ρ : TEnv} {L L1 : Store} {t u v : T} {pos : Pos} {x : Str}
theorem wpar3 {rest : List Stmt} {kk : TK} {y z : Str} {px py pz pt : Pos} {kt k2 pt2} (ct : Cq true CX P w K mg base k N sc fs X) (n m o : Nat) (ha : EvA X [a, b, c] ρ L [t, u, v] L1) (h : WS X rest (((ρ.set n (some t)).set m (some u)).set o (some v)) L1 kk)
    (hij : n ≠ m := by decide) (hil : n ≠ o := by decide) (hjl : m ≠ o := by decide)
    (hx : locOk N sc fs n x = true := by decide +kernel) (hy : locOk N sc fs m y = true := by decide +kernel) (hz : locOk N sc fs o z = true := by decide +kernel) (hxl : sc.names.lookup x = some .local := by decide +kernel) (hyl : sc.names.lookup y = some .local := by decide +kernel) (hzl : sc.names.lookup z = some .local := by decide +kernel)
    (hw : swappedStores [.Tuple [.Name x px, .Name y py, .Name z pz] kt pt] (.Tuple [a, b, c] k2 pt2) { X.env with scope := sc } = pure (some [x, y, z]) := by rfl)
    (hs : swapsWithSole [.Tuple [.Name x px, .Name y py, .Name z pz] kt pt] (.Tuple [a, b, c] k2 pt2) pos.line X.env = pure false := by rfl) : WS X (.Assign [.Tuple [.Name x px, .Name y py, .Name z pz] kt pt] (.Tuple [a, b, c] k2 pt2) pos :: rest) ρ L kk := by
  refine ws_cons ?_
  refine ⟨fun W H σ D s en d => ?_⟩
  obtain ⟨h1, h2, h3, h4⟩ := ct.loc hx
  obtain ⟨g1, g2, g3, g4⟩ := ct.loc hy
  obtain ⟨k1, k2, k3, k4⟩ := ct.loc hz
  refine wp_ps (ps_par3 (ct.calm rfl) h1 h2 g2 k2 hij hil hjl (by rw [ct.hsc]; exact hxl) (by rw [ct.hsc]; exact hyl) (by rw [ct.hsc]; exact hzl) pa_wp ((sw_env (env' := { X.env with scope := sc }) ct.hsc).trans hw) hs) ?_
  refine ha W H σ _ s en fun xs W2 H2 st2 s2 r2 => ?_
  cases r2 with
  | cons r1 r2 =>
    cases r2 with
    | cons r2 r3 =>
      cases r3 with
      | cons r3 r4 =>
        cases r4
        exact ⟨_, _, _, rfl, d.nx _ _ W2 H2 _ st2 s2 ((((en.step st2 s).set r1).set r2).set r3) h⟩
end
/-! the law's own way of telling streets otherwise -/
def fars4 : List Int := [0, 1, -3, 10 ^ 57]
def oth1 (v : W3) (l : Lane) : Lane × W3 :=
  let far := oneI v fars4
  let v1 := drW v (fars4.length : Int)
  (if drV v1 2 = 0 then ⟨l.a, l.b, l.r, l.n + 2 * l.r * far⟩ else ⟨l.b, l.a, l.r, l.n + 2 * l.r * far + l.r⟩, drW v1 2)
def othN (st : List Lane) (v : W3) : Nat → List Lane × W3
  | 0 => ([], v)
  | k + 1 => ((othN st v k).1 ++ [(oth1 (othN st v k).2 (st.getD k L00)).1], (oth1 (othN st v k).2 (st.getD k L00)).2)
theorem oth1_ok {m : Int} {v : W3} {l : Lane} (h : l.Ok m) : plainL (oth1 v l).1 = plainL l ∧ (oth1 v l).1.Ok m := by
  unfold oth1
  dsimp only
  split
  · exact ⟨plain_mov (oneI v fars4), movL_ok (k := 2 * l.r * oneI v fars4) h⟩
  · exact ⟨plain_other h _, ⟨h.b1, h.b2, h.a1, h.a2, fun e => h.ne e.symm, h.r1, h.r2⟩⟩
theorem oth1_w {v : W3} {l : Lane} {b : Nat} (h : v.Ok b) : (oth1 v l).2.Ok (b + 2) := drW_ok (drW_ok h (by decide)) (by decide)
theorem othN_ok {m : Int} {st : List Lane} {v : W3} {b : Nat} (h : ∀ l ∈ st, l.Ok m) (hv : v.Ok b) : ∀ k : Nat, k ≤ st.length → (othN st v k).1.length = k ∧ (∀ l ∈ (othN st v k).1, l.Ok m) ∧ (othN st v k).1.map plainL = (st.take k).map plainL ∧ (othN st v k).2.Ok (b + 2 * k)
  | 0, _ => ⟨rfl, fun l hl => (nomatch hl), rfl, hv⟩
  | k + 1, hk => by
    obtain ⟨h1, h2, h3, h4⟩ := othN_ok h hv k (by omega)
    have hl : st.getD k L00 ∈ st := by
      rw [List.getD_eq_getElem?_getD, List.getElem?_eq_getElem (show k < st.length by omega)]
      exact List.getElem_mem _
    obtain ⟨o1, o2⟩ := oth1_ok (v := (othN st v k).2) (h _ hl)
    refine ⟨?_, fun l hl => ?_, ?_, W3.Ok.mono (oth1_w (l := st.getD k L00) h4) (by omega)⟩
    · show ((othN st v k).1 ++ [_]).length = _
      rw [List.length_append, h1]; rfl
    · rcases List.mem_append.mp hl with hl | hl
      · exact h2 l hl
      · rw [List.mem_singleton.mp hl]; exact o2
    · show ((othN st v k).1 ++ [_]).map plainL = _
      rw [List.map_append, h3, List.take_add_one, List.map_append]
      congr 1
      show [plainL (oth1 _ _).1] = _
      rw [o1, List.getD_eq_getElem?_getD, List.getElem?_eq_getElem (show k < st.length by omega)]; rfl
def othF (t : Tw) (v : W3) : Tw × W3 := (withSt t (othN t.st v t.st.length).1, (othN t.st v t.st.length).2)
def R_other : Rel := fun ts L r L' => ∃ (n : Nat) (t : Tw) (v : W3) (b : Nat), ts = [.cel n, tParts t] ∧ L n = some (tW v) ∧ v.Ok b ∧ b < 800000 ∧ PartsOk t ∧ r = .v (tParts (othF t v).1) ∧ L' = updS L n (some (tW (othF t v).2))
def R_leads_right (C : Addr) : Rel := fun ts L r L' => ∃ (t u : Tw) (i : Int) (l l' : Lane) (d : Int), ts = [tTw C t, tTw C u, I i, I d] ∧ 0 ≤ i ∧ t.st[i.toNat]? = some l ∧ u.st[i.toNat]? = some l' ∧ t.st.length ≤ 12 ∧ u.st.length ≤ 12 ∧ (1 ≤ l.r ∧ l.r ≤ 6 ∧ 1 ≤ l'.r ∧ l'.r ≤ 6) ∧ leadsL l d = leadsL l' d ∧ turnsB l d = turnsB l' d ∧ r = .v (B true) ∧ L' = L
theorem othF_ok {t : Tw} {v : W3} {b : Nat} (ok : PartsOk t) (hv : v.Ok b) : PartsOk (othF t v).1 ∧ (othF t v).1.st.map plainL = t.st.map plainL ∧ (othF t v).2.Ok (b + 24) := by
  obtain ⟨h1, h2, h3, h4⟩ := othN_ok ok.st hv t.st.length (Nat.le_refl _)
  rw [List.take_length] at h3
  have := ok.s12
  exact ⟨withSt_ok ok h2 (by rw [h1]; omega), h3, h4.mono (by omega)⟩
theorem plain_turn {st : List Lane} (ok : StOk st) : (st.map (movL (2 * (lcmL st : Int)))).map plainL = st.map plainL := by
  rw [List.map_map]
  refine List.map_congr_left fun l hl => ?_
  obtain ⟨k, hk⟩ := lcmL_mem hl
  have el : (l.r.toNat : Int) = l.r := by have := (ok.2 l hl).1; omega
  have e : 2 * (lcmL st : Int) = 2 * l.r * (k : Int) := by
    rw [hk, Int.natCast_mul, el, Int.mul_assoc]
  show plainL (movL (2 * (lcmL st : Int)) l) = _
  rw [e, plain_mov]
theorem mov_back (st : List Lane) (k : Int) : (st.map (movL k)).map (movL (-k)) = st := by
  rw [List.map_map]
  conv => rhs; rw [← List.map_id st]
  refine List.map_congr_left fun l hl => ?_
  show Lane.mk l.a l.b l.r (l.n + k + -k) = l
  rw [show l.n + k + -k = l.n by omega]
theorem flip_flip (st : List Lane) : (st.map flipL).map flipL = st := by
  rw [List.map_map]
  conv => rhs; rw [← List.map_id st]
  exact List.map_congr_left fun l hl => rfl
/-! a <= b < c as a test -/
section
variable {X : Cx} {a b c : Expr} {ρ : TEnv} {L L1 Lb : Store} {t u : T} {pos : Pos}
theorem eb_chain {op op' : CmpOp} {r r' : R2} {z z' : Bool} {o : T} (ho : OpR X (compareOp op) r) (ho' : OpR X (compareOp op') r') (ha : Ev X a ρ L (.v t) L1) (hb : Ev X b ρ L1 (.v u) Lb) (hr : OpT X.K r t u Lb (.v (B z)))
    (hc : z = true → Ev X c ρ Lb (.v o) Lb) (hr' : z = true → OpT X.K r' u o Lb (.v (B z'))) (hm : lastMarks [op, op'] [b, c] = false := by with_unfolding_all rfl) : EvB X (.Compare a [op, op'] [b, c] pos) ρ L (z && z') Lb := by
  refine ⟨fun W H σ Q s en q => ?_⟩
  refine wp_pt (pt_chain ho ho' pe_wp pe_wp pe_wp hm) ?_
  refine ha W H σ _ s en fun x W1 H1 st1 s1 r1 => ?_
  refine hb W1 H1 σ _ s1 (en.step st1 s) fun y W2 H2 st2 s2 r2 => ?_
  refine hr W2 H2 x y _ s2 (Rp.step r1 st2 s1) r2 fun v W3 H3 st3 s3 r3 => ?_
  cases r3
  refine ⟨z, rfl, ?_⟩
  have st13 := (st1.trans st2).trans st3
  cases z with
  | false =>
    rw [if_neg Bool.false_ne_true]
    exact ⟨false, rfl, q W3 H3 st13 s3⟩
  | true =>
    rw [if_pos rfl]
    refine hc rfl W3 H3 σ _ s3 (en.step st13 s) fun o' W4 H4 st4 s4 r4 => ?_
    refine hr' rfl W4 H4 y o' _ s4 (Rp.step (Rp.step r2 st3 s2) st4 s3) r4 fun v W5 H5 st5 s5 r5 => ?_
    cases r5
    exact ⟨z', rfl, q W5 H5 ((st13.trans st4).trans st5) s5⟩
theorem eb_leltI {x y z : Int} (ha : Ev X a ρ L (.v (I x)) L1) (hb : Ev X b ρ L1 (.v (I y)) Lb) (hc : decide (x ≤ y) = true → Ev X c ρ Lb (.v (I z)) Lb) (hm : lastMarks [.LtE, .Lt] [b, c] = false := by with_unfolding_all rfl) : EvB X (.Compare a [.LtE, .Lt] [b, c] pos) ρ L (decide (x ≤ y) && decide (y < z)) Lb :=
  eb_chain op_le op_lt ha hb ot_I0 hc (fun _ => ot_I0) hm
theorem eb_leleI {x y z : Int} (ha : Ev X a ρ L (.v (I x)) L1) (hb : Ev X b ρ L1 (.v (I y)) Lb) (hc : decide (x ≤ y) = true → Ev X c ρ Lb (.v (I z)) Lb) (hm : lastMarks [.LtE, .LtE] [b, c] = false := by with_unfolding_all rfl) : EvB X (.Compare a [.LtE, .LtE] [b, c] pos) ρ L (decide (x ≤ y) && decide (y ≤ z)) Lb :=
  eb_chain op_le op_le ha hb ot_I0 hc (fun _ => ot_I0) hm
end
end TL


/-! A sequence backwards: xs[::-1], t[::-1]. -/
namespace TL
open PySem PySem.Spec PyProof.Rows L2
section
variable {prog : Program} {w : World} {A : Around} {E : Value → Shared → Prop} {s : Shared}
theorem places_back (n : Nat) : Builtin.Slice.slicePlaces ((n : Int) - 1) (-1) (-1) = n := by
  unfold Builtin.Slice.slicePlaces
  rw [if_neg (by decide)]
  by_cases h : (n : Int) - 1 > -1
  · rw [if_pos h, show ((n : Int) - 1 - -1 - 1) / (- -1) + 1 = n by rw [show (- -1 : Int) = 1 by decide, Int.ediv_one]; omega]
    exact Int.toNat_natCast n
  · rw [if_neg h]
    show 0 = n
    omega
theorem applied_back {sl : Addr} {vc : Value} {n : Nat} {Q : Int × Int × Nat → Shared → Prop} (isS : s.heap.IsSliceOf sl .none .none vc) (pc : IsPart vc (some (-1)))
    (q : Q ((n : Int) - 1, -1, n) s) : wpAny (model prog w) A (Builtin.Slice.sliceApplied (.ref sl) (pure (n : Int))) Q E s := by
  have ⟨o, ho, hc, hd⟩ := isS
  unfold Builtin.Slice.sliceApplied Builtin.Slice.sliceFields
  refine wpAny_bind (wpAny_bind (wpAny_field ho hd (x := .none) rfl (wpAny_bind (wpAny_field ho hd (x := .none) rfl (wpAny_bind (wpAny_field ho hd (x := vc) rfl (wpAny_pure ?_)))))))
  refine wpAny_bind (HT.slicePart_ pc ?_)
  show wpAny _ _ (if ((-1 : Int) == 0) = true then _ else _) _ _ s
  rw [if_neg (by decide)]
  refine wpAny_bind (HT.slicePart_ .none (wpAny_bind (HT.slicePart_ .none (wpAny_bind (wpAny_pure ?_)))))
  show wpAny _ _ (match Builtin.Slice.sliceAdjust none none (-1) (n : Int) with | (x, y) => pure (x, (-1 : Int), Builtin.Slice.slicePlaces x y (-1))) _ _ s
  show wpAny _ _ (pure ((n : Int) - 1, (-1 : Int), Builtin.Slice.slicePlaces ((n : Int) - 1) (-1) (-1))) _ _ s
  rw [places_back]
  exact wpAny_pure q
theorem fm_congr {α β : Type} {f g : α → Option β} : ∀ {l : List α}, (∀ x ∈ l, f x = g x) → l.filterMap f = l.filterMap g
  | [], _ => rfl
  | a :: l, h => by
    rw [List.filterMap_cons, List.filterMap_cons, h a List.mem_cons_self, fm_congr fun x hx => h x (List.mem_cons_of_mem _ hx)]
theorem pick_back (xs : Array Value) : ((List.range xs.size).filterMap fun (m : Nat) => xs[(((xs.size : Int) - 1) + (m : Int) * (-1)).toNat]?).toArray = xs.toList.reverse.toArray := by
  have e : ((List.range xs.size).filterMap fun (m : Nat) => xs[(((xs.size : Int) - 1) + (m : Int) * (-1)).toNat]?) = ((List.range xs.size).map fun k => xs.size - 1 - k).filterMap (xs[·]?) := by
    rw [List.filterMap_map]
    refine fm_congr fun m hm => ?_
    have hm := List.mem_range.mp hm
    show _ = xs[xs.size - 1 - m]?
    rw [show (((xs.size : Int) - 1) + (m : Int) * (-1)).toNat = xs.size - 1 - m by omega]
  rw [e, PySem.W.krv_range, List.filterMap_reverse, PySem.W.krv_all]
theorem getItem_back {t sl : Addr} {xs : Array Value} {vc : Value} {Q : Value → Shared → Prop} (isT : IsTup s.heap t xs) (isS : s.heap.IsSliceOf sl .none .none vc) (pc : IsPart vc (some (-1)))
    (q : Q (.ref s.heap.objs.size) { s with heap := s.heap.push { cls := .type "tuple", data := .seq xs.toList.reverse.toArray } }) (few : xs.size ≤ sizeLine) : wpAny (model prog w) A (getItem (.ref t) (.ref sl)) Q E s := by
  have ok : sizeOk (.seq xs.toList.reverse.toArray) := by
    show xs.toList.reverse.toArray.size ≤ sizeLine
    rw [List.size_toArray, List.length_reverse, Array.length_toList]; exact few
  have ⟨os, hos, hcs, hds⟩ := isS
  have tyS : s.TypeIs (.ref sl) "slice" := ⟨os, hos, hcs⟩
  unfold getItem
  try with_reducible refine wpAny_holding ?_
  refine wpAny_bind (wpAny_sequenceKey isT.typeIs (by decide) ?_)
  refine wpAny_bind (wpAny_callSpecial?_slot (name := Str.ofString "__getitem__") isT.typeIs PyProof.Rows.slot_tuple_getitem (wpAny_call_entry PyProof.Rows.slot_tuple_getitem isT.typeIs PyProof.Rows.entry_tuple_getitem ?_ (PyProof.Rows.args_tuple_getitem _ _)))
  show wpAny _ _ (Builtin.Tuple.tupleItemsOf (.ref t) >>= _) _ _ s
  refine wpAny_bind (PyProof.Rows.tupleItemsOf_ isT (wpAny_bind (wpAny_typeOf tyS ?_)))
  rw [if_pos (by decide)]
  refine wpAny_bind (applied_back isS pc ?_)
  have no : ¬ ((((xs.size : Int) - 1) == 0 && (-1 : Int) == 1 && xs.size == xs.size) = true) := by simp
  show wpAny _ _ (if (((xs.size : Int) - 1) == 0 && (-1 : Int) == 1 && xs.size == xs.size) = true then _ else _) _ _ s
  rw [if_neg no, pick_back]
  first
    | exact wpAny_bind (m := Builtin.Tuple.tupleExact _) (wpAny_newObj_type (wpAny_pure ⟨_, rfl, wpAny_pure q⟩) ok)
    | exact wpAny_bind (m := Builtin.Tuple.tupleExact _) (wpAny_newObj_type (wpAny_bind (wpAny_pure (wpAny_pure ⟨_, rfl, wpAny_pure q⟩))) ok)
    | exact wpAny_bind (wpAny_bind (m := Builtin.Tuple.tupleExact _) (wpAny_newObj_type (wpAny_pure (wpAny_pure ⟨_, rfl, wpAny_pure q⟩)) ok))
    | exact wpAny_bind (wpAny_bind (m := Builtin.Tuple.tupleExact _) (wpAny_newObj_type (wpAny_pure ⟨_, rfl, wpAny_pure q⟩) ok))
end
section
variable {X : Cx} {e se : Expr} {te ts : TE} {p2 pos : Pos}
theorem vals_rev {xs : List V} {us : List Value} (r : Vals xs us) : Vals xs.reverse us.reverse := by
  induction r with
  | nil => exact .nil
  | cons h r ih => rw [List.reverse_cons, List.reverse_cons]; exact ih.append (.cons h .nil)
def tBack (K : PySem.W.Frag) (te ts : TE) : TE := fun σ H Q => te σ H fun x H1 => ts σ H1 fun y H2 => y = .int (-1) ∧ ((∃ l xs, x = .ref l ∧ SqL K H2 l xs ∧ ∀ p, H2 p = none → Q (.ref p) (upd H2 p (.lst xs.reverse))) ∨ (∃ l xs, x = .ref l ∧ SqT K H2 l xs ∧ ∀ p, H2 p = none → Q (.ref p) (upd H2 p (.tup xs.reverse))))
theorem pe_back (he : PE X e te) (hs : PE X se ts) : PE X (.Subscript e (.Slice none none (some se) p2) pos) (tBack X.K te ts) := by
  refine ⟨fun pins s σ H Q Iv h => ?_⟩
  refine Subscript_ (thn (he.run pins s σ H _ Iv h) fun v s1 ⟨x, H1, I1, r1, q1⟩ => wpAny_Slice ?_)
  rw [evalPart_none]
  refine wpAny_pure (wpAny_pure ?_)
  rw [evalPart_some]
  refine thn (hs.run pins s1 σ H1 _ I1 q1) fun u s2 ⟨y, H2, I2, r2, ey, q2⟩ => ?_
  subst ey
  obtain ⟨tk, rfl⟩ := r2
  have I3 : Inv X pins σ H2 { s2 with heap := s2.heap.push { cls := .type "slice", data := .fields #[.none, .none, .int (-1) tk] } } := I2.kept (t' := s2.toks) fun b ob q => Heap.get?_push_of_some _ q
  have isS : (s2.heap.push { cls := .type "slice", data := .fields #[.none, .none, .int (-1) tk] }).IsSliceOf s2.heap.objs.size .none .none (.int (-1) tk) := Heap.IsSliceOf.new ..
  show wpAny (model X.prog X.w) X.A (subscriptTail e (.Slice none none (some se) p2) v (.ref s2.heap.objs.size)) (EP X pins σ Q) X.xe { s2 with heap := s2.heap.push { cls := .type "slice", data := .fields #[.none, .none, .int (-1) tk] } }
  have hz5 : ∀ {n : Nat}, n ≤ sizeLine → n ≤ sizeLine := fun h => h
  rcases q2 with ⟨l, xs, rfl, hx, q⟩ | ⟨l, xs, rfl, hx, q⟩
  · cases r1
    obtain ⟨its, r, isL, hz⟩ := I3.list hx
    refine tail_any (ops := [.ref l, .ref s2.heap.objs.size]) isL.isList.typeIs slot_list_getitem.lookup (wpAny_getItem_list_slice isL.isList isS .none .none (.int _ _) (by decide) ?_ (by rw [List.size_toArray, ← r.length]; exact hz)) (by with_unfolding_all rfl)
    rw [PySem.W.krv_pick]
    refine ⟨.ref _, _, I3.laid (t' := s2.toks) (o := .lst xs.reverse) (fun b ob q => Heap.get?_push_of_some _ q) (Nat.le_refl _) ?_, rfl, q _ (I3.hok.fresh (Nat.le_refl _))⟩
    exact ⟨by rw [List.length_reverse]; exact hz, _, 0, vals_rev r, Heap.get?_push_size _ rfl⟩
  · cases r1
    obtain ⟨its, r, isT, hz⟩ := I3.tuple hx
    refine tail_any (ops := [.ref l, .ref s2.heap.objs.size]) isT.typeIs PyProof.Rows.slot_tuple_getitem.lookup (getItem_back isT isS (.int _ _) ?_ (by rw [List.size_toArray, ← r.length]; exact hz)) (by with_unfolding_all rfl)
    refine ⟨.ref _, _, I3.laid (t' := s2.toks) (o := .tup xs.reverse) (fun b ob q => Heap.get?_push_of_some _ q) (Nat.le_refl _) ?_, rfl, q _ (I3.hok.fresh (Nat.le_refl _))⟩
    exact ⟨by rw [List.length_reverse]; exact hz, _, vals_rev r, IsTup.new _ _⟩
end
section
variable {X : Cx} {a b : Expr} {ρ : TEnv} {L L1 : Store} {t : T} {ts : List T} {pos p2 : Pos} {j p3 p4}
theorem ev_rev (ha : Ev X a ρ L (.v t) L1) (hl : LstT L1 t ts) : Ev X (.Subscript a (.Slice none none (some (.UnaryOp .USub (.Constant (.int 1) j p3) p4)) p2) pos) ρ L (.n (.lst ts.reverse)) L1 := by
  refine ⟨fun W H σ Q s en q => ?_⟩
  refine wp_pe (pe_back pe_wp (pe_un un_neg pe_int)) ?_
  refine ha W H σ _ s en fun x W1 H1 st1 s1 r1 => ?_
  obtain ⟨l, vs, rfl, hq, rr⟩ := lst_sq s1 r1 hl
  refine ⟨1, rfl, rfl, .inl ⟨l, vs, rfl, hq, fun p hp => ?_⟩⟩
  exact q _ W1 _ (st1.trans (.newp hp)) (s1.new hp) ((new_n (t := .lst ts.reverse) s1 hp ⟨_, upd_same, rr.reverse.newp hp⟩).back st1.dom)
theorem ev_revT (ha : Ev X a ρ L (.v (.tup ts)) L1) : Ev X (.Subscript a (.Slice none none (some (.UnaryOp .USub (.Constant (.int 1) j p3) p4)) p2) pos) ρ L (.v (.tup ts.reverse)) L1 := by
  refine ⟨fun W H σ Q s en q => ?_⟩
  refine wp_pe (pe_back pe_wp (pe_un un_neg pe_int)) ?_
  refine ha W H σ _ s en fun x W1 H1 st1 s1 r1 => ?_
  cases r1 with
  | tup f hh rr =>
    refine ⟨1, rfl, rfl, .inr ⟨_, _, rfl, .inl (.inl hh), fun p hp => ?_⟩⟩
    obtain ⟨f1, f2, f3⟩ := frz_tup s1 hp rr.reverse
    exact q _ _ _ (st1.trans f1) f2 f3
end
end TL


/-! Home days: the next, the last; all mirrored there. -/
namespace TL
open PySem PySem.Spec PyProof.Rows L2
def R_first_apart (C : Addr) : Rel := fun ts L r L' => ∃ (t : Tw), ts = [tTw C t] ∧ StOk t.st ∧ tornF t.st = none ∧ r = .v (.tup [I (firstD t.st), I (lcmL t.st)]) ∧ L' = L
def nextD (st : List Lane) (d : Int) : Int := d + (firstD st - d) % (lcmL st : Int)
def lastD (st : List Lane) (d : Int) : Int := d - (d - firstD st) % (lcmL st : Int)
def R_next_home (C : Addr) : Rel := fun ts L r L' => ∃ (t : Tw) (d : Int), ts = [tTw C t, I d] ∧ StOk t.st ∧ tornF t.st = none ∧ r = .v (I (nextD t.st d)) ∧ L' = L
def R_last_home (C : Addr) : Rel := fun ts L r L' => ∃ (t : Tw) (d : Int), ts = [tTw C t, I d] ∧ StOk t.st ∧ tornF t.st = none ∧ r = .v (I (lastD t.st d)) ∧ L' = L
theorem homeB_shift {st : List Lane} (ok : ∀ l ∈ st, 1 ≤ l.r ∧ l.r ≤ 6) {x f : Int} (h : homeB st f = true) (hd : (lcmL st : Int) ∣ x - f) : homeB st x = true := by
  unfold homeB at h ⊢
  rw [List.all_eq_true] at h ⊢
  intro l hl
  have h1 := Int.dvd_of_emod_eq_zero (of_decide_eq_true (h l hl))
  have el : (l.r.toNat : Int) = l.r := by have := (ok l hl).1; omega
  have h2 : l.r ∣ (lcmL st : Int) := by
    have := Int.natCast_dvd_natCast.mpr (lcmL_mem hl)
    rwa [el] at this
  refine decide_eq_true (Int.emod_eq_zero_of_dvd ?_)
  have := Int.dvd_add (Int.dvd_trans h2 hd) h1
  rwa [show x - f + (f - l.n) = x - l.n by omega] at this
theorem next_ok {st : List Lane} (ok : StOk st) (h : tornF st = none) (d : Int) : homeB st (nextD st d) = true := by
  refine homeB_shift ok.2 (firstD_ok ok h).1 ?_
  unfold nextD
  refine ⟨-((firstD st - d) / (lcmL st : Int)), ?_⟩
  rw [Int.emod_def, Int.mul_neg]
  omega
theorem last_ok {st : List Lane} (ok : StOk st) (h : tornF st = none) (d : Int) : homeB st (lastD st d) = true := by
  refine homeB_shift ok.2 (firstD_ok ok h).1 ?_
  unfold lastD
  refine ⟨(d - firstD st) / (lcmL st : Int), ?_⟩
  rw [Int.emod_def]
  omega
/-! a street at a home day -/
theorem div_mirror {r : Int} (h : 1 ≤ r) (k : Int) : (-1 - k) / r = -1 - k / r := by
  have h1 := Int.emod_nonneg k (b := r) (by omega)
  have h2 := Int.emod_lt_of_pos k (b := r) (by omega)
  have h3 := Int.emod_def k r
  have e : -1 - k = (r - 1 - k % r) + r * (-1 - k / r) := by
    rw [Int.mul_sub, Int.mul_neg, Int.mul_one]; omega
  rw [e, Int.add_mul_ediv_left _ _ (by omega), Int.ediv_eq_zero_of_lt (by omega) (by omega)]
  omega
theorem leads_mirror {l : Lane} (h : 1 ≤ l.r) {T : Int} (ht : turnsB l T = true) (k : Int) : leadsL l (T + k) = ((leadsL l (T - 1 - k)).2, (leadsL l (T - 1 - k)).1) := by
  obtain ⟨m, hm⟩ := Int.dvd_of_emod_eq_zero (of_decide_eq_true ht)
  have e1 : (T + k - l.n) / l.r = m + k / l.r := by
    rw [show T + k - l.n = k + l.r * m by omega, Int.add_mul_ediv_left _ _ (by omega)]; omega
  have e2 : (T - 1 - k - l.n) / l.r = m + (-1 - k / l.r) := by
    rw [show T - 1 - k - l.n = (-1 - k) + l.r * m by omega, Int.add_mul_ediv_left _ _ (by omega), div_mirror h]; omega
  unfold leadsL
  rw [e1, e2]
  generalize k / l.r = q
  by_cases hz : (m + q) % 2 = 0
  · rw [if_pos hz, if_neg (by omega)]
  · rw [if_neg hz, if_pos (by omega)]
theorem leads_plain_day {l : Lane} (h : 1 ≤ l.r) {d : Int} (ht : turnsB l d = false) : leadsL l (d - 1) = leadsL l d := by
  have hne : (d - l.n) % l.r ≠ 0 := of_decide_eq_false ht
  have h1 := Int.emod_nonneg (d - l.n) (b := l.r) (by omega)
  have h2 := Int.emod_lt_of_pos (d - l.n) (b := l.r) (by omega)
  have h3 := Int.emod_def (d - l.n) l.r
  have e : (d - 1 - l.n) / l.r = (d - l.n) / l.r := by
    have e2 : d - 1 - l.n = ((d - l.n) % l.r - 1) + l.r * ((d - l.n) / l.r) := by omega
    rw [e2, Int.add_mul_ediv_left _ _ (by omega), Int.ediv_eq_zero_of_lt (by omega) (by omega)]; omega
  unfold leadsL
  rw [e]
def swapP (q : Int × Int) : Int × Int := (q.2, q.1)
def mirB (st : List Lane) (d k : Int) : Bool := st.all fun l => decide (leadsL l (d + k) = swapP (leadsL l (d - 1 - k)))
def R_mirror (C : Addr) : Rel := fun ts L r L' => ∃ (t : Tw) (d k : Int), ts = [tTw C t, I d, I k] ∧ StOk t.st ∧ r = .v (B (mirB t.st d k)) ∧ L' = L
theorem mir_home {st : List Lane} (ok : StOk st) {T : Int} (h : homeB st T = true) (k : Int) : mirB st T k = true := by
  unfold homeB at h
  rw [List.all_eq_true] at h
  unfold mirB
  rw [List.all_eq_true]
  exact fun l hl => decide_eq_true (leads_mirror (ok.2 l hl).1 (h l hl) k)
theorem mir_not {m : Int} {st : List Lane} (ok : ∀ l ∈ st, l.Ok m) {d : Int} (h : homeB st d = false) : mirB st d 0 = false := by
  cases e : mirB st d 0 with
  | false => rfl
  | true =>
    unfold mirB at e
    rw [List.all_eq_true] at e
    have : homeB st d = true := by
      unfold homeB
      rw [List.all_eq_true]
      intro l hl
      cases ht : turnsB l d with
      | true => rfl
      | false =>
        have h1 := of_decide_eq_true (e l hl)
        rw [show d + 0 = d by omega, show d - 1 - 0 = d - 1 by omega, leads_plain_day (ok l hl).r1 ht] at h1
        have hne := (ok l hl).ne
        unfold leadsL swapP at h1
        split at h1
        · exact absurd (congrArg Prod.fst h1) hne
        · exact absurd (congrArg Prod.snd h1) hne
    rw [this] at h; cases h
/-! all pairs of a day -/
def pairsOn (t : Tw) (d : Int) : List (Int × Int) := (rangeT 1 t.n.toNat).flatMap fun p => (openL t p d).map fun y => (p, y)
def R_pairs_of (C : Addr) : Rel := fun ts L r L' => ∃ (t : Tw) (d : Int), ts = [tTw C t, I d] ∧ PartsOk t ∧ r = .v (.lst ((pairsOn t d).map tPair)) ∧ L' = L
theorem mem_pairsOn {t : Tw} {d : Int} {q : Int × Int} (h1 : 1 ≤ t.n) : q ∈ pairsOn t d ↔ 1 ≤ q.1 ∧ q.1 ≤ t.n ∧ q.2 ∈ openL t q.1 d := by
  unfold pairsOn
  rw [List.mem_flatMap]
  constructor
  · rintro ⟨p, hp, hq⟩
    obtain ⟨y, hy, rfl⟩ := List.mem_map.mp hq
    have := mem_rangeT.mp hp
    exact ⟨by show 1 ≤ p; omega, by show p ≤ t.n; omega, hy⟩
  · rintro ⟨a, b, c⟩
    exact ⟨q.1, mem_rangeT.mpr ⟨a, by omega⟩, List.mem_map.mpr ⟨q.2, c, rfl⟩⟩
def ltP (a b : Int × Int) : Prop := a.1 < b.1 ∨ (a.1 = b.1 ∧ a.2 < b.2)
theorem rangeT_strict (lo : Int) (n : Nat) : (rangeT lo n).Pairwise (· < ·) := by
  unfold rangeT
  rw [List.pairwise_map]
  exact (List.pairwise_lt_range (n := n)).imp fun {a b} h => by omega
theorem pairsOn_strict (t : Tw) (d : Int) : (pairsOn t d).Pairwise ltP := by
  unfold pairsOn
  rw [List.pairwise_flatMap]
  refine ⟨fun p _ => ?_, (rangeT_strict 1 t.n.toNat).imp fun {a b} h x hx y hy => ?_⟩
  · rw [List.pairwise_map]
    exact (sortU_strict _).imp fun {a b} h => .inr ⟨rfl, h⟩
  · obtain ⟨x', _, rfl⟩ := List.mem_map.mp hx
    obtain ⟨y', _, rfl⟩ := List.mem_map.mp hy
    exact .inl h
theorem strict_uniqP : ∀ {l m : List (Int × Int)}, l.Pairwise ltP → m.Pairwise ltP → (∀ k, k ∈ l ↔ k ∈ m) → l = m
  | [], [], _, _, _ => rfl
  | [], b :: m, _, _, h => by have := (h b).mpr List.mem_cons_self; cases this
  | a :: l, [], _, _, h => by have := (h a).mp List.mem_cons_self; cases this
  | a :: l, b :: m, h1, h2, h => by
    obtain ⟨a1, a2⟩ := List.pairwise_cons.mp h1
    obtain ⟨b1, b2⟩ := List.pairwise_cons.mp h2
    have e : a = b := by
      rcases List.mem_cons.mp ((h a).mp List.mem_cons_self) with e | e
      · exact e
      · rcases List.mem_cons.mp ((h b).mpr List.mem_cons_self) with e2 | e2
        · exact e2.symm
        · have := a1 _ e2; have := b1 _ e; unfold ltP at *; omega
    subst e
    refine congrArg _ (strict_uniqP a2 b2 fun k => ⟨fun hk => ?_, fun hk => ?_⟩)
    · rcases List.mem_cons.mp ((h k).mp (List.mem_cons_of_mem _ hk)) with e | e
      · have := a1 k hk; subst e; unfold ltP at *; omega
      · exact e
    · rcases List.mem_cons.mp ((h k).mpr (List.mem_cons_of_mem _ hk)) with e | e
      · have := b1 k hk; subst e; unfold ltP at *; omega
      · exact e
theorem strict_nodup {l : List (Int × Int)} (h : l.Pairwise ltP) : l.Nodup := h.imp fun {a b} h e => by subst e; unfold ltP at h; omega
theorem sortP_strict {l : List (Int × Int)} (h : l.Nodup) : (sortP l).Pairwise ltP := by
  have h1 := sortP_sorted l
  have h2 : (sortP l).Nodup := (sortP_perm l).nodup_iff.mpr h
  refine (List.Pairwise.and h1 h2).imp fun {a b} h => ?_
  obtain ⟨h3, h4⟩ := h
  unfold leP at h3
  unfold ltP
  simp only [Bool.or_eq_true, Bool.and_eq_true, decide_eq_true_eq] at h3
  rcases h3 with h3 | ⟨h3, h5⟩
  · exact .inl h3
  · refine .inr ⟨h3, ?_⟩
    have : a.2 ≠ b.2 := fun e => h4 (Prod.ext h3 e)
    omega
theorem open_range {t : Tw} (ok : PartsOk t) {p d y : Int} (h : y ∈ openL t p d) : 1 ≤ y ∧ y ≤ t.n := by
  rcases mem_openL.mp h with ⟨l, hl, e⟩ | ⟨q, hq, h1, rfl⟩ | ⟨h1, rfl⟩
  · have lo := ok.st l hl
    unfold leadsL at e
    split at e
    · rw [← (Prod.mk.inj e).2]; exact ⟨lo.b1, lo.b2⟩
    · rw [← (Prod.mk.inj e).2]; exact ⟨lo.a1, lo.a2⟩
  · obtain ⟨a, b, c, d, _⟩ := ok.wd.ok q hq
    rcases h1 with rfl | rfl <;> omega
  · exact ok.bd.ok y h1
theorem open_swap {t : Tw} (ok : PartsOk t) {T : Int} (h : homeB t.st T = true) (k a b : Int) : b ∈ openL t a (T + k) ↔ a ∈ openL t b (T - 1 - k) := by
  unfold homeB at h
  rw [List.all_eq_true] at h
  rw [mem_openL, mem_openL]
  refine or_congr ?_ (or_congr ?_ ?_)
  · constructor
    · rintro ⟨l, hl, e⟩
      refine ⟨l, hl, ?_⟩
      rw [leads_mirror (ok.st l hl).r1 (h l hl) k] at e
      exact Prod.ext (Prod.mk.inj e).2 (Prod.mk.inj e).1
    · rintro ⟨l, hl, e⟩
      exact ⟨l, hl, by rw [leads_mirror (ok.st l hl).r1 (h l hl) k, e]⟩
  · constructor
    · rintro ⟨q, hq, h1, rfl⟩
      exact ⟨q, hq, by rcases h1 with h1 | h1 <;> omega, by omega⟩
    · rintro ⟨q, hq, h1, rfl⟩
      exact ⟨q, hq, by rcases h1 with h1 | h1 <;> omega, by omega⟩
  · constructor
    · rintro ⟨h1, rfl⟩; exact ⟨h1, rfl⟩
    · rintro ⟨h1, rfl⟩; exact ⟨h1, rfl⟩
theorem pairs_swap {t : Tw} (ok : PartsOk t) {T : Int} (h : homeB t.st T = true) (k : Int) : pairsOn t (T + k) = sortP ((pairsOn t (T - 1 - k)).map swapP) := by
  have hn : ((pairsOn t (T - 1 - k)).map swapP).Nodup := by
    show List.Pairwise (· ≠ ·) _
    rw [List.pairwise_map]
    exact (strict_nodup (pairsOn_strict t _)).imp fun {a b} h e => h (by unfold swapP at e; exact Prod.ext (Prod.mk.inj e).2 (Prod.mk.inj e).1)
  refine strict_uniqP (pairsOn_strict t _) (sortP_strict hn) fun q => ?_
  rw [(sortP_perm _).mem_iff, List.mem_map, mem_pairsOn ok.n1]
  constructor
  · rintro ⟨h1, h2, h3⟩
    have h4 := open_range ok h3
    exact ⟨(q.2, q.1), (mem_pairsOn ok.n1).mpr ⟨h4.1, h4.2, (open_swap ok h k q.1 q.2).mp h3⟩, rfl⟩
  · rintro ⟨p, hp, rfl⟩
    obtain ⟨h1, h2, h3⟩ := (mem_pairsOn ok.n1).mp hp
    have h4 := open_range ok h3
    exact ⟨h4.1, h4.2, (open_swap ok h k p.2 p.1).mpr h3⟩
theorem pairsOn_len {t : Tw} (ok : PartsOk t) (d : Int) : ∀ n : Nat, n ≤ 8 → ((rangeT 1 n).flatMap fun p => (openL t p d).map fun y => (p, y)).length ≤ n * 41
  | 0, _ => by simp [rangeT]
  | n + 1, h => by
    have e : rangeT 1 (n + 1) = rangeT 1 n ++ [(1 + n : Int)] := by
      unfold rangeT; rw [List.range_succ, List.map_append]; rfl
    rw [e, List.flatMap_append, List.length_append]
    have h1 := pairsOn_len ok d n (by omega)
    have h2 : ([(1 + n : Int)].flatMap fun p => (openL t p d).map fun y => (p, y)).length ≤ 41 := by
      show (List.map _ _ ++ []).length ≤ 41
      rw [List.append_nil, List.length_map]
      unfold openL sortU
      rw [(sortI_perm _).length_eq]
      refine Nat.le_trans ?_ (ways_len ok (1 + n) d)
      exact nodup_len (nodup_eraseDups _ _ (Nat.le_refl _)) fun x hx => List.mem_eraseDups.mp hx
    omega
end TL


/-! Dicts of ints as cells; how often a thing stands in a list. -/
namespace TL
open PySem PySem.Spec PyProof.Rows L2
def hasK (ks : List Key) (k : Key) : Bool := ks.any fun a => decide (a = k)
def putKs (ks : List Key) (k : Key) : List Key := if hasK ks k then ks else ks ++ [k]
def putTs {α : Type} (ks : List Key) (ts : List α) (k : Key) (t : α) : List α := if hasK ks k then (ks.zip ts).map (fun kv => if kv.1 = k then t else kv.2) else ts ++ [t]
theorem zip_any {α : Type} {k : Key} : ∀ {ks : List Key} {vs : List α}, ks.length = vs.length → ((ks.zip vs).any fun kv => decide (kv.1 = k)) = hasK ks k
  | [], [], _ => rfl
  | a :: ks, v :: vs, h => by
    rw [List.zip_cons_cons, List.any_cons, zip_any (Nat.succ.inj h)]; rfl
theorem zip_put {α : Type} {k : Key} {v : α} : ∀ {ks : List Key} {vs : List α}, ks.length = vs.length → ((ks.zip vs).map fun kv => if kv.1 = k then (kv.1, v) else kv) = ks.zip ((ks.zip vs).map fun kv => if kv.1 = k then v else kv.2)
  | [], [], _ => rfl
  | a :: ks, x :: vs, h => by
    rw [List.zip_cons_cons, List.map_cons, List.map_cons, zip_put (Nat.succ.inj h), List.zip_cons_cons]
    by_cases e : a = k
    · simp [e]
    · simp [e]
theorem putK_zip {ks : List Key} {vs : List V} {k : Key} {v : V} (h : ks.length = vs.length) : putK (ks.zip vs) k v = (putKs ks k).zip (putTs ks vs k v) ∧ (putKs ks k).length = (putTs ks vs k v).length := by
  unfold putK putKs putTs
  rw [zip_any h]
  cases e : hasK ks k
  · rw [if_neg (by decide), if_neg (by decide), if_neg (by decide), List.zip_append h]
    exact ⟨rfl, by rw [List.length_append, List.length_append, h]; rfl⟩
  · rw [if_pos rfl, if_pos rfl, if_pos rfl, zip_put h]
    exact ⟨rfl, by rw [List.length_map, List.length_zip]; omega⟩
theorem RpL.zipput {K : PySem.W.Frag} {W : Wd} {H : Hp} {k : Key} {t : T} {x : V} (rx : Rp K W H t x) : ∀ {ks : List Key} {ts : List T} {vs : List V}, RpL K W H ts vs → RpL K W H ((ks.zip ts).map fun kv => if kv.1 = k then t else kv.2) ((ks.zip vs).map fun kv => if kv.1 = k then x else kv.2)
  | [], _, _, _ => by simp; exact .nil
  | a :: ks, [], _, h => by cases h; exact .nil
  | a :: ks, _ :: _, _, h => by
    cases h with
    | cons h r =>
      rw [List.zip_cons_cons, List.zip_cons_cons, List.map_cons, List.map_cons]
      refine .cons ?_ (r.zipput rx)
      by_cases e : a = k
      · simp only [if_pos e]; exact rx
      · simp only [if_neg e]; exact h
theorem RpL.put {K : PySem.W.Frag} {W : Wd} {H : Hp} {ks : List Key} {k : Key} {t : T} {x : V} {ts : List T} {vs : List V} (r : RpL K W H ts vs) (rx : Rp K W H t x) : RpL K W H (putTs ks ts k t) (putTs ks vs k x) := by
  unfold putTs
  split
  · exact r.zipput rx
  · exact r.append (.cons rx .nil)
def addK (is : List Int) (y : Int) : List Int := if y ∈ is then is else is ++ [y]
theorem mem_addK {is : List Int} {y x : Int} : x ∈ addK is y ↔ x ∈ is ∨ x = y := by
  unfold addK
  split
  · exact ⟨.inl, fun h => h.elim id fun e => e ▸ by assumption⟩
  · simp
theorem addK_nodup {is : List Int} {y : Int} (h : is.Nodup) : (addK is y).Nodup := by
  unfold addK
  split
  · exact h
  · rename_i hy
    exact List.nodup_append.mpr ⟨h, by simp, fun a ha b hb => by simp at hb; subst hb; exact fun e => hy (e ▸ ha)⟩
theorem hasK_int (is : List Int) (y : Int) : hasK (is.map Sum.inl) (Sum.inl y) = decide (y ∈ is) := by
  unfold hasK
  induction is with
  | nil => rfl
  | cons a l ih =>
    rw [List.map_cons, List.any_cons, ih]
    by_cases e : a = y
    · subst e; simp
    · have e2 : ¬((Sum.inl a : Key) = Sum.inl y) := fun z => e (Sum.inl.inj z)
      rw [decide_eq_false e2, Bool.false_or]
      simp [Ne.symm e]
theorem putKs_int (is : List Int) (y : Int) : putKs (is.map Sum.inl) (Sum.inl y) = (addK is y).map Sum.inl := by
  unfold putKs addK
  rw [hasK_int]
  by_cases h : y ∈ is
  · rw [if_pos (decide_eq_true h), if_pos h]
  · rw [if_neg (by rw [decide_eq_false h]; decide), if_neg h, List.map_append]; rfl
section
variable {cm : Bool} {CX : CXT} {P : Program} {w : World} {K : PySem.W.Frag} {mg : Str → Option Value} {base : Heap} {k : Nat} {N : List Str} {sc : Scope} {fs : Str → Bool} {X : Cx}
variable {e a b c o ix : Expr} {ρ : TEnv} {L L1 Lb : Store} {t u : T} {ts us : List T} {pos p apos : Pos} {i j : Int} {rest : List Stmt} {kk : TK} {ks : List Key}
/-- {} -/
theorem ev_dict0 : Ev X (.Dict [] [] pos) ρ L (.n (.dK [] [])) L := by
  refine ⟨fun W H σ Q s en q => ?_⟩
  exact wp_pe pe_dnewK fun p hp => q _ W _ (.newp hp) (s.new hp) (new_n (t := .dK [] []) s hp ⟨[], upd_same, rfl, .nil⟩)
/-- d[i] = e, d a cell -/
theorem wdput {p' : Pos} {m : Nat} (ct : Cq cm CX P w K mg base k N sc fs X) (he : Ev X e ρ L (.v t) L1) (ho : Ev X o ρ L1 (.v (.cel m)) L1) (hi : Ev X ix ρ L1 (.v (I i)) Lb) (hl : Lb m = some (.dK ks ts)) (hz : ks.length ≤ 100000)
    (h : WS X rest ρ (updS Lb m (some (.dK (putKs ks (Sum.inl i)) (putTs ks ts (Sum.inl i) t)))) kk) (hs : swapsWith e (some (.Subscript o ix p')) pos.line X.env = pure false := by rfl) : WS X (.Assign [.Subscript o ix p'] e pos :: rest) ρ L kk := by
  refine ws_cons ?_
  refine ⟨fun W H σ D s en d => ?_⟩
  refine wp_ps (ps_dput ct.u1 pe_wp pe_wp pe_wp hs) ?_
  refine he W H σ _ s en fun y W1 H1 st1 s1 r1 => ?_
  refine ho W1 H1 σ _ s1 (en.step st1 s) fun z W2 H2 st2 s2 r2 => ?_
  have st12 := st1.trans st2
  refine hi W2 H2 σ _ s2 (en.step st12 s) fun v W3 H3 st3 s3 r3 => ?_
  cases r3
  cases r2 with
  | cel hc =>
    have hc3 := st3.ad m _ hc
    obtain ⟨vs, e1, l1, r4⟩ := s3.cel m _ _ hl hc3
    have ry := (Rp.step r1 st2 s1).step st3 s2
    have hsz : (100000 : Nat) < sizeLine := by decide
    obtain ⟨z1, z2⟩ := putK_zip (k := Sum.inl i) (v := y) l1
    refine ⟨_, _, rfl, DPut.k (k := Sum.inl i) e1 (by rw [List.length_zip]; omega), ?_⟩
    rw [z1]
    have st4 := Step.write (t' := .dK (putKs ks (Sum.inl i)) (putTs ks ts (Sum.inl i) t)) (o := .dK ((putKs ks (Sum.inl i)).zip (putTs ks vs (Sum.inl i) y))) (H := H3) hl hc3
    have st14 := (st12.trans st3).trans st4
    exact d.nx _ _ W3 _ _ st14 (s3.write hl hc3 ⟨_, upd_same, z2, (r4.put ry).write s3 hl hc3⟩) (en.step st14 s) h
/-- sorted(d) of a dict of ints, d a cell -/
theorem ksortD {m : Nat} {is : List Int} (ct : Cq true CX P w K mg base k N sc fs X) (hm : mg "sorted" = none) (ha : EvA X [e] ρ L [.cel m] L1) (hl : L1 m = some (.dK (is.map Sum.inl) ts)) (hz : is.length < 64) (hg : glOk sc "sorted" = true := by decide +kernel)
    (he : starEach [e] X.env = (false, eval e X.env) :: starEach [] X.env := by first | with_reducible exact se1 | with_reducible exact se2 | with_reducible exact se3 | with_reducible exact se4 | with_reducible exact se5 | with_reducible exact se6 | with_reducible exact se7 | with_reducible exact se8 | with_reducible exact se9 | rfl) (hpl : (backTo pos (starEach [] X.env)).any (·.1) = false := by rfl) : Ev X (.Call (.Name "sorted" p) [e] [] pos) ρ L (.n (.lst ((sortI is).map I))) L1 :=
  ev_cb ct (call_sortedDI (ct.calm rfl)) PyProof.Rows.boot_sorted hm hg ha (fun W H xs Q s r0 q => by
    obtain ⟨x, rfl, r⟩ := rp1 r0
    cases r with
    | cel hc =>
      obtain ⟨vs, e1, l1, rr⟩ := s.cel m _ _ hl hc
      refine ⟨_, _, is, rfl, .inl e1, by rw [List.map_fst_zip]; omega, hz, fun ms p h1 h2 hp => ?_⟩
      have e := sortI_uniq h1 h2
      subst e
      exact q _ W _ (.newp hp) (s.new hp) (new_n (t := .lst _) s hp ⟨_, upd_same, RpL.of_atoms V.int _⟩)) he hpl
/-- l.count(x) of data -/
def rCntD (K : PySem.W.Frag) : V → List V → Hp → VK → Prop := fun x xs H Q => ∃ (a : Addr) (d : PyData) (ds : List PyData) (y : V), x = .ref a ∧ xs = [y] ∧ Dp K H (.ref a) (.list ds) ∧ Dp K H y d ∧ SeqAt.shaped d = true ∧ SeqAt.shaped (.list ds) = true ∧ Q (.int (ds.countP fun z => PyData.eqv z d : Nat)) H
theorem mt_countD (hu : X.A.units + 65 < cLine) : MtR X "list.count" (rCntD X.K) := by
  intro pins s σ H x xs v us Q I rx rxs h
  obtain ⟨a, d, ds, y, rfl, rfl, hl, hy, sd, sl, q⟩ := h
  cases rx
  obtain ⟨uy, rfl, ry⟩ := rxs.one
  obtain ⟨bs, r1⟩ := Dp.reads I d y uy hy ry
  have hxs : PyData.canLayAll0 ds = true := SeqAt.canLay_of_shaped sl
  have hroom : X.A.units + 1 + min (PyData.depthAll ds) d.depth < cLine := room_in_shaped sd hu
  cases hl with
  | lst hs ha =>
    obtain ⟨its, rv, ⟨⟨cls, dd, data, sls⟩, n, ho, hc, hdn, hdt⟩, hlen⟩ := I.list hs
    simp only at hc hdt
    subst hc hdt
    obtain ⟨as, h4⟩ := Dp.readsAll I ds _ its ha rv
    have hmap : its.map (SeqAt.readOf s.heap) = ds := SeqAt.readsAll_map ds its as hxs h4
    refine call_meets PySem.F.slot_list_count ⟨_, ho, rfl⟩ PySem.F.entry_list_count (PySem.F.args_list_count_2 _ _)
      (SeqAt.list_countAt a its.toArray n dd sls uy (fun u => PyData.eqv (SeqAt.readOf s.heap u) d)) ⟨ho, SeqAt.items_eqAt (vs := its.toArray) (show ReadsAll s.heap its.toArray.toList ds as from h4) r1 hxs (SeqAt.canLay_of_shaped sd) hroom, ?_⟩
    have ec : its.toArray.toList.countP (fun u => PyData.eqv (SeqAt.readOf s.heap u) d) = ds.countP fun z => PyData.eqv z d := by
      rw [← hmap, List.countP_map]; rfl
    refine ⟨.int (ds.countP (fun z => PyData.eqv z d) : Nat), H, I.tok _, ⟨s.toks, ?_⟩, q⟩
    show Value.int ((its.toArray.toList.countP (fun u => PyData.eqv (SeqAt.readOf s.heap u) d) : Nat) : Int) s.toks = Value.int ((ds.countP (fun z => PyData.eqv z d) : Nat) : Int) s.toks
    rw [ec]
theorem count_pd {ts : List T} {ds : List PyData} {x : T} {d : PyData} (h : pdL ts = some ds) (hd : pd x = some d) : (ds.countP fun z => PyData.eqv z d) = ts.countP fun y => eqT y x := by
  induction ts generalizing ds with
  | nil => unfold pdL at h; cases h; rfl
  | cons t ts ih =>
    unfold pdL at h
    cases q1 : pd t with
    | none => rw [q1] at h; cases h
    | some d1 =>
      cases q2 : pdL ts with
      | none => rw [q1, q2] at h; cases h
      | some es =>
        rw [q1, q2] at h; cases h
        have e1 : eqT t x = PyData.eqv d1 d := by unfold eqT; rw [q1, hd]
        rw [List.countP_cons, List.countP_cons, ih q2, e1]
theorem ev_countD {apos : Pos} (ct : Cq cm CX P w K mg base k N sc fs X) (ho : Ev X o ρ L (.v (.lst ts)) L1) (ha : Ev X e ρ L1 (.v t) Lb) (h1 : shp t = true) (h2 : shp (.lst ts) = true)
    (hs : starEach [e] X.env = (false, eval e X.env) :: starEach [] X.env := by rfl) (hbase : attributeBase o "count" X.env (eval o X.env) = eval o X.env := by rfl)
    (hfew : ((backTo pos (starEach (e :: []) X.env)).all (fun x => !x.1) && (backToKw pos (keywordEach [] X.env)).all (fun x => x.1.isSome)
      && decide ((e :: []).length + ([] : List Keyword).length + (if ([] : List Keyword).isEmpty then 0 else 1) < 30)) = true := by rfl)
    (hline : (apos.endLine == pos.line) = true := by rfl) (hplain : (backTo pos (starEach [] X.env)).any (·.1) = false := by rfl) : Ev X (.Call (.Attribute o "count" apos) [e] [] pos) ρ L (.v (I (ts.countP fun y => eqT y t : Nat))) Lb := by
  refine ⟨fun W H σ Q s en q => ?_⟩
  refine wp_pe (pe_bm PySem.F.plainAttrs_list PySem.F.slot_list_count PySem.F.type_list_count (mt_countD ct.u65) pe_wp (pa_cons pe_wp pa_nil hs) hbase hfew hline hs hplain) ?_
  refine ho W H σ _ s en fun x W1 H1 st1 s1 r1 => ?_
  cases r1 with
  | lst f hh rr =>
    refine ⟨.inl ⟨rfl, _, .inl (.inl hh)⟩, ?_⟩
    refine ha W1 H1 σ _ s1 (en.step st1 s) fun y W2 H2 st2 s2 r2 => ?_
    obtain ⟨d, e1, d1⟩ := shp_of h1
    obtain ⟨e, e2, d2⟩ := shp_of h2
    obtain ⟨ds, rfl, e3⟩ := pd_lst e2
    have r3 := Rp.step (t := .lst ts) (.lst f hh rr) st2 s1
    refine ⟨_, d, ds, y, rfl, rfl, dp_of _ _ _ r3 e2, dp_of _ _ _ r2 e1, d1, d2, ?_⟩
    rw [count_pd e3 e1]
    exact q _ W2 H2 (st1.trans st2) s2 (.v _)
end
end TL


/-! The laws' own next places: _law_lead, _law_moves, _law_next; how often within a whole turn. -/
namespace TL
open PySem PySem.Spec PyProof.Rows L2
theorem lead_mod {x r : Int} (h : 0 < r) : (x % (2 * r) < r) ↔ x / r % 2 = 0 := by
  have e1 := Int.mul_ediv_add_emod x (2 * r)
  have h1 := Int.emod_nonneg x (show 2 * r ≠ 0 by omega)
  have h2 := Int.emod_lt_of_pos x (show 0 < 2 * r by omega)
  have e2 : x / r = 2 * (x / (2 * r)) + (x % (2 * r)) / r := by
    have : x = r * (2 * (x / (2 * r))) + x % (2 * r) := by
      have : 2 * r * (x / (2 * r)) = r * (2 * (x / (2 * r))) := by rw [Int.mul_comm 2 r, Int.mul_assoc]
      omega
    conv => lhs; rw [this]
    rw [Int.mul_add_ediv_left _ _ (by omega : r ≠ 0)]
  rw [e2, Int.mul_add_emod_self_left]
  constructor
  · intro h3
    rw [Int.ediv_eq_zero_of_lt h1 h3]; rfl
  · intro h3
    rcases Int.lt_or_le (x % (2 * r)) r with h4 | h4
    · exact h4
    · have e3 : x % (2 * r) / r = 1 := by
        have : x % (2 * r) = (x % (2 * r) - r) + r * 1 := by omega
        rw [this, Int.add_mul_ediv_left _ _ (by omega : r ≠ 0), Int.ediv_eq_zero_of_lt (by omega) (by omega)]; rfl
      rw [e3] at h3
      exact absurd h3 (by decide)
def tMv (x : T × Int) : T := .tup [x.1, I x.2]
def stMv (st : List Lane) (p d : Int) (n : Nat) : List (T × Int) := ((TL.rangeT 0 n).filter fun i => decide ((leadsL (st.getD i.toNat L00) d).1 = p)).map fun i => (.tup [S "street", I i], (leadsL (st.getD i.toNat L00) d).2)
def wdMv (wd : List (Int × Int)) (p : Int) : List (T × Int) := (wd.filter fun q => decide (p = q.1 ∨ p = q.2)).map fun q => (.tup [S "broad", I (q.1 + q.2 - p)], q.1 + q.2 - p)
def movesL (t : Tw) (p d : Int) : List (T × Int) := stMv t.st p d t.st.length ++ wdMv t.wd p ++ (if p ∈ t.bd then [(.tup [S "inn"], p)] else [])
theorem rangeT_snoc (lo : Int) (n : Nat) : TL.rangeT lo (n + 1) = TL.rangeT lo n ++ [lo + (n : Int)] := by
  unfold TL.rangeT; rw [List.range_succ, List.map_append]; rfl
theorem stMv_snoc (st : List Lane) (p d : Int) (n : Nat) : stMv st p d (n + 1) = stMv st p d n ++ (if (leadsL (st.getD n L00) d).1 = p then [(.tup [S "street", I (n : Int)], (leadsL (st.getD n L00) d).2)] else []) := by
  unfold stMv
  rw [rangeT_snoc, List.filter_append, List.map_append]
  congr 1
  have e : (0 + (n : Int)) = (n : Int) := by omega
  rw [e]
  by_cases h : (leadsL (st.getD n L00) d).1 = p
  · have h2 : (leadsL (st.getD (n : Int).toNat L00) d).1 = p := h
    rw [if_pos h, List.filter_cons, if_pos (decide_eq_true h2)]; rfl
  · have h2 : ¬ (leadsL (st.getD (n : Int).toNat L00) d).1 = p := h
    rw [if_neg h, List.filter_cons, if_neg (by rw [decide_eq_false h2]; decide)]; rfl
theorem stMv_len (st : List Lane) (p d : Int) (n : Nat) : (stMv st p d n).length ≤ n := by
  unfold stMv
  rw [List.length_map]
  exact Nat.le_trans (List.length_filter_le _ _) (by rw [length_rangeT]; exact Nat.le_refl _)
theorem wdMv_snoc (wd : List (Int × Int)) (p : Int) (q : Int × Int) : wdMv (wd ++ [q]) p = wdMv wd p ++ (if p = q.1 ∨ p = q.2 then [(.tup [S "broad", I (q.1 + q.2 - p)], q.1 + q.2 - p)] else []) := by
  unfold wdMv
  rw [List.filter_append, List.map_append]
  congr 1
  by_cases h : p = q.1 ∨ p = q.2
  · rw [if_pos h, List.filter_cons, if_pos (decide_eq_true h)]; rfl
  · rw [if_neg h, List.filter_cons, if_neg (by rw [decide_eq_false h]; decide)]; rfl
theorem wdMv_len (wd : List (Int × Int)) (p : Int) : (wdMv wd p).length ≤ wd.length := by
  unfold wdMv
  rw [List.length_map]
  exact List.length_filter_le _ _
theorem movesL_len {t : Tw} (ok : PartsOk t) (p d : Int) : (movesL t p d).length ≤ 41 := by
  unfold movesL
  have h1 := stMv_len t.st p d t.st.length
  have h2 := wdMv_len t.wd p
  have h3 := ok.s12
  have h4 := pairs_len28 ok.wd ok.n8
  rw [List.length_append, List.length_append]
  have h5 : (if p ∈ t.bd then [((.tup [S "inn"] : T), p)] else []).length ≤ 1 := by split <;> simp
  omega
theorem moves_there {t : Tw} {p d y : Int} : y ∈ (movesL t p d).map Prod.snd ↔ y ∈ openL t p d := by
  rw [mem_openL]
  unfold movesL
  rw [List.map_append, List.map_append, List.mem_append, List.mem_append, or_assoc]
  refine or_congr ?_ (or_congr ?_ ?_)
  · unfold stMv
    rw [List.map_map, List.mem_map]
    constructor
    · rintro ⟨i, hi, rfl⟩
      obtain ⟨h1, h2⟩ := List.mem_filter.mp hi
      have h3 := of_decide_eq_true h2
      refine ⟨t.st.getD i.toNat L00, mem_num h1, ?_⟩
      rw [← h3]
      rfl
    · rintro ⟨l, hl, e⟩
      obtain ⟨i, hi⟩ := List.mem_iff_getElem?.mp hl
      have hil := (List.getElem?_eq_some_iff.mp hi).1
      have eg : t.st.getD ((i : Int)).toNat L00 = l := by
        rw [List.getD_eq_getElem?_getD, show ((i : Int)).toNat = i by omega, hi]; rfl
      refine ⟨(i : Int), List.mem_filter.mpr ⟨mem_rangeT.mpr ⟨by omega, by omega⟩, decide_eq_true ?_⟩, ?_⟩
      · rw [eg, e]
      · show (leadsL (t.st.getD ((i : Int)).toNat L00) d).2 = y
        rw [eg, e]
  · unfold wdMv
    rw [List.map_map, List.mem_map]
    constructor
    · rintro ⟨q, hq, rfl⟩
      obtain ⟨h1, h2⟩ := List.mem_filter.mp hq
      exact ⟨q, h1, of_decide_eq_true h2, rfl⟩
    · rintro ⟨q, hq, h1, rfl⟩
      exact ⟨q, List.mem_filter.mpr ⟨hq, decide_eq_true h1⟩, rfl⟩
  · by_cases h : p ∈ t.bd
    · rw [if_pos h]; simp [h]
    · rw [if_neg h]; simp [h]
theorem sort_moves {t : Tw} {p d : Int} : sortU ((movesL t p d).map Prod.snd) = openL t p d := by
  refine (sortU_eq (ns := (movesL t p d).map Prod.snd) (sortU_strict (waysL t p d)) fun k => ?_).symm
  exact moves_there.symm
def R_law_lead : Rel := fun ts L r L' => ∃ (l : Lane) (d : Int), ts = [tLane l, I d] ∧ 1 ≤ l.r ∧ r = .v (tPair (leadsL l d)) ∧ L' = L
def R_law_moves : Rel := fun ts L r L' => ∃ (q : Tw) (p d : Int), ts = [tParts q, I p, I d] ∧ PartsOk q ∧ r = .n (.lst ((movesL q p d).map tMv)) ∧ L' = L
/-- the places that the moves lead to, from many places -/
def theresL (q : Tw) (ps : List Int) (d : Int) : List Int := ps.flatMap fun p => (movesL q p d).map Prod.snd
def R_law_next : Rel := fun ts L r L' => ∃ (q : Tw) (ps : List Int) (d : Int), ts = [tParts q, .lst (ps.map I), I d] ∧ PartsOk q ∧ ps.length ≤ 100 ∧ r = .n (.lst ((sortU (theresL q ps d)).map I)) ∧ L' = L
/-- keys in the order of their coming -/
def keysL : List Int → List Int := List.foldl addK []
theorem keysL_snoc (l : List Int) (y : Int) : keysL (l ++ [y]) = addK (keysL l) y := by unfold keysL; rw [List.foldl_append]; rfl
theorem mem_foldl_addK {x : Int} : ∀ {l a : List Int}, x ∈ l.foldl addK a ↔ x ∈ a ∨ x ∈ l
  | [], a => by simp
  | y :: l, a => by
    rw [List.foldl_cons, mem_foldl_addK, mem_addK, List.mem_cons, or_assoc]
theorem mem_keysL {x : Int} {l : List Int} : x ∈ keysL l ↔ x ∈ l := by unfold keysL; rw [mem_foldl_addK]; simp
theorem nodup_foldl_addK : ∀ {l a : List Int}, a.Nodup → (l.foldl addK a).Nodup
  | [], _, h => h
  | y :: l, a, h => nodup_foldl_addK (l := l) (addK_nodup (y := y) h)
theorem keysL_nodup (l : List Int) : (keysL l).Nodup := nodup_foldl_addK .nil
theorem sort_keys (l : List Int) : sortI (keysL l) = sortU l := by
  refine sortU_eq ?_ fun k => by rw [(sortI_perm _).mem_iff, mem_keysL]
  have h2 : (sortI (keysL l)).Nodup := (sortI_perm _).nodup_iff.mpr (keysL_nodup l)
  exact (List.Pairwise.and (sortI_sorted (keysL l)) h2).imp fun {a b} h => by have := h.1; have := h.2; omega
theorem openL_in {t : Tw} (ok : PartsOk t) {p d y : Int} (h : y ∈ openL t p d) : 1 ≤ y ∧ y ≤ t.n := by
  rw [mem_openL] at h
  rcases h with ⟨l, hl, e⟩ | ⟨q, hq, h1, rfl⟩ | ⟨h1, rfl⟩
  · have o := ok.st l hl
    have : y = (leadsL l d).2 := by rw [e]
    subst this
    unfold leadsL
    have := o.a1; have := o.a2; have := o.b1; have := o.b2
    split <;> constructor <;> assumption
  · obtain ⟨h1, h2, h3, h4, h5⟩ := ok.wd.ok q hq
    omega
  · exact ok.bd.ok _ h1
theorem theres_keys {q : Tw} (ok : PartsOk q) (ps : List Int) (d : Int) : (keysL (theresL q ps d)).length ≤ 8 := by
  have h8 := ok.n8
  refine Nat.le_trans (nodup_len (m := TL.rangeT 1 8) (keysL_nodup _) fun y hy => ?_) (by rw [length_rangeT]; exact Nat.le_refl _)
  rw [mem_keysL] at hy
  unfold theresL at hy
  obtain ⟨p, _, hp⟩ := List.mem_flatMap.mp hy
  have := openL_in ok (moves_there.mp hp)
  exact mem_rangeT.mpr ⟨by omega, by omega⟩
/-! counting over a whole turn -/
theorem count_win {f : Int → Bool} {P : Nat} (hp : ∀ x, f (x + P) = f x) (e : Int) : ∀ m : Nat, ((List.range (P * m)).countP fun (k : Nat) => f (e + (k : Int))) = m * (List.range P).countP fun (k : Nat) => f (e + (k : Int))
  | 0 => by simp
  | m + 1 => by
    have hm : ∀ (m : Nat) (x : Int), f (x + P * m) = f x := by
      intro m
      induction m with
      | zero => intro x; simp
      | succ m ih => intro x; rw [show x + (P : Int) * ((m + 1 : Nat) : Int) = (x + P * m) + P by push_cast; rw [Int.mul_add]; omega, hp, ih]
    rw [Nat.mul_add, Nat.mul_one, List.range_add, List.countP_append, count_win hp e m, List.countP_map, Nat.add_mul, Nat.one_mul]
    congr 1
    refine List.countP_congr fun k _ => ?_
    show f (e + ((P * m + k : Nat) : Int)) = true ↔ _
    rw [show e + ((P * m + k : Nat) : Int) = (e + (k : Int)) + (P : Int) * (m : Int) by push_cast; omega, hm]
theorem one_leads : ∀ r ∈ [1, 2, 3, 4, 5, 6], ∀ e ∈ List.range 12, e < 2 * r → ((List.range (2 * r)).countP fun (k : Nat) => decide (((e : Int) + (k : Int)) / (r : Int) % 2 = 0)) = r := by decide +kernel
theorem one_turns : ∀ r ∈ [1, 2, 3, 4, 5, 6], ∀ e ∈ List.range 6, e < r → ((List.range r).countP fun (k : Nat) => decide (((e : Int) + (k : Int)) % (r : Int) = 0)) = 1 := by decide +kernel
theorem win_mod {f : Int → Bool} {P : Nat} (h0 : 0 < P) (hp : ∀ x, f (x + P) = f x) (e : Int) : ∃ n : Nat, n < P ∧ ∀ x : Int, f (e + x) = f ((n : Int) + x) := by
  refine ⟨(e % P).toNat, ?_, fun x => ?_⟩
  · have h1 := Int.emod_nonneg e (show (P : Int) ≠ 0 by omega)
    have h2 := Int.emod_lt_of_pos e (show (0 : Int) < P by omega)
    omega
  · have h1 := Int.emod_nonneg e (show (P : Int) ≠ 0 by omega)
    have hm : ∀ (m : Nat) (x : Int), f (x + P * m) = f x := by
      intro m
      induction m with
      | zero => intro x; simp
      | succ m ih => intro x; rw [show x + (P : Int) * ((m + 1 : Nat) : Int) = (x + P * m) + P by push_cast; rw [Int.mul_add]; omega, hp, ih]
    have e1 := Int.mul_ediv_add_emod e P
    rw [Int.toNat_of_nonneg h1]
    rcases Int.le_total 0 (e / P) with h | h
    · obtain ⟨m, hmm⟩ := Int.eq_ofNat_of_zero_le h
      rw [← hm m (e % P + x)]
      congr 1
      rw [hmm] at e1
      show e + x = e % P + x + (P : Int) * (m : Int)
      omega
    · obtain ⟨m, hmm⟩ := Int.eq_ofNat_of_zero_le (show 0 ≤ -(e / P) by omega)
      rw [← hm m (e + x)]
      congr 1
      have : e / P = -(m : Int) := by omega
      rw [this, Int.mul_neg] at e1
      omega
theorem mem_r6 {r : Int} (h1 : 1 ≤ r) (h2 : r ≤ 6) : r.toNat ∈ [1, 2, 3, 4, 5, 6] ∧ (r.toNat : Int) = r := by
  refine ⟨?_, by omega⟩
  have : r.toNat = 1 ∨ r.toNat = 2 ∨ r.toNat = 3 ∨ r.toNat = 4 ∨ r.toNat = 5 ∨ r.toNat = 6 := by omega
  simpa using this
theorem lead_count {m : Int} {l : Lane} (o : l.Ok m) (d : Int) {c : Nat} (hc : l.r.toNat ∣ c) : ((List.range (2 * c)).countP fun (k : Nat) => decide (leadsL l (d + (k : Int)) = (l.a, l.b))) = c := by
  obtain ⟨r1, r2⟩ := mem_r6 o.r1 o.r2
  have hr := o.r1
  have e1 : ∀ x : Int, decide (leadsL l x = (l.a, l.b)) = decide ((x - l.n) / (l.r.toNat : Int) % 2 = 0) := fun x => by
    rw [r2]
    unfold leadsL
    by_cases h : (x - l.n) / l.r % 2 = 0
    · rw [if_pos h, decide_eq_true h]; simp
    · rw [if_neg h, decide_eq_false h]
      have := o.ne
      simp [Ne.symm this]
  have hp : ∀ x : Int, (fun x : Int => decide (x / (l.r.toNat : Int) % 2 = 0)) (x + ((2 * l.r.toNat : Nat) : Int)) = (fun x : Int => decide (x / (l.r.toNat : Int) % 2 = 0)) x := fun x => by
    show decide ((x + ((2 * l.r.toNat : Nat) : Int)) / (l.r.toNat : Int) % 2 = 0) = decide (x / (l.r.toNat : Int) % 2 = 0)
    congr 2
    rw [show x + ((2 * l.r.toNat : Nat) : Int) = x + (l.r.toNat : Int) * 2 by push_cast; omega, Int.add_mul_ediv_left _ _ (by omega), Int.add_emod_right]
  obtain ⟨n, hn, hx⟩ := win_mod (f := fun x : Int => decide (x / (l.r.toNat : Int) % 2 = 0)) (P := 2 * l.r.toNat) (by omega) hp (d - l.n)
  obtain ⟨q, rfl⟩ := hc
  have := count_win (f := fun x : Int => decide (x / (l.r.toNat : Int) % 2 = 0)) (P := 2 * l.r.toNat) hp (d - l.n) q
  have e2 : (fun (k : Nat) => decide (leadsL l (d + (k : Int)) = (l.a, l.b))) = fun (k : Nat) => decide (((d - l.n) + (k : Int)) / (l.r.toNat : Int) % 2 = 0) := by
    funext k
    rw [e1, show d + (k : Int) - l.n = d - l.n + k by omega]
  rw [e2, show 2 * (l.r.toNat * q) = 2 * l.r.toNat * q by rw [Nat.mul_assoc], this]
  have e3 : ((List.range (2 * l.r.toNat)).countP fun (k : Nat) => decide (((d - l.n) + (k : Int)) / (l.r.toNat : Int) % 2 = 0)) = l.r.toNat := by
    have := one_leads l.r.toNat r1 n (List.mem_range.mpr (by have := o.r2; omega)) hn
    have e : (fun (k : Nat) => decide (((d - l.n) + (k : Int)) / (l.r.toNat : Int) % 2 = 0)) = fun (k : Nat) => decide (((n : Int) + (k : Int)) / (l.r.toNat : Int) % 2 = 0) := by funext k; exact hx k
    rw [e]; exact this
  rw [e3, Nat.mul_comm]
theorem turn_count {m : Int} {l : Lane} (o : l.Ok m) (d : Int) {c : Nat} (hc : l.r.toNat ∣ c) : ((List.range c).countP fun (k : Nat) => turnsB l (d + (k : Int))) = c / l.r.toNat := by
  obtain ⟨r1, r2⟩ := mem_r6 o.r1 o.r2
  have hr := o.r1
  have hp : ∀ x : Int, (fun x : Int => decide (x % (l.r.toNat : Int) = 0)) (x + (l.r.toNat : Int)) = (fun x : Int => decide (x % (l.r.toNat : Int) = 0)) x := fun x => by
    show decide ((x + (l.r.toNat : Int)) % (l.r.toNat : Int) = 0) = decide (x % (l.r.toNat : Int) = 0)
    rw [Int.add_emod_right]
  obtain ⟨n, hn, hx⟩ := win_mod (f := fun x : Int => decide (x % (l.r.toNat : Int) = 0)) (P := l.r.toNat) (by omega) hp (d - l.n)
  obtain ⟨q, rfl⟩ := hc
  have := count_win (f := fun x : Int => decide (x % (l.r.toNat : Int) = 0)) (P := l.r.toNat) hp (d - l.n) q
  have e2 : (fun (k : Nat) => turnsB l (d + (k : Int))) = fun (k : Nat) => decide (((d - l.n) + (k : Int)) % (l.r.toNat : Int) = 0) := by
    funext k
    unfold turnsB
    rw [r2, show d + (k : Int) - l.n = d - l.n + k by omega]
  rw [e2, this]
  have e3 : ((List.range l.r.toNat).countP fun (k : Nat) => decide (((d - l.n) + (k : Int)) % (l.r.toNat : Int) = 0)) = 1 := by
    have := one_turns l.r.toNat r1 n (List.mem_range.mpr (by have := o.r2; omega)) hn
    have e : (fun (k : Nat) => decide (((d - l.n) + (k : Int)) % (l.r.toNat : Int) = 0)) = fun (k : Nat) => decide (((n : Int) + (k : Int)) % (l.r.toNat : Int) = 0) := by funext k; exact hx k
    rw [e]; exact this
  rw [e3, Nat.mul_one, Nat.mul_div_cancel_left _ (by omega)]
end TL


/-! Texts of flat tuples tell their atoms. -/
namespace TL
open PySem PySem.Spec PyProof.Rows L2
theorem nat_repr_inj {n m : Nat} (h : n.repr.toList = m.repr.toList) : n = m := by
  rw [Nat.toList_repr, Nat.toList_repr] at h
  rw [← Nat.ofDigitChars_toDigits (b := 10) (n := n) (by decide) (by decide), h, Nat.ofDigitChars_toDigits (by decide) (by decide)]
theorem dash_not_repr (n : Nat) : '-' ∉ n.repr.toList := by
  rw [Nat.toList_repr]
  intro h
  exact absurd (Nat.isDigit_of_mem_toDigits (by decide) (by decide) h) (by decide)
theorem int_text_inj {i j : Int} (h : (toString i).toList = (toString j).toList) : i = j := by
  rw [Int.toString_eq_repr, Int.toString_eq_repr, Int.repr_eq_if, Int.repr_eq_if] at h
  split at h <;> split at h
  · have := nat_repr_inj h; omega
  · exfalso
    rw [String.toList_append] at h
    refine dash_not_repr i.toNat ?_
    rw [h]; simp
  · exfalso
    rw [String.toList_append] at h
    refine dash_not_repr j.toNat ?_
    rw [← h]; simp
  · rw [String.toList_append, String.toList_append] at h
    have := nat_repr_inj (List.append_cancel_left h)
    omega
theorem shown_int_inj {i j : Int} (h : (PyData.int i).shown.cps.toList = (PyData.int j).shown.cps.toList) : i = j := by
  rw [PyData.shown_int, PyData.shown_int, signs_ofString, signs_ofString] at h
  exact int_text_inj ((List.map_inj_right (fun a b e => Char.toNat_inj.mp e)).mp h)
/-- up to the first mark -/
theorem split_mark {α : Type} {k : α} : ∀ {a b x y : List α}, k ∉ a → k ∉ b → a ++ k :: x = b ++ k :: y → a = b ∧ x = y
  | [], [], _, _, _, _, h => ⟨rfl, (List.cons.inj h).2⟩
  | [], b :: bs, _, _, _, hb, h => absurd (List.mem_cons.mpr (.inl (List.cons.inj h).1)) hb
  | a :: as, [], _, _, ha, _, h => absurd (List.mem_cons.mpr (.inl (List.cons.inj h).1.symm)) ha
  | a :: as, b :: bs, x, y, ha, hb, h => by
    obtain ⟨h1, h2⟩ := List.cons.inj h
    obtain ⟨h3, h4⟩ := split_mark (fun z => ha (List.mem_cons_of_mem _ z)) (fun z => hb (List.mem_cons_of_mem _ z)) h2
    exact ⟨by rw [h1, h3], h4⟩
theorem cps3 (a b c : PyData) : (PyData.tuple [a, b, c]).shown.cps.toList = 40 :: (a.shown.cps.toList ++ 44 :: 32 :: (b.shown.cps.toList ++ 44 :: 32 :: (c.shown.cps.toList ++ [41]))) := by
  rw [PyData.shown_tuple]
  show (((("(" : Str) ++ (a.shown ++ ", " ++ (b.shown ++ ", " ++ c.shown))) ++ (")" : String) : Str)).cps.toList = _
  simp only [cps_toList_append]
  have e1 : ((", " : String) : Str).cps.toList = [44, 32] := by decide
  have e2 : (("(" : Str)).cps.toList = [40] := by decide
  have e3 : ((")" : String) : Str).cps.toList = [41] := by decide
  rw [e1, e2, e3]; simp
theorem cps2 (a b : PyData) : (PyData.tuple [a, b]).shown.cps.toList = 40 :: (a.shown.cps.toList ++ 44 :: 32 :: (b.shown.cps.toList ++ [41])) := by
  rw [PyData.shown_tuple]
  show (((("(" : Str) ++ (a.shown ++ ", " ++ b.shown)) ++ (")" : String) : Str)).cps.toList = _
  simp only [cps_toList_append]
  have e1 : ((", " : String) : Str).cps.toList = [44, 32] := by decide
  have e2 : (("(" : Str)).cps.toList = [40] := by decide
  have e3 : ((")" : String) : Str).cps.toList = [41] := by decide
  rw [e1, e2, e3]; simp
theorem cps1 (a : PyData) : (PyData.tuple [a]).shown.cps.toList = 40 :: (a.shown.cps.toList ++ [44, 41]) := by
  rw [PyData.shown_tuple]
  show (((("(" : Str) ++ a.shown) ++ (",)" : String) : Str)).cps.toList = _
  simp only [cps_toList_append]
  have e2 : (("(" : Str)).cps.toList = [40] := by decide
  have e3 : ((",)" : String) : Str).cps.toList = [44, 41] := by decide
  rw [e2, e3]; simp
def NoCm (d : PyData) : Prop := 44 ∉ d.shown.cps.toList
theorem nc_int (i : Int) : NoCm (.int i) := shown_int_free (.inl (by decide)) i
theorem nc_bool (b : Bool) : NoCm (.bool b) := shown_bool_free (.inl (by decide)) b
theorem nc_none : NoCm .none := shown_none_free (.inl (by decide))
theorem shown_tup3 {a b c a' b' c' : PyData} (h1 : NoCm a) (h2 : NoCm b) (h1' : NoCm a') (h2' : NoCm b') (h : (PyData.tuple [a, b, c]).shown = (PyData.tuple [a', b', c']).shown) :
    a.shown.cps.toList = a'.shown.cps.toList ∧ b.shown.cps.toList = b'.shown.cps.toList ∧ c.shown.cps.toList = c'.shown.cps.toList := by
  have e := congrArg (fun s : Str => s.cps.toList) h
  simp only [cps3] at e
  obtain ⟨e1, e2⟩ := split_mark h1 h1' (List.cons.inj e).2
  obtain ⟨e3, e4⟩ := split_mark h2 h2' (List.cons.inj e2).2
  exact ⟨e1, e3, List.append_cancel_right (List.cons.inj e4).2⟩
theorem shown_tup2 {a b a' b' : PyData} (h1 : NoCm a) (h1' : NoCm a') (h : (PyData.tuple [a, b]).shown = (PyData.tuple [a', b']).shown) :
    a.shown.cps.toList = a'.shown.cps.toList ∧ b.shown.cps.toList = b'.shown.cps.toList := by
  have e := congrArg (fun s : Str => s.cps.toList) h
  simp only [cps2] at e
  obtain ⟨e1, e2⟩ := split_mark h1 h1' (List.cons.inj e).2
  exact ⟨e1, List.append_cancel_right (List.cons.inj e2).2⟩
theorem shown_21 {a b a' : PyData} (h1 : NoCm a) (h1' : NoCm a') : (PyData.tuple [a, b]).shown ≠ (PyData.tuple [a']).shown := fun h => by
  have e := congrArg (fun s : Str => s.cps.toList) h
  simp only [cps2, cps1] at e
  obtain ⟨e1, e2⟩ := split_mark h1 h1' (List.cons.inj e).2
  exact absurd (List.cons.inj e2).1 (by decide)
/-- what may stand in a tuple told: a text of its own is told apart from whole numbers -/
theorem shown_bool_int {b : Bool} {i : Int} : (PyData.bool b).shown.cps.toList ≠ (PyData.int i).shown.cps.toList := fun h => by
  have h2 : (101 : Nat) ∈ (PyData.bool b).shown.cps.toList := by
    rw [PyData.shown_bool]
    cases b <;> decide
  rw [h] at h2
  exact shown_int_free' (by decide) i h2
theorem shown_none_int {i : Int} : (PyData.none).shown.cps.toList ≠ (PyData.int i).shown.cps.toList := fun h => by
  have h2 : (101 : Nat) ∈ (PyData.none).shown.cps.toList := by rw [PyData.shown_none]; decide
  rw [h] at h2
  exact shown_int_free' (by decide) i h2
end TL


/-! Papers of home nights: flat things that may be shown for one. -/
namespace TL
open PySem PySem.Spec PyProof.Rows L2
inductive At where
  | aI (n : Int)
  | aB (z : Bool)
  | aN
  | aS (x : Str)
deriving DecidableEq
def At.t : At → T
  | .aI n => I n
  | .aB z => B z
  | .aN => N0
  | .aS x => S x
def At.d : At → PyData
  | .aI n => .int n
  | .aB z => .bool z
  | .aN => .none
  | .aS x => .str x
def At.ok : At → Prop
  | .aI n => -200 ≤ n ∧ n ≤ 200
  | .aS x => (PyData.str x).canLay0 = true ∧ (PyData.str x).shown.length ≤ 100
  | _ => True
theorem At.sh {a : At} (h : a.ok) : Sh a.t a.d 0 := by
  cases a with
  | aI n => exact sh_I n
  | aB z => exact sh_B z
  | aN => exact sh_N
  | aS x => exact ⟨by show pd (S x) = _; unfold pd pdV; rfl, h.1, Nat.zero_le _⟩
theorem At.ty (a : At) : (tyN a.t).isSome = true := by cases a <;> rfl
/-- what may be told as a text -/
structure Sw (d : PyData) (k z : Nat) : Prop where
  sh : d.showable = true
  nd : d.hasDict = false
  dp : d.depth ≤ k
  ln : d.shown.length ≤ z
theorem int_shortA : ∀ n ∈ List.range 401, ((toString ((n : Int) - 200) : String) : Str).length ≤ 100 := by decide +kernel
theorem At.sw {a : At} (h : a.ok) : Sw a.d 0 100 := by
  cases a with
  | aI n =>
    have hn : -200 ≤ n ∧ n ≤ 200 := h
    refine ⟨?_, rfl, Nat.le_refl _, ?_⟩
    · show decide (n.natAbs.log2 < 1920) = true
      refine decide_eq_true ?_
      by_cases hz : n.natAbs = 0
      · rw [hz]; decide
      · have : n.natAbs < 2 ^ 1919 := Nat.lt_of_le_of_lt (show n.natAbs ≤ 200 by omega) (by decide +kernel)
        have := (Nat.log2_lt hz).mpr this; omega
    · show (PyData.int n).shown.length ≤ 100
      rw [PyData.shown_int]
      have := int_shortA (n + 200).toNat (List.mem_range.mpr (by omega))
      rw [show (((n + 200).toNat : Nat) : Int) - 200 = n by omega] at this
      exact this
  | aB z => exact ⟨rfl, rfl, Nat.le_refl _, by show (PyData.bool z).shown.length ≤ 100; rw [PyData.shown_bool]; cases z <;> decide⟩
  | aN => exact ⟨rfl, rfl, Nat.le_refl _, by show (PyData.none).shown.length ≤ 100; rw [PyData.shown_none]; decide⟩
  | aS x => exact ⟨rfl, rfl, Nat.le_refl _, h.2⟩
/-- a paper -/
inductive Pap where
  | tup (l : List At)
  | lst (l : List At)
  | one (a : At)
def Pap.t : Pap → T
  | .tup l => .tup (l.map At.t)
  | .lst l => .lst (l.map At.t)
  | .one a => a.t
def Pap.d : Pap → PyData
  | .tup l => .tuple (l.map At.d)
  | .lst l => .list (l.map At.d)
  | .one a => a.d
def wN : Str := "nights"
def wV : Str := "never"
def wH : Str := "home"
def Pap.ok : Pap → Prop
  | .tup l => (∀ a ∈ l, a.ok) ∧ l.length ≤ 4 ∧ (l.length = 3 → ∃ w a b, l = [.aS w, a, b] ∧ (w = wN ∨ w = wV ∨ w = wH) ∧ (w = wN → (∀ x, a ≠ .aS x) ∧ ∀ x, b ≠ .aS x))
  | .lst l => (∀ a ∈ l, a.ok) ∧ l.length ≤ 4
  | .one a => a = .aN ∨ ∃ x, a = .aS x ∧ a.ok
theorem Pap.ty (p : Pap) : (tyN p.t).isSome = true := by
  cases p with
  | tup l => rfl
  | lst l => rfl
  | one a => exact a.ty
theorem pd_ats : ∀ {l : List At}, (∀ a ∈ l, a.ok) → pdL (l.map At.t) = some (l.map At.d)
  | [], _ => by unfold pdL; rfl
  | a :: l, h => by
    show pdL (a.t :: l.map At.t) = some (a.d :: l.map At.d)
    unfold pdL
    rw [(At.sh (h a List.mem_cons_self)).e, pd_ats fun b hb => h b (List.mem_cons_of_mem _ hb)]
theorem sw_all : ∀ {l : List At}, (∀ a ∈ l, a.ok) → PyData.showableAll (l.map At.d) = true ∧ PyData.hasDictAll (l.map At.d) = false ∧ PyData.depthAll (l.map At.d) ≤ 0 ∧ ((PyData.shownAll (l.map At.d)).map (·.length)).sum ≤ 100 * l.length ∧ (PyData.shownAll (l.map At.d)).length = l.length
  | [], _ => by
    refine ⟨rfl, rfl, Nat.le_refl _, ?_, ?_⟩
    · show ((PyData.shownAll []).map (·.length)).sum ≤ _
      rw [PyData.shownAll_nil]; simp
    · show (PyData.shownAll []).length = _
      rw [PyData.shownAll_nil]; rfl
  | a :: l, h => by
    obtain ⟨h1, h2, h3, h4, h5⟩ := sw_all (l := l) fun b hb => h b (List.mem_cons_of_mem _ hb)
    have s := At.sw (h a List.mem_cons_self)
    refine ⟨?_, ?_, ?_, ?_, ?_⟩
    · show (a.d.showable && PyData.showableAll (l.map At.d)) = true
      rw [s.sh, h1]; rfl
    · show (a.d.hasDict || PyData.hasDictAll (l.map At.d)) = false
      rw [s.nd, h2]; rfl
    · show max a.d.depth (PyData.depthAll (l.map At.d)) ≤ 0
      have := s.dp
      omega
    · show ((PyData.shownAll (a.d :: l.map At.d)).map (·.length)).sum ≤ _
      rw [PyData.shownAll_cons, List.map_cons, List.sum_cons, List.length_cons]
      have := s.ln
      omega
    · show (PyData.shownAll (a.d :: l.map At.d)).length = _
      rw [PyData.shownAll_cons, List.length_cons, h5]; rfl
theorem Pap.sw {p : Pap} (h : p.ok) : Sw p.d 1 1000 := by
  cases p with
  | tup l =>
    obtain ⟨h1, h2, h3, h4, h5⟩ := sw_all h.1
    have := h.2.1
    refine ⟨h1, h2, ?_, ?_⟩
    · show PyData.depthAll (l.map At.d) + 1 ≤ 1
      omega
    · have e := tupleText_len_le (PyData.shownAll (l.map At.d))
      have e2 : (PyData.tuple (l.map At.d)).shown = tupleText (PyData.shownAll (l.map At.d)) := by simp only [PyData.shown]
      show (PyData.tuple (l.map At.d)).shown.length ≤ 1000
      rw [e2]
      omega
  | lst l =>
    obtain ⟨h1, h2, h3, h4, h5⟩ := sw_all h.1
    have := h.2
    refine ⟨h1, h2, ?_, ?_⟩
    · show PyData.depthAll (l.map At.d) + 1 ≤ 1
      omega
    · have e := listText_len_le (PyData.shownAll (l.map At.d))
      have e2 : (PyData.list (l.map At.d)).shown = listText (PyData.shownAll (l.map At.d)) := by simp only [PyData.shown]
      show (PyData.list (l.map At.d)).shown.length ≤ 1000
      rw [e2]
      omega
  | one a =>
    have ha : a.ok := by
      rcases h with rfl | ⟨x, rfl, hx⟩
      · trivial
      · exact hx
    have s := At.sw ha
    exact ⟨s.sh, s.nd, Nat.le_trans s.dp (by decide), Nat.le_trans s.ln (by decide)⟩
theorem Pap.pd {p : Pap} (h : p.ok) : TL.pd p.t = some p.d := by
  cases p with
  | tup l => exact pd_tup (pd_ats h.1)
  | lst l => exact pd_lstL (pd_ats h.1)
  | one a =>
    have ha : a.ok := by
      rcases h with rfl | ⟨x, rfl, hx⟩
      · trivial
      · exact hx
    exact (At.sh ha).e
section
variable {X : Cx}
theorem call_repr_none : CallR X (.builtin "repr") (fun xs H Q => xs = [.non] ∧ Q (.str "None") H) := by
  intro pins s σ H xs us Q I r h
  obtain ⟨rfl, q⟩ := h
  obtain ⟨u, rfl, ru⟩ := vals1 r
  cases ru
  exact PySem.P.repr_of_none ⟨.str _, H, I.tok _, ⟨_, rfl⟩, q⟩
theorem call_repr_str : CallR X (.builtin "repr") (fun xs H Q => ∃ a, xs = [.str a] ∧ (reprText a).length ≤ sizeLine ∧ Q (.str (reprText a)) H) := by
  intro pins s σ H xs us Q I r h
  obtain ⟨a, rfl, hz, q⟩ := h
  obtain ⟨u, rfl, t, rfl⟩ := vals1 r
  exact PySem.P.repr_of_str ⟨.str _, H, I.tok _, ⟨_, rfl⟩, q⟩ hz
end
section
variable {cm : Bool} {CX : CXT} {P : Program} {w : World} {K : PySem.W.Frag} {mg : Str → Option Value} {base : Heap} {k : Nat} {N : List Str} {sc : Scope} {fs : Str → Bool} {X : Cx}
variable {e a b : Expr} {ρ : TEnv} {L L1 Lb : Store} {pos p : Pos} {i : Int}
theorem ev_reprP {pp : Pap} (ct : Cq cm CX P w K mg base k N sc fs X) (hm : mg "repr" = none) (hg : glOk sc "repr" = true) (ha : EvA X [e] ρ L [pp.t] L1) (ok : pp.ok)
    (he : starEach [e] X.env = (false, eval e X.env) :: starEach [] X.env := by rfl) (hpl : (backTo pos (starEach [] X.env)).any (·.1) = false := by rfl) : Ev X (.Call (.Name "repr" p) [e] [] pos) ρ L (.v (S pp.d.shown)) L1 := by
  have s := pp.sw ok
  have hz : pp.d.shown.length ≤ sizeLine := Nat.le_trans s.ln (by decide)
  cases pp with
  | tup l => exact ev_repr ct hm hg ha (Pap.pd ok) s.sh s.nd (Nat.le_trans s.dp (by decide)) hz rfl he hpl
  | lst l => exact ev_repr ct hm hg ha (Pap.pd ok) s.sh s.nd (Nat.le_trans s.dp (by decide)) hz rfl he hpl
  | one a =>
    rcases ok with rfl | ⟨x, rfl, hx⟩
    · refine ev_cb ct call_repr_none PyProof.Rows.boot_repr hm hg ha (fun W H xs Q s r0 q => ?_) he hpl
      obtain ⟨x, rfl, r⟩ := rp1 r0
      cases r
      refine ⟨rfl, ?_⟩
      have e : (PyData.none).shown = ("None" : Str) := PyData.shown_none
      rw [← e]
      exact q _ W H .refl s (Rp.v _)
    · refine ev_cb ct call_repr_str PyProof.Rows.boot_repr hm hg ha (fun W H xs Q s r0 q => ?_) he hpl
      obtain ⟨y, rfl, r⟩ := rp1 r0
      cases r
      refine ⟨x, rfl, ?_, ?_⟩
      · rw [← PyData.shown_str]; exact hz
      · rw [← PyData.shown_str]
        exact q _ W H .refl s (Rp.v _)
theorem ev_strI (ct : Cq cm CX P w K mg base k N sc fs X) (hm : mg "str" = none) (ha : EvA X [e] ρ L [I i] L1) (hz : i.natAbs.log2 < 1920) (hg : glOk sc "str" = true := by decide +kernel)
    (he : starEach [e] X.env = (false, eval e X.env) :: starEach [] X.env := by first | with_reducible exact se1 | with_reducible exact se2 | with_reducible exact se3 | with_reducible exact se4 | with_reducible exact se5 | with_reducible exact se6 | with_reducible exact se7 | with_reducible exact se8 | with_reducible exact se9 | rfl) (hpl : (backTo pos (starEach [] X.env)).any (·.1) = false := by rfl) : Ev X (.Call (.Name "str" p) [e] [] pos) ρ L (.v (S (toString i))) L1 :=
  ev_cty ct call_str_int PySem.Pv.boot_str hm hg ha (fun W H xs Q s r0 q => by
    obtain ⟨x, rfl, r⟩ := rp1 r0
    cases r
    exact ⟨i, rfl, hz, q _ W H .refl s (Rp.v _)⟩) he hpl
theorem ev_eqS {x y : Str} (ha : Ev X a ρ L (.v (S x)) L1) (hb : Ev X b ρ L1 (.v (S y)) Lb) : Ev X (.Compare a [.Eq] [b] pos) ρ L (.v (B (decide (x = y)))) Lb := ev_cmp op_eq ha hb (fun W H u v Q s r1 r2 q => by
  cases r1; cases r2
  have : decide (x = y) = decide (V.str x = V.str y) := by
    by_cases e : x = y
    · subst e; simp
    · rw [decide_eq_false e, decide_eq_false (fun z => e (V.str.inj z))]
  exact ⟨rfl, by rw [← this]; exact q _ W H .refl s (.v _)⟩) (nomark _)
end
end TL


/-! What is shown by a paper. -/
namespace TL
open PySem PySem.Spec PyProof.Rows L2
noncomputable def papB (st : List Lane) (w : Str) (a b : At) : Bool :=
  match a, b with
  | .aI x, .aI y => if w = wN then decide (homeP st = (wN, x, y)) else if w = wV then ((decide (0 ≤ x) && decide (x < (st.length : Int))) && (decide (0 ≤ y) && decide (y < (st.length : Int)))) && (!decide (x = y) && tornB st x.toNat y.toNat) else false
  | _, _ => false
theorem papB_int {st : List Lane} {w : Str} {x y : Int} : papB st w (.aI x) (.aI y) = if w = wN then decide (homeP st = (wN, x, y)) else if w = wV then ((decide (0 ≤ x) && decide (x < (st.length : Int))) && (decide (0 ≤ y) && decide (y < (st.length : Int)))) && (!decide (x = y) && tornB st x.toNat y.toNat) else false := rfl
noncomputable def papZ (st : List Lane) : Pap → Bool
  | .tup [.aS w, a, b] => papB st w a b
  | _ => false
def R_shows_paper (C : Addr) : Rel := fun ts L r L' => ∃ (t : Tw) (pp : Pap), ts = [tTw C t, pp.t] ∧ StOk t.st ∧ pp.ok ∧ r = .v (B (papZ t.st pp)) ∧ L' = L
def R_due_paper : Rel := fun ts L r L' => ∃ (t : Tw) (pp : Pap), ts = [tParts t, pp.t] ∧ StOk t.st ∧ pp.ok ∧ r = .v (B (papZ t.st pp)) ∧ L' = L
theorem papZ_len {st : List Lane} {l : List At} (h : l.length ≠ 3) : papZ st (.tup l) = false := by
  match l, h with
  | [], _ => rfl
  | [a], _ => cases a <;> rfl
  | [a, _], _ => cases a <;> rfl
  | [_, _, _], h => exact absurd rfl h
  | a :: _ :: _ :: _ :: _, _ => cases a <;> rfl
/-- which texts of three are the same -/
theorem nc_word {w : Str} (h : w = wN ∨ w = wV ∨ w = wH) : NoCm (.str w) := by
  unfold NoCm
  rcases h with rfl | rfl | rfl <;> decide +kernel
def At.int : At → Bool
  | .aI _ => true
  | _ => false
theorem nc_at {a : At} (h : ∀ x, a ≠ .aS x) : NoCm a.d := by
  cases a with
  | aI n => exact nc_int n
  | aB z => exact nc_bool z
  | aN => exact nc_none
  | aS x => exact absurd rfl (h x)
theorem at_int {a : At} {i : Int} (h : ∀ x, a ≠ .aS x) (e : a.d.shown.cps.toList = (PyData.int i).shown.cps.toList) : a = .aI i := by
  cases a with
  | aI n => rw [shown_int_inj e]
  | aB z => exact absurd e shown_bool_int
  | aN => exact absurd e shown_none_int
  | aS x => exact absurd rfl (h x)
theorem homes60_none {st : List Lane} (ok : StOk st) (h : tornF st = none) : ∃ ds, (rangeT 0 60).filter (homeB st) = firstD st :: ds := by
  have hF := tornF_ok st
  rw [h] at hF
  obtain ⟨d, ds, hd⟩ := homes_some ok hF
  have hl := lcmL_le ok
  have e : rangeT 0 60 = rangeT 0 (lcmL st) ++ (rangeT 0 60).drop (lcmL st) := by
    conv => lhs; rw [← List.take_append_drop (lcmL st) (rangeT 0 60)]
    congr 1
    unfold rangeT
    rw [← List.map_take, List.take_range, Nat.min_eq_left hl]
  refine ⟨ds ++ ((rangeT 0 60).drop (lcmL st)).filter (homeB st), ?_⟩
  rw [e, List.filter_append]
  have : (rangeT 0 (lcmL st)).filter (homeB st) = d :: ds := hd
  rw [this]
  unfold firstD
  rw [hd]; rw [← e]; rfl
theorem homes60_some {st : List Lane} (ok : StOk st) {p : Nat × Nat} (h : tornF st = some p) : (rangeT 0 60).filter (homeB st) = [] := by
  rw [List.filter_eq_nil_iff]
  intro d _ hd
  have := (torn_none_iff ok).mpr ⟨d, hd⟩
  rw [h] at this; cases this
theorem torn_both {st : List Lane} (ok : StOk st) {i j : Nat} (hi : i < st.length) (hj : j < st.length) : tornB st i j = bothB st[i] st[j] := by
  unfold tornB
  rw [List.getD_eq_getElem?_getD, List.getD_eq_getElem?_getD, List.getElem?_eq_getElem hi, List.getElem?_eq_getElem hj]
  have a := ok.2 _ (List.getElem_mem hi)
  have b := ok.2 _ (List.getElem_mem hj)
  exact two_ok a.1 a.2 b.1 b.2
noncomputable def homePap (st : List Lane) : Pap := .tup [.aS (homeP st).1, .aI (homeP st).2.1, .aI (homeP st).2.2]
theorem homeT_pap (st : List Lane) : homeT st = (homePap st).t := rfl
theorem word_ok {w : Str} (h : w = wN ∨ w = wV ∨ w = wH) : (At.aS w).ok := by
  rcases h with rfl | rfl | rfl <;> exact ⟨by decide +kernel, by decide +kernel⟩
theorem home_nums {st : List Lane} (ok : StOk st) : ((homeP st).1 = wV ∨ (homeP st).1 = wN) ∧ 0 ≤ (homeP st).2.1 ∧ (homeP st).2.1 ≤ 60 ∧ 0 ≤ (homeP st).2.2 ∧ (homeP st).2.2 ≤ 60 := by
  have h12 := ok.1
  cases ho : tornF st with
  | some p =>
    obtain ⟨i, j⟩ := p
    have hF := tornF_ok st
    rw [ho] at hF
    rw [homeP_some ho]
    have h1 := hF.1
    have h2 := hF.2.1
    refine ⟨.inl rfl, ?_, ?_, ?_, ?_⟩ <;> show _ ≤ _ <;> simp only <;> omega
  | none =>
    have hf := firstD_ok ok ho
    have hl := lcmL_le ok
    rw [homeP_none ho]
    refine ⟨.inr rfl, hf.2.1, ?_, ?_, ?_⟩
    · have := hf.2.2; show firstD st ≤ 60; omega
    · show (0 : Int) ≤ (lcmL st : Int); omega
    · show (lcmL st : Int) ≤ 60; omega
theorem home_papok {st : List Lane} (ok : StOk st) : (homePap st).ok := by
  obtain ⟨h1, h2, h3, h4, h5⟩ := home_nums ok
  have hw : (homeP st).1 = wN ∨ (homeP st).1 = wV ∨ (homeP st).1 = wH := h1.elim (fun h => .inr (.inl h)) .inl
  refine ⟨fun a ha => ?_, by show 3 ≤ 4; decide, fun _ => ⟨_, _, _, rfl, hw, fun _ => ⟨fun _ => At.noConfusion, fun _ => At.noConfusion⟩⟩⟩
  rcases List.mem_cons.mp ha with rfl | ha
  · exact word_ok hw
  rcases List.mem_cons.mp ha with rfl | ha
  · exact ⟨by omega, by omega⟩
  · rw [List.mem_singleton.mp ha]; exact ⟨by omega, by omega⟩
theorem words_apart : (PyData.str wN).shown.cps.toList ≠ (PyData.str wV).shown.cps.toList := by decide +kernel
theorem paper_nights {st : List Lane} (ok : StOk st) {a b : At} (ha : ∀ x, a ≠ .aS x) (hb : ∀ x, b ≠ .aS x) : decide ((Pap.tup [.aS wN, a, b]).d.shown = (homePap st).d.shown) = papB st wN a b := by
  obtain ⟨h1, -⟩ := home_nums ok
  have key : (Pap.tup [.aS wN, a, b]).d.shown = (homePap st).d.shown → homeP st = (wN, (homeP st).2.1, (homeP st).2.2) ∧ a = .aI (homeP st).2.1 ∧ b = .aI (homeP st).2.2 := fun h => by
    have h' : (PyData.tuple [.str wN, a.d, b.d]).shown = (PyData.tuple [.str (homeP st).1, .int (homeP st).2.1, .int (homeP st).2.2]).shown := h
    obtain ⟨e1, e2, e3⟩ := shown_tup3 (nc_word (.inl rfl)) (nc_at ha) (nc_word (h1.elim (fun h => .inr (.inl h)) .inl)) (nc_int _) h'
    have e4 : (homeP st).1 = wN := by
      rcases h1 with h1 | h1
      · rw [h1] at e1; exact absurd e1 words_apart
      · exact h1
    exact ⟨by rw [← e4], at_int ha e2, at_int hb e3⟩
  by_cases h : (Pap.tup [.aS wN, a, b]).d.shown = (homePap st).d.shown
  · rw [decide_eq_true h]
    obtain ⟨k1, rfl, rfl⟩ := key h
    rw [papB_int, if_pos rfl, decide_eq_true k1]
  · rw [decide_eq_false h]
    cases a with
    | aI x =>
      cases b with
      | aI y =>
        rw [papB_int, if_pos rfl]
        refine (decide_eq_false fun e => h ?_).symm
        unfold homePap
        rw [e]
      | aB _ => rfl
      | aN => rfl
      | aS _ => rfl
    | aB _ => rfl
    | aN => rfl
    | aS _ => rfl
theorem at_whole {a : At} {lo hi : Int} (h : wholeT a.t lo hi = true) : ∃ x, a = .aI x ∧ lo ≤ x ∧ x ≤ hi := by
  cases a with
  | aI x =>
    have h' : (decide (lo ≤ x) && decide (x ≤ hi)) = true := h
    rw [Bool.and_eq_true] at h'
    exact ⟨x, rfl, of_decide_eq_true h'.1, of_decide_eq_true h'.2⟩
  | aB _ => cases h
  | aN => cases h
  | aS _ => cases h
theorem whole_at {x lo hi : Int} : wholeT (At.aI x).t lo hi = (decide (lo ≤ x) && decide (x ≤ hi)) := rfl
theorem papB_never_no {st : List Lane} {a b : At} (h : (wholeT a.t 0 ((st.length : Int) - 1) && wholeT b.t 0 ((st.length : Int) - 1)) = false) : papB st wV a b = false := by
  cases a with
  | aI x =>
    cases b with
    | aI y =>
      rw [whole_at, whole_at] at h
      rw [papB_int, if_neg (by decide +kernel), if_pos rfl]
      have e : ∀ z : Int, decide (z ≤ (st.length : Int) - 1) = decide (z < (st.length : Int)) := fun z => by
        by_cases hz : z < (st.length : Int)
        · rw [decide_eq_true hz, decide_eq_true (show z ≤ (st.length : Int) - 1 by omega)]
        · rw [decide_eq_false hz, decide_eq_false (show ¬ z ≤ (st.length : Int) - 1 by omega)]
      rw [e, e] at h
      rw [h]; rfl
    | aB _ => rfl
    | aN => rfl
    | aS _ => rfl
  | aB _ => rfl
  | aN => rfl
  | aS _ => rfl
theorem papB_never_yes {st : List Lane} {x y : Int} (h1 : 0 ≤ x) (h2 : x ≤ (st.length : Int) - 1) (h3 : 0 ≤ y) (h4 : y ≤ (st.length : Int) - 1) : papB st wV (.aI x) (.aI y) = (!decide (x = y) && tornB st x.toNat y.toNat) := by
  rw [papB_int, if_neg (by decide +kernel), if_pos rfl, decide_eq_true h1, decide_eq_true h3, decide_eq_true (show x < (st.length : Int) by omega), decide_eq_true (show y < (st.length : Int) by omega)]
  rfl
theorem papB_home {st : List Lane} {a b : At} : papB st wH a b = false := by
  cases a with
  | aI x =>
    cases b with
    | aI y =>
      rw [papB_int, if_neg (by decide +kernel), if_neg (by decide +kernel)]
    | aB _ => rfl
    | aN => rfl
    | aS _ => rfl
  | aB _ => rfl
  | aN => rfl
  | aS _ => rfl
theorem papB_notint {st : List Lane} {w : Str} {a b : At} (h : (a.int && b.int) = false) : papB st w a b = false := by
  cases a with
  | aI x =>
    cases b with
    | aI y => cases h
    | aB _ => rfl
    | aN => rfl
    | aS _ => rfl
  | aB _ => rfl
  | aN => rfl
  | aS _ => rfl
theorem at_test (a : At) : (!isA "int" a.t || isA "bool" a.t) = !a.int := by
  have h := isA_any a.ty
  cases a with
  | aI x =>
    have : (isA "int" (At.aI x).t && !isA "bool" (At.aI x).t) = true := h
    rw [Bool.and_eq_true] at this
    rw [this.1, show isA "bool" (At.aI x).t = false by have := this.2; simpa using this]; rfl
  | aB z => rw [show isA "bool" (At.aB z).t = true from isA_of (t := .v (.bl z)) (m := "bool") rfl (by decide +kernel), Bool.or_true]; rfl
  | aN => rw [show isA "int" At.aN.t = false from isA_of (t := .v .non) (m := "NoneType") rfl (by decide +kernel)]; rfl
  | aS x => rw [show isA "int" (At.aS x).t = false from isA_of (t := .v (.str x)) (m := "str") rfl (by decide +kernel)]; rfl
theorem ats_sh : ∀ {l : List At}, (∀ a ∈ l, a.ok) → ShL (l.map At.t) (l.map At.d) 0
  | [], _ => shl_nil
  | a :: l, h => shl_cons (At.sh (h a List.mem_cons_self)) (ats_sh fun b hb => h b (List.mem_cons_of_mem _ hb))
theorem ats_empty {l : List At} (h : ∀ a ∈ l, a.ok) : eqT (.lst (l.map At.t)) (.lst []) = l.isEmpty := by
  rw [(sh_lst (ats_sh h)).eqT (sh_lst (k := 0) shl_nil)]
  cases l <;> simp [PyData.eqv, PyData.eqvAll]
section
variable {cm : Bool} {CX : CXT} {P : Program} {w : World} {K : PySem.W.Frag} {mg : Str → Option Value} {base : Heap} {k : Nat} {N : List Str} {sc : Scope} {fs : Str → Bool} {X : Cx}
variable {a b : Expr} {ρ : TEnv} {L L1 Lb : Store} {t u : T} {ts : List T} {pos : Pos}
theorem ot_notInTD (h1 : shp t = true) (h2 : shp (.tup ts) = true) : OpT K (rInTD K true) t (.tup ts) L (.v (B (!inT t (.tup ts)))) := fun W H x y Q s r1 r2 q => by
  obtain ⟨d, e1, s1⟩ := shp_of h1
  obtain ⟨e, e2, s2⟩ := shp_of h2
  have ⟨ds, e4, e3⟩ : ∃ ds, e = .tuple ds ∧ pdL ts = some ds := by
    unfold pd at e2
    cases q : pdL ts with
    | none => rw [q] at e2; cases e2
    | some ds => rw [q] at e2; cases e2; exact ⟨ds, rfl, rfl⟩
  subst e4
  refine ⟨d, ds, dp_of t x d r1 e1, dp_of _ y _ r2 e2, s1, s2, ?_⟩
  rw [if_pos rfl, any_pd e3 e1]
  exact q _ W H .refl s (.v _)
theorem eb_ninTt (ct : Cq cm CX P w K mg base k N sc fs X) (ha : Ev X a ρ L (.v t) L1) (hb : Ev X b ρ L1 (.v (.tup ts)) Lb) (h1 : shp t = true) (h2 : shp (.tup ts) = true) (hm : behindInMarks .NotIn b = false := by rfl) : EvB X (.Compare a [.NotIn] [b] pos) ρ L (!inT t (.tup ts)) Lb := eb_cmp (op_notInTD ct.u65) ha hb (ot_notInTD h1 h2) hm
end
end TL
namespace TL
open PySem PySem.Spec PyProof.Rows L2
def p3 (w : Str) (a b : At) : Pap := .tup [.aS w, a, b]
def papersP (hm : Pap) (w : Str) (o z i j k c : Int) : List Pap :=
  ((((([hm, .lst [.aS w, .aI o, .aI z], .tup [.aS w, .aI o, .aI z, .aI 0], .tup [.aS w, .aI o], p3 w (.aI z) (.aI o), p3 wV (.aI i) (.aI j), p3 wV (.aI j) (.aI i)]
  ++ [p3 wV (.aI i) (.aI i), p3 wV (.aI 0) (.aI 1), p3 wV (.aI 1) (.aI 0), p3 wV (.aI (-1)) (.aI 0), p3 wV (.aB false) (.aB true)])
  ++ [p3 wN (.aI o) (.aI (z + 1)), p3 wN (.aI (o + z)) (.aI z), p3 wN (.aI 0) (.aI 1)])
  ++ [p3 wN (.aB false) (.aB true), .tup [.aS wN, .aI o], p3 wN .aN (.aI z), p3 wN (.aI o) (.aI (2 * z))])
  ++ [.tup [], .one .aN, .one (.aS wV), p3 wH (.aI o) (.aI z), p3 wV (.aS (toString i : String)) (.aI j), .lst [.aS wV, .aI 0, .aI 1], .tup [.aS wV, .aI i]])
  ++ [p3 wN (.aI k) (.aI c)])
noncomputable def papersF (st : List Lane) (v : W3) : List Pap :=
  papersP (homePap st) (homeP st).1 (homeP st).2.1 (homeP st).2.2 (drV v ((st.length : Int) + 1)) (drV (drW v ((st.length : Int) + 1)) ((st.length : Int) + 1)) (drV (drW (drW v ((st.length : Int) + 1)) ((st.length : Int) + 1)) 60) (lcmL st : Int)
def R_law_papers : Rel := fun ts L r L' => ∃ (n : Nat) (v : W3) (b : Nat) (q : Tw), ts = [.cel n, tParts q, homeT q.st] ∧ L n = some (tW v) ∧ v.Ok b ∧ b ≤ 200 ∧ StOk q.st ∧ r = .n (.lst ((papersF q.st v).map Pap.t)) ∧ L' = updS L n (some (tW (drW (drW (drW v (q.st.length + 1)) (q.st.length + 1)) 60)))
theorem ok3 {w : Str} {a b : At} (hw : w = wN ∨ w = wV ∨ w = wH) (ha : a.ok) (hb : b.ok) (h : w = wN → (∀ x, a ≠ .aS x) ∧ ∀ x, b ≠ .aS x) : (p3 w a b).ok := by
  refine ⟨fun x hx => ?_, by show 3 ≤ 4; decide, fun _ => ⟨w, a, b, rfl, hw, h⟩⟩
  rcases List.mem_cons.mp hx with rfl | hx
  · exact word_ok hw
  rcases List.mem_cons.mp hx with rfl | hx
  · exact ha
  · rw [List.mem_singleton.mp hx]; exact hb
theorem oki {x : Int} (h1 : -200 ≤ x) (h2 : x ≤ 200) : (At.aI x).ok := ⟨h1, h2⟩
theorem okn {w : Str} {a b : Int} : w = wN → (∀ x, At.aI a ≠ .aS x) ∧ ∀ x, At.aI b ≠ .aS x := fun _ => ⟨fun _ => At.noConfusion, fun _ => At.noConfusion⟩
theorem text_ok : ∀ n ∈ List.range 14, (PyData.str ((toString (n : Int) : String) : Str)).canLay0 = true ∧ (PyData.str ((toString (n : Int) : String) : Str)).shown.length ≤ 100 := by decide +kernel
theorem papers_ok {st : List Lane} {v : W3} {b : Nat} (ok : StOk st) (hv : v.Ok b) : ∀ p ∈ papersF st v, p.ok := by
  obtain ⟨h0, h1, h2, h3, h4⟩ := home_nums ok
  have h12 := ok.1
  have hw : (homeP st).1 = wN ∨ (homeP st).1 = wV ∨ (homeP st).1 = wH := h0.elim (fun h => .inr (.inl h)) .inl
  have hi := drV_ge (w := v) (s := (st.length : Int) + 1) (by omega)
  have hi2 := drV_lt (w := v) (s := (st.length : Int) + 1) (by omega)
  have hj := drV_ge (w := drW v ((st.length : Int) + 1)) (s := (st.length : Int) + 1) (by omega)
  have hj2 := drV_lt (w := drW v ((st.length : Int) + 1)) (s := (st.length : Int) + 1) (by omega)
  have hk := drV_ge (w := drW (drW v ((st.length : Int) + 1)) ((st.length : Int) + 1)) (s := 60) (by omega)
  have hk2 := drV_lt (w := drW (drW v ((st.length : Int) + 1)) ((st.length : Int) + 1)) (s := 60) (by omega)
  have hl := lcmL_le ok
  have hp := lcmL_pos ok
  have hh := home_papok ok
  have ht := text_ok (drV v ((st.length : Int) + 1)).toNat (List.mem_range.mpr (by omega))
  rw [show (((drV v ((st.length : Int) + 1)).toNat : Nat) : Int) = drV v ((st.length : Int) + 1) by omega] at ht
  have nb : ∀ z : Bool, ∀ x, At.aB z ≠ .aS x := fun _ _ => At.noConfusion
  have ni : ∀ z : Int, ∀ x, At.aI z ≠ .aS x := fun _ _ => At.noConfusion
  have nn : ∀ x, At.aN ≠ .aS x := fun _ => At.noConfusion
  unfold papersF
  generalize drV (drW (drW v ((st.length : Int) + 1)) ((st.length : Int) + 1)) 60 = k at *
  generalize drV (drW v ((st.length : Int) + 1)) ((st.length : Int) + 1) = j at *
  generalize drV v ((st.length : Int) + 1) = i at *
  generalize (homeP st).1 = w at *
  generalize (homeP st).2.1 = o at *
  generalize (homeP st).2.2 = z at *
  have ho : (At.aI o).ok := oki (by omega) (by omega)
  have hz : (At.aI z).ok := oki (by omega) (by omega)
  have hii : (At.aI i).ok := oki (by omega) (by omega)
  have hjj : (At.aI j).ok := oki (by omega) (by omega)
  have c0 : (At.aI 0).ok := oki (by decide) (by decide)
  have c1 : (At.aI 1).ok := oki (by decide) (by decide)
  have e : ∀ {p : Pap → Prop} {a : Pap} {l : List Pap}, p a → (∀ x ∈ l, p x) → ∀ x ∈ a :: l, p x := fun h1 h2 => List.forall_mem_cons.mpr ⟨h1, h2⟩
  have hwo := word_ok hw
  have all4 : ∀ l : List At, (∀ a ∈ l, a.ok) → l.length ≤ 4 → l.length ≠ 3 → (Pap.tup l).ok := fun l h1 h2 h3 => ⟨h1, h2, fun h => absurd h h3⟩
  have f : ∀ {a : At} {l : List At}, a.ok → (∀ x ∈ l, x.ok) → ∀ x ∈ a :: l, x.ok := fun h1 h2 => List.forall_mem_cons.mpr ⟨h1, h2⟩
  have f0 : ∀ x ∈ ([] : List At), x.ok := fun x h => by cases h
  have e0 : ∀ x ∈ ([] : List Pap), x.ok := fun x h => by cases h
  show ∀ p ∈ [homePap st, .lst [.aS w, .aI o, .aI z], .tup [.aS w, .aI o, .aI z, .aI 0], .tup [.aS w, .aI o], p3 w (.aI z) (.aI o), p3 wV (.aI i) (.aI j), p3 wV (.aI j) (.aI i), p3 wV (.aI i) (.aI i), p3 wV (.aI 0) (.aI 1), p3 wV (.aI 1) (.aI 0), p3 wV (.aI (-1)) (.aI 0), p3 wV (.aB false) (.aB true), p3 wN (.aI o) (.aI (z + 1)), p3 wN (.aI (o + z)) (.aI z), p3 wN (.aI 0) (.aI 1),
    p3 wN (.aB false) (.aB true), .tup [.aS wN, .aI o], p3 wN .aN (.aI z), p3 wN (.aI o) (.aI (2 * z)), .tup [], .one .aN, .one (.aS wV), p3 wH (.aI o) (.aI z), p3 wV (.aS (toString i : String)) (.aI j), .lst [.aS wV, .aI 0, .aI 1], .tup [.aS wV, .aI i], p3 wN (.aI k) (.aI (lcmL st : Int))], p.ok
  have hV : wV = wN ∨ wV = wV ∨ wV = wH := .inr (.inl rfl)
  have hN : wN = wN ∨ wN = wV ∨ wN = wH := .inl rfl
  have hH : wH = wN ∨ wH = wV ∨ wH = wH := .inr (.inr rfl)
  have vN : wV = wN → False := by decide +kernel
  refine e hh (e ⟨f hwo (f ho (f hz f0)), by show 3 ≤ 4; decide⟩ (e (all4 _ (f hwo (f ho (f hz (f c0 f0)))) (by show 4 ≤ 4; decide) (by show ¬ 4 = 3; decide)) (e (all4 _ (f hwo (f ho f0)) (by show 2 ≤ 4; decide) (by show ¬ 2 = 3; decide)) (e (ok3 hw hz ho okn) (e (ok3 hV hii hjj okn) (e (ok3 hV hjj hii okn) ?_))))))
  refine e (ok3 hV hii hii okn) (e (ok3 hV c0 c1 okn) (e (ok3 hV c1 c0 okn) (e (ok3 hV (oki (by decide) (by decide)) c0 okn) (e (ok3 hV trivial trivial fun h => absurd h vN) ?_))))
  refine e (ok3 hN ho (oki (by omega) (by omega)) okn) (e (ok3 hN (oki (by omega) (by omega)) hz okn) (e (ok3 hN c0 c1 okn) ?_))
  refine e (ok3 hN trivial trivial fun _ => ⟨nb _, nb _⟩) (e (all4 _ (f (word_ok hN) (f ho f0)) (by show 2 ≤ 4; decide) (by show ¬ 2 = 3; decide)) (e (ok3 hN trivial hz fun _ => ⟨nn, ni _⟩) (e (ok3 hN ho (oki (by omega) (by omega)) okn) ?_)))
  refine e (all4 _ f0 (by show 0 ≤ 4; decide) (by show ¬ 0 = 3; decide)) (e (.inl rfl) (e (.inr ⟨wV, rfl, word_ok hV⟩) (e (ok3 hH ho hz okn) (e (ok3 hV ht hjj fun h => absurd h vN) (e ⟨f (word_ok hV) (f c0 (f c1 f0)), by show 3 ≤ 4; decide⟩ (e (all4 _ (f (word_ok hV) (f hii f0)) (by show 2 ≤ 4; decide) (by show ¬ 2 = 3; decide)) ?_))))))
  exact e (ok3 hN (oki (by omega) (by omega)) (oki (by omega) (by omega)) okn) e0
theorem papZ_home {st : List Lane} (ok : StOk st) : papZ st (homePap st) = true := by
  show papB st (homeP st).1 (.aI (homeP st).2.1) (.aI (homeP st).2.2) = true
  cases ho : tornF st with
  | some p =>
    obtain ⟨i, j⟩ := p
    have hF := tornF_ok st
    rw [ho] at hF
    have h1 := hF.1
    have h2 := hF.2.1
    rw [homeP_some ho]
    show papB st wV (.aI (i : Int)) (.aI (j : Int)) = true
    rw [papB_never_yes (by omega) (by omega) (by omega) (by omega), decide_eq_false (show ¬ (i : Int) = j by omega)]
    exact hF.2.2.1
  | none =>
    rw [homeP_none ho]
    show papB st wN (.aI (firstD st)) (.aI (lcmL st : Int)) = true
    rw [papB_int, if_pos rfl, homeP_none ho]
    exact decide_eq_true rfl
end TL


/-! The tree layer, exceptions: blocks that may raise. -/
namespace TL
open PySem PySem.Spec PyProof.Rows L2
/-- what is wanted behind a raise: the class, the fields, the names, the store -/
abbrev XR := Addr → List (Str × T) → TEnv → Store → Prop
/-- the fields, as trees -/
def FldR (K : PySem.W.Frag) (W : Wd) (H : Hp) (fs : List (Str × T)) (ws : List (Str × V)) : Prop := ∀ f t, fs.lookup f = some t → ∃ v, ws.lookup f = some v ∧ Rp K W H t v
structure XOk (K : PySem.W.Frag) (W : Wd) (H : Hp) (L : Store) (xr : XR) (Wx : WX) : Prop where
  go : ∀ C fs ρ' L' W' H' σ' d ws, Step W L H W' L' H' → SR K W' H' L' → EnvR K W' H' ρ' σ' → H d = none → H' d = some (.xd ws) → FldR K W' H' fs ws → xr C fs ρ' L' → Wx (.ref C) (some d) σ' H'
theorem XOk.step {K : PySem.W.Frag} {W W1 : Wd} {H H1 : Hp} {L L1 : Store} {xr : XR} {Wx : WX} (x : XOk K W H L xr Wx) (st : Step W L H W1 L1 H1) : XOk K W1 H1 L1 xr Wx := ⟨fun C fs ρ' L' W' H' σ' d ws a b c hn => x.go C fs ρ' L' W' H' σ' d ws (st.trans a) b c (none_of_dom st.dom hn)⟩
theorem XOk.imp {K : PySem.W.Frag} {W : Wd} {H : Hp} {L : Store} {xr xr' : XR} {Wx : WX} (x : XOk K W H L xr Wx) (h : ∀ C fs ρ L, xr' C fs ρ L → xr C fs ρ L) : XOk K W H L xr' Wx := ⟨fun C fs ρ' L' W' H' σ' d ws a b c hn e f q => x.go C fs ρ' L' W' H' σ' d ws a b c hn e f (h _ _ _ _ q)⟩
/-- a block that may raise -/
structure WY (X : Cx) (ss : List Stmt) (ρ : TEnv) (L : Store) (k : TK) (xr : XR) : Prop where
  go : ∀ (W : Wd) (H : Hp) (σ : L2.St) (D : Ends) (Wx : WX), SR X.K W H L → EnvR X.K W H ρ σ → DOk X.K W H L k D → L2N.Takes X Wx → XOk X.K W H L xr Wx → wpSs X ss σ H D
/-- an expression that raises -/
structure EvY (X : Cx) (e : Expr) (ρ : TEnv) (L : Store) (xr : XR) : Prop where
  go : ∀ (W : Wd) (H : Hp) (σ : L2.St) (Q : VK) (Wx : WX), SR X.K W H L → EnvR X.K W H ρ σ → L2N.Takes X Wx → XOk X.K W H L xr Wx → wpE X e σ H Q
theorem execs_one {M : Model} {A : Around} {E : Value → Shared → Prop} {s : Shared} {st : Stmt} {env : Env} {Q : Flow → Shared → Prop} (h : wpAny M A (execs [st] env) Q E s) : wpAny M A (exec st env) Q E s := fun Γ p hΓ => by
  have h1 := h Γ p hΓ
  rw [execs_cons, Sem.wp_bind'] at h1
  exact Sem.wp_mono M Γ _ (fun a p' s' h' => by cases a <;> exact h') (fun _ _ _ h' => h') p s h1
section
variable {cm : Bool} {CX : CXT} {P : Program} {w : World} {K : PySem.W.Frag} {mg : Str → Option Value} {base : Heap} {kk : Nat} {N : List Str} {sc : Scope} {fs : Str → Bool} {X : Cx}
variable {e a b c tg iter : Expr} {es : List Expr} {ρ ρ' ρ1 : TEnv} {L L1 Lb Lc : Store} {t u : T} {ts us : List T} {pos p : Pos} {i j : Int} {st : Stmt} {ss rest : List Stmt} {k k' : TK} {xr xr' : XR}
theorem wy_ws (h : WS X ss ρ L k) : WY X ss ρ L k xr := ⟨fun W H σ D _ s en d _ _ => h W H σ D s en d⟩
theorem wy_imp (h : WY X ss ρ L k xr) (h1 : ∀ ρ L, k.nx ρ L → k'.nx ρ L) (h2 : ∀ r L, k.rt r L → k'.rt r L) (h3 : ∀ ρ L, k.bk ρ L → k'.bk ρ L) (h4 : ∀ ρ L, k.ct ρ L → k'.ct ρ L) (h5 : ∀ C fs ρ L, xr C fs ρ L → xr' C fs ρ L) : WY X ss ρ L k' xr' := ⟨fun W H σ D Wx s en d tk x => h.go W H σ D Wx s en (d.imp h1 h2 h3 h4) tk (x.imp h5)⟩
theorem wy_nil (h : k.nx ρ L) : WY X [] ρ L k xr := wy_ws (ws_nil h)
/-- behind a block: the rest, that may raise -/
def TK.seqY (X : Cx) (rest : List Stmt) (k : TK) (xr : XR) : TK := { k with nx := fun ρ' L' => WY X rest ρ' L' k xr }
/-- a statement by an old rule (its rest: nothing), then the rest -/
theorem wy (h : WS X [st] ρ L (k.seqY X rest xr)) : WY X (st :: rest) ρ L k xr := by
  refine ⟨fun W H σ D Wx s en d tk x => ?_⟩
  refine wp_pss (pss_cons ps_wp pss_wp) ?_
  have h1 := h W H σ { D with nx := fun σ' H' => wpSs X rest σ' H' D } s en ⟨fun ρ' L' W' H' σ' st s' en' q => WY.go q W' H' σ' D Wx s' en' (d.step st) tk (x.step st), d.rt, d.bk, d.ct⟩
  intro pins s I
  have h2 := h1 pins s I
  exact execs_one h2
theorem wy_if {z : Bool} {yes no : List Stmt} (hc : EvB X c ρ L z L1) (h1 : z = true → WY X yes ρ L1 (k.seqY X rest xr) xr) (h2 : z = false → WY X no ρ L1 (k.seqY X rest xr) xr) : WY X (.If c yes no pos :: rest) ρ L k xr := by
  refine ⟨fun W H σ D Wx s en d tk x => ?_⟩
  refine wp_pss (pss_cons ps_wp pss_wp) ?_
  refine wp_ps (ps_if pt_wp pss_wp pss_wp) ?_
  refine hc W H σ _ s en fun W2 H2 st2 s2 => ?_
  have d2 : DOk X.K W2 H2 L1 (k.seqY X rest xr) { D with nx := fun σ' H' => wpSs X rest σ' H' D } := ⟨fun ρ' L' W' H' σ' st s' en' q => WY.go q W' H' σ' D Wx s' en' (d.step (st2.trans st)) tk (x.step (st2.trans st)), (d.step st2).rt, (d.step st2).bk, (d.step st2).ct⟩
  cases z with
  | true => exact (h1 rfl).go W2 H2 σ _ Wx s2 (en.step st2 s) d2 tk (x.step st2)
  | false => exact (h2 rfl).go W2 H2 σ _ Wx s2 (en.step st2 s) d2 tk (x.step st2)
theorem wy_ifT {yes no : List Stmt} (hc : EvB X c ρ L true L1) (h : WY X yes ρ L1 (k.seqY X rest xr) xr) : WY X (.If c yes no pos :: rest) ρ L k xr := wy_if hc (fun _ => h) (fun z => nomatch z)
theorem wy_ifF {yes : List Stmt} (hc : EvB X c ρ L false L1) (h : WY X rest ρ L1 k xr) : WY X (.If c yes [] pos :: rest) ρ L k xr := wy_if hc (fun z => nomatch z) (fun _ => wy_nil h)
/-- a statement that is an expression that raises; a return of one; a store of one -/
theorem wy_expr (he : EvY X e ρ L xr) (hs : swapsWith e none pos.line X.env = pure false := by rfl) : WY X (.Expr e pos :: rest) ρ L k xr := by
  refine ⟨fun W H σ D Wx s en d tk x => ?_⟩
  refine wp_pss (pss_cons ps_wp pss_wp) ?_
  exact wp_ps (ps_expr pe_wp hs) (he.go W H σ _ Wx s en tk x)
theorem wy_ret (he : EvY X e ρ L xr) : WY X (.Return (some e) pos :: rest) ρ L k xr := by
  refine ⟨fun W H σ D Wx s en d tk x => ?_⟩
  refine wp_pss (pss_cons ps_wp pss_wp) ?_
  exact wp_ps (ps_ret pe_wp) (he.go W H σ _ Wx s en tk x)
theorem wy_set (ct : Cq cm CX P w K mg base kk N sc fs X) (n : Nat) {x : Str} {p' : Pos} (he : EvY X e ρ L xr) (hx : locOk N sc fs n x = true := by decide +kernel) (hs : swapsWith e (some (.Name x p')) pos.line X.env = pure false := by rfl) : WY X (.Assign [.Name x p'] e pos :: rest) ρ L k xr := by
  refine ⟨fun W H σ D Wx s en d tk y => ?_⟩
  refine wp_pss (pss_cons ps_wp pss_wp) ?_
  obtain ⟨h1, h2, h3, h4⟩ := ct.loc hx
  exact wp_ps (ps_set h1 h2 h3 pe_wp hs h4) (he.go W H σ _ Wx s en tk y)
end
end TL


/-! The tree layer, exceptions: C.__init__(self, ..) of an own class. -/
namespace TL
open PySem PySem.Spec PyProof.Rows L2
section
variable {cm : Bool} {CX : CXT} {X : Cx} {x : Str} {C f : Addr} {mc : Value} {kk : Nat} {fd : FuncData} {ps : List Str} {sp : Sp} {ds : List Value} {dvs : List V} {e : Expr} {es : List Expr} {ta : TA} {p1 p2 pos : Pos}
theorem pe_cinit {pl : Sem Bool} (hg : Gl X x) (hm : X.mg x = some (.ref C)) (r : ClX.CRead X.K C mc) (k : ClX.CVal X.K C mc "__init__" (.ref f) (.ref f)) (hkeep : PySem.W.keepIn X.K (.ref f) = true)
    (F : FnOk X.prog X.w X.K X.mg X.base CX kk f fd ps sp) (hr : Room kk X.A) (hb : Binds X.K fd ps ds) (hd : Vals dvs ds) (hx : Passes CX X E0) (ha : PA X (e :: es) ta)
    (hc : eval (.Call (.Attribute (.Name x p1) "__init__" p2) (e :: es) [] pos) X.env = (do
      let ov ← eval (.Name x p1) X.env
      standAt p2.atName
      let (f, first) ← holding [ov] (getMethod ov "__init__" pl)
      callWith pos f first (backTo pos (starEach (e :: es) X.env)) (backToKw pos (keywordEach [] X.env))) := by rfl)
    (hdb : (x == ("__debug__" : Str)) = false := by decide)
    (he : starEach (e :: es) X.env = (false, eval e X.env) :: starEach es X.env := by rfl) (hpl : (backTo pos (starEach es X.env)).any (·.1) = false := by rfl) :
    PE X (.Call (.Attribute (.Name x p1) "__init__" p2) (e :: es) [] pos) (fun σ H Q => ta σ H fun vs H1 => sp (vs ++ dvs) H1 Q E0) := by
  refine ⟨fun pins s σ H Q I h => ?_⟩
  refine PySem.W.methodCall_KW (ld_glob I hg hm ?_ hdb) hc
  refine PySem.W.method_cls (I.tok _).kIn r.ga (ClX.getcval_ok (I.tok _) r k fun s' I' => ?_)
  show wpAny _ _ (callWith pos (Value.ref f) [] (backTo pos (starEach (e :: es) X.env)) []) _ _ _
  refine PySem.W.callWith_K (h₀ := X.base) I'.ok.mod.kin hkeep (thn (ha.run pos pins s' σ H _ I' h) fun us s1 ⟨vs, H1, I1, r1, q⟩ => ⟨I1.kIn, ?_⟩) he hpl
  have rv : Vals (vs ++ dvs) (us ++ ds) := r1.append hd
  have hl : (us ++ ds).length = ps.length := by rw [← rv.length]; exact F.len _ _ _ _ q
  have b := hb s1 us I1.kIn hl
  refine wpAny_call (codeAny_mono (F.run X.A X.stack s1 H1 ⟨us, []⟩ (us ++ ds) (vs ++ dvs) Q E0 hr I1.env0 b rv q) fun out s' hq => ?_)
  match out, hq with
  | .error e, hq => exact hx pins σ H1 s1 e s' I1 hq
  | .ok (.ret u), hq => exact I1.after hq
end
end TL


/-! The tree layer, exceptions: the __init__ of an own class, at the level of values. -/
namespace TL
open PySem PySem.Spec PyProof.Rows L2
/-- what a body knows of its context -/
structure Cv (CX : CXT) (P : Program) (w : World) (K : PySem.W.Frag) (mg : Str → Option Value) (base : Heap) (k : Nat) (N : List Str) (sc : Scope) (X : Cx) : Prop where
  hP : X.prog = P
  hw : X.w = w
  hK : X.K = K
  hmg : X.mg = mg
  hb : X.base = base
  hN : X.N = N
  hsc : X.env.scope = sc
  calm : X.calm = true
  room : Room k X.A
  nd : N.Nodup
  kind : sc.kind = .function
  fn : X.fn = fun _ => true
  cx : Calm0 CX
section
variable {cm : Bool} {CX : CXT} {P : Program} {w : World} {K : PySem.W.Frag} {mg : Str → Option Value} {base : Heap} {j : Nat} {N : List Str}
theorem fn_V {f : Addr} {name qual : Str} {params : Arguments} {body : List Stmt} {scope : Scope} {dV kV doc pm cdv cty oc : Value} {an od : Option Addr} {osl : Array (Option Value)} {ps : List Str} {sp : List V → Hp → VK → Prop}
    (lk : K.lookup f = some ⟨oc, od, .func (PySem.W.fnOf name qual params body scope dV kV doc pm an cdv cty), osl⟩) (hcd : PySem.W.codeIn K cdv qual = true) (S : FnScope N ps scope) (hcx : Calm0 CX) (len : ∀ vs H Q, sp vs H Q → vs.length = ps.length)
    (hbody : ∀ (X : Cx), Cv CX P w K mg base j N scope X → ∀ vs H Q, sp vs H Q → wpSs X body (L2.start N vs) H { nx := fun _ H' => Q .non H', rt := Q }) :
    FnOk P w K mg base CX (j + 1) f (PySem.W.fnOf name qual params body scope dV kV doc pm an cdv cty) ps (fun vs H Q _ => sp vs H Q) := by
  refine ⟨fun vs H Q _ h => len vs H Q h, fun A outer s H args us vs Q E hr e0 hb rv hsp => ?_⟩
  have hlen : vs.length = ps.length := len vs H Q hsp
  have kept : ∀ b o, base.get? b = some o → s.heap.get? b = some o := fun b o e => (e0.bs b o e).1
  have Kin : K.In s.heap := e0.mod.kin.keeps kept
  have nolim : s.heap.NoLimit := e0.mod.nolimit.keeps kept
  have kinds : ∀ y ∈ ps.zip us, scope.names.lookup y.1 = some .local ∨ (scope.names.lookup y.1 = some .cell ∧ ((cellsFrom (s.heap.objs.size + 1) scope.names []).lookup y.1).isSome = true) := by
    rintro ⟨n, v⟩ hy
    exact (S.par n (List.of_mem_zip hy).1).imp id fun z => ⟨z, PySem.W.cellsFrom_some _ _ _ (.inl z)⟩
  refine codeAny_call_function hr.depth (Kin _ _ lk) rfl S.co S.gen rfl (PySem.W.codeRec_of Kin hcd) (hb _ _ _ _ ?_)
  refine wpAny_newFunctionEnv_cells S.kind kinds fun env he s1 x => ?_
  subst he
  refine ⟨nolim.keeps x.toInCall.keep, codeAny_func ?_⟩
  have ct : Cv CX P w K mg base j N scope (cxOf CX P w K mg base N qual scope f cdv A outer s H E).nox :=
    ⟨rfl, rfl, rfl, rfl, rfl, rfl, rfl, rfl, hr.deeper _, S.nd, S.kind, rfl, hcx⟩
  have Iv : Inv (cxOf CX P w K mg base N qual scope f cdv A outer s H E) [] (L2.start N vs) H s1 := inv_start S hr.hd e0 hlen rv x
  have run := hbody _ ct vs H Q hsp
  refine wpAny_mono (run [] s1 (Iv.wish _)) (fun fl s' hs => ?_) fun _ _ z => z.elim
  have back : ∀ {σ' : L2.St} {H' : Hp} {v : V} {u : Value}, Inv (cxOf CX P w K mg base N qual scope f cdv A outer s H E).nox [] σ' H' s' → RelV v u → Q v H' → CE outer P w H s Q u s' := fun J rv q => ⟨_, _, J.os, J.bare, J.base, J.hok, rv, q⟩
  match fl, hs with
  | .ret u, ⟨v, σ', H', J, rv, q⟩ => exact back J rv q
  | .next, ⟨σ', H', J, q⟩ => exact back (v := V.non) (u := Value.none) J rfl q
  | .brk, ⟨_, _, _, q⟩ => exact q.elim
  | .cont, ⟨_, _, _, q⟩ => exact q.elim
/-- an exception that is made gets the fields f of its arguments -/
def spI (K : PySem.W.Frag) (fn : List Str) (n : Nat) (f : List V → List (Str × V)) : List V → Hp → VK → Prop := fun vs H Q => ∃ (a C : Addr) (as : List V), vs = .ref a :: as ∧ as.length = n ∧ OexC K C ∧ (∀ g ∈ fn, PySem.W.findIn K (.ref C) g = some none) ∧ H a = some (exo a C none) ∧
  ∀ d, H d = none → d ≠ a → Q .non (upd (upd H d (exd d (f as))) a (exo a C (some d)))
variable {X : Cx} {s y f : Str} {p1 p2 p3 p4 p5 p6 p7 p8 p9 p10 : Pos}
theorem Cv.gl {k : Nat} {sc : Scope} {x : Str} (ct : Cv CX P w K mg base k N sc X) (h : glOk sc x = true) : Gl X x := by
  show X.env.scope.names.lookup x = some .globalImplicit
  rw [ct.hsc]; exact (glOk_of h).1
theorem vinit {k : Nat} {sc : Scope} {pl : Sem Bool} (ct : Cv CX P w K mg base k N sc X) (n0 : nmOk N sc 0 s = true) (n1 : nmOk N sc 1 y = true) (g : glOk sc "ValueError" = true) (hm : mg "ValueError" = none)
    (vV : PySem.W.findCls K (.type "ValueError") (.type "type") "__init__" = some (.val (.builtin "ValueError.__init__"))) (hN : N = [s, y])
    (hc : eval (.Call (.Attribute (.Name "ValueError" p1) "__init__" p2) [.Name s p3, .Name y p4] [] p5) X.env = (do
      let ov ← eval (.Name "ValueError" p1) X.env
      standAt p2.atName
      let (f, first) ← holding [ov] (getMethod ov "__init__" pl)
      callWith p5 f first (backTo p5 (starEach [.Name s p3, .Name y p4] X.env)) (backToKw p5 (keywordEach [] X.env))) := by rfl)
    (hs1 : swapsWith (.Call (.Attribute (.Name "ValueError" p1) "__init__" p2) [.Name s p3, .Name y p4] [] p5) none p6.line X.env = pure false := by rfl)
    (hs2 : swapsWith (.Name y p9) (some (.Attribute (.Name s p7) f p8)) p10.line X.env = pure false := by rfl)
    {vs : List V} {H : Hp} {Q : VK} (h : spI K [f] 1 (fun as => [(f, as.getD 0 .non)]) vs H Q) :
    wpSs X [.Expr (.Call (.Attribute (.Name "ValueError" p1) "__init__" p2) [.Name s p3, .Name y p4] [] p5) p6, .Assign [.Attribute (.Name s p7) f p8] (.Name y p9) p10] (L2.start N vs) H { nx := fun _ H' => Q .non H', rt := Q } := by
  obtain ⟨a, C, as, rfl, hlen, T, hf, ha, q⟩ := h
  obtain ⟨v, rfl⟩ : ∃ v, as = [v] := by
    match as, hlen with
    | [v], _ => exact ⟨v, rfl⟩
  obtain ⟨a1, a2, a3, a4⟩ := nmOk_of n0
  obtain ⟨b1, b2, b3, b4⟩ := nmOk_of n1
  have V0 : ∀ p : Pos, PE X (.Name s p) _ := fun p => pe_var (pos := p) (by rw [ct.hN]; exact a1) (by rw [ct.hsc]; exact a2) a3 a4
  have V1 : ∀ p : Pos, PE X (.Name y p) _ := fun p => pe_var (pos := p) (by rw [ct.hN]; exact b1) (by rw [ct.hsc]; exact b2) b3 b4
  refine wp_pss (pss_cons (ps_expr (pe_veinit (ct.gl g) (by rw [ct.hmg]; exact hm) (by rw [ct.hK]; exact vV) (pa_cons (V0 p3) (pa_cons (V1 p4) pa_nil rfl) rfl) hc rfl rfl) hs1) (pss_cons (ps_ost (V0 p7) (V1 p9) hs2) pss_nil)) ?_
  subst hN
  have e0 : (L2.start [s, y] [V.ref a, v])[0]? = some (some (V.ref a)) := rfl
  have e1 : (L2.start [s, y] [V.ref a, v])[1]? = some (some v) := rfl
  refine ⟨_, e0, _, e1, a, C, [v], rfl, (by show 1 ≤ 1000; decide), by rw [ct.hK]; exact T, ha, ?_⟩
  refine ⟨_, e1, _, e0, a, C, rfl, by rw [ct.hK]; exact T, by rw [ct.hK]; exact hf f (by simp), .inl ⟨ha, fun d hd hda => ?_⟩⟩
  exact q d hd hda
theorem upd_twice {H : Hp} {a d : Addr} {o1 o2 x : HO} (h : d ≠ a) : upd (upd (upd H d o1) a x) d o2 = upd (upd H d o2) a x := by
  funext b
  by_cases hd : b = d
  · subst hd
    rw [upd_same, upd_ne h, upd_same]
  · rw [upd_ne hd]
    by_cases ha : b = a
    · subst ha; rw [upd_same, upd_same]
    · rw [upd_ne ha, upd_ne ha, upd_ne hd, upd_ne hd]
/-- B.__init__(self, e2); self.f = y -/
theorem vsub {k jb : Nat} {sc : Scope} {pl : Sem Bool} {x : Str} {B fB : Addr} {mc : Value} {fd : FuncData} {ps : List Str} {ds : List Value} {dvs : List V} {e2 : Expr} {t2 : TE} {w2 : V} {n : Nat} {fb : Str} {i : Nat}
    (ct : Cv CX P w K mg base k N sc X) (n0 : nmOk N sc 0 s = true) (n1 : nmOk N sc i y = true) (g : glOk sc x = true) (hm : mg x = some (.ref B)) (r : ClX.CRead K B mc) (kv : ClX.CVal K B mc "__init__" (.ref fB) (.ref fB)) (hkeep : PySem.W.keepIn K (.ref fB) = true)
    (F : FnOk P w K mg base CX jb fB fd ps (fun vs H Q _ => spI K [fb] 1 (fun as => [(fb, as.getD 0 .non)]) vs H Q)) (hj : jb ≤ k) (hb : Binds K fd ps []) {vs : List V} {H : Hp} {Q : VK} {av : V}
    (he2 : PE X e2 t2) (h2 : ∀ H Q, Q w2 H → t2 (L2.start N vs) H Q) (hy : (L2.start N vs)[i]? = some (some av)) (hs : ∀ a, vs.head? = some a → (L2.start N vs)[0]? = some (some a))
    (hc : eval (.Call (.Attribute (.Name x p1) "__init__" p2) [.Name s p3, e2] [] p5) X.env = (do
      let ov ← eval (.Name x p1) X.env
      standAt p2.atName
      let (f, first) ← holding [ov] (getMethod ov "__init__" pl)
      callWith p5 f first (backTo p5 (starEach [.Name s p3, e2] X.env)) (backToKw p5 (keywordEach [] X.env))) := by rfl)
    (hs0 : starEach [.Name s p3, e2] X.env = (false, eval (.Name s p3) X.env) :: starEach [e2] X.env := by rfl) (hs3 : starEach [e2] X.env = (false, eval e2 X.env) :: starEach [] X.env := by rfl) (hpl : (backTo p5 (starEach [e2] X.env)).any (·.1) = false := by rfl)
    (hs1 : swapsWith (.Call (.Attribute (.Name x p1) "__init__" p2) [.Name s p3, e2] [] p5) none p6.line X.env = pure false := by rfl)
    (hs2 : swapsWith (.Name y p9) (some (.Attribute (.Name s p7) f p8)) p10.line X.env = pure false := by rfl) (hdb : (x == ("__debug__" : Str)) = false := by decide) 
    (h : spI K [fb, f] n (fun _ => [(f, av), (fb, w2)]) vs H Q) :
    wpSs X [.Expr (.Call (.Attribute (.Name x p1) "__init__" p2) [.Name s p3, e2] [] p5) p6, .Assign [.Attribute (.Name s p7) f p8] (.Name y p9) p10] (L2.start N vs) H { nx := fun _ H' => Q .non H', rt := Q } := by
  obtain ⟨a, C, as, rfl, hlen, T, hf, ha, q⟩ := h
  obtain ⟨a1, a2, a3, a4⟩ := nmOk_of n0
  obtain ⟨b1, b2, b3, b4⟩ := nmOk_of n1
  have V0 : ∀ p : Pos, PE X (.Name s p) _ := fun p => pe_var (pos := p) (by rw [ct.hN]; exact a1) (by rw [ct.hsc]; exact a2) a3 a4
  have V1 : ∀ p : Pos, PE X (.Name y p) _ := fun p => pe_var (pos := p) (by rw [ct.hN]; exact b1) (by rw [ct.hsc]; exact b2) b3 b4
  have hx : Passes CX X E0 := fun pins σ H s e s' _ c => (ct.cx _ _ _ _ _ c).elim
  have F' : FnOk X.prog X.w X.K X.mg X.base CX jb fB fd ps (fun vs H Q _ => spI K [fb] 1 (fun as => [(fb, as.getD 0 .non)]) vs H Q) := by rw [ct.hP, ct.hw, ct.hK, ct.hmg, ct.hb]; exact F
  refine wp_pss (pss_cons (ps_expr (pe_cinit (ds := []) (dvs := []) (ct.gl g) (by rw [ct.hmg]; exact hm) (by rw [ct.hK]; exact r) (by rw [ct.hK]; exact kv) (by rw [ct.hK]; exact hkeep) F' (ct.room.mono hj) (by rw [ct.hK]; exact hb) .nil hx (pa_cons (V0 p3) (pa_cons he2 pa_nil hs3) hs0) hc hdb hs0 hpl) hs1) (pss_cons (ps_ost (V0 p7) (V1 p9) hs2) pss_nil)) ?_
  have e0 := hs _ rfl
  refine ⟨_, e0, h2 _ _ ?_⟩
  refine ⟨a, C, [w2], rfl, rfl, T, fun g hg => hf g (by simp only [List.mem_singleton] at hg; simp [hg]), ha, fun d hd hda => ?_⟩
  refine ⟨_, hy, _, e0, a, C, rfl, by rw [ct.hK]; exact T, by rw [ct.hK]; exact hf f (by simp), .inr ⟨d, [(fb, w2)], upd_same, ?_, (by show 1 ≤ 900; decide), ?_⟩⟩
  · rw [upd_ne hda, upd_same]; rfl
  · show Q V.non _
    have := q d hd hda
    rw [upd_twice hda]
    exact this
/-- B.__init__(self, e2); self.f = y; self.g = y' -/
theorem vsub2 {k jb : Nat} {sc : Scope} {pl : Sem Bool} {x : Str} {B fB : Addr} {mc : Value} {fd : FuncData} {ps : List Str} {ds : List Value} {dvs : List V} {e2 : Expr} {t2 : TE} {w2 : V} {n : Nat} {fb f2 y2 : Str} {i i2 : Nat} {q7 q8 q9 q10 : Pos}
    (ct : Cv CX P w K mg base k N sc X) (n0 : nmOk N sc 0 s = true) (n1 : nmOk N sc i y = true) (n2 : nmOk N sc i2 y2 = true) (g : glOk sc x = true) (hm : mg x = some (.ref B)) (r : ClX.CRead K B mc) (kv : ClX.CVal K B mc "__init__" (.ref fB) (.ref fB)) (hkeep : PySem.W.keepIn K (.ref fB) = true)
    (F : FnOk P w K mg base CX jb fB fd ps (fun vs H Q _ => spI K [fb] 1 (fun as => [(fb, as.getD 0 .non)]) vs H Q)) (hj : jb ≤ k) (hb : Binds K fd ps []) {vs : List V} {H : Hp} {Q : VK} {av av2 : V}
    (he2 : PE X e2 t2) (h2 : ∀ H Q, Q w2 H → t2 (L2.start N vs) H Q) (hy : (L2.start N vs)[i]? = some (some av)) (hy2 : (L2.start N vs)[i2]? = some (some av2)) (hs : ∀ a, vs.head? = some a → (L2.start N vs)[0]? = some (some a))
    (hc : eval (.Call (.Attribute (.Name x p1) "__init__" p2) [.Name s p3, e2] [] p5) X.env = (do
      let ov ← eval (.Name x p1) X.env
      standAt p2.atName
      let (f, first) ← holding [ov] (getMethod ov "__init__" pl)
      callWith p5 f first (backTo p5 (starEach [.Name s p3, e2] X.env)) (backToKw p5 (keywordEach [] X.env))) := by rfl)
    (hs0 : starEach [.Name s p3, e2] X.env = (false, eval (.Name s p3) X.env) :: starEach [e2] X.env := by rfl) (hs3 : starEach [e2] X.env = (false, eval e2 X.env) :: starEach [] X.env := by rfl) (hpl : (backTo p5 (starEach [e2] X.env)).any (·.1) = false := by rfl)
    (hs1 : swapsWith (.Call (.Attribute (.Name x p1) "__init__" p2) [.Name s p3, e2] [] p5) none p6.line X.env = pure false := by rfl)
    (hs2 : swapsWith (.Name y p9) (some (.Attribute (.Name s p7) f p8)) p10.line X.env = pure false := by rfl) (hs4 : swapsWith (.Name y2 q9) (some (.Attribute (.Name s q7) f2 q8)) q10.line X.env = pure false := by rfl) (hdb : (x == ("__debug__" : Str)) = false := by decide)
    (h : spI K [fb, f, f2] n (fun _ => [(f2, av2), (f, av), (fb, w2)]) vs H Q) :
    wpSs X [.Expr (.Call (.Attribute (.Name x p1) "__init__" p2) [.Name s p3, e2] [] p5) p6, .Assign [.Attribute (.Name s p7) f p8] (.Name y p9) p10, .Assign [.Attribute (.Name s q7) f2 q8] (.Name y2 q9) q10] (L2.start N vs) H { nx := fun _ H' => Q .non H', rt := Q } := by
  obtain ⟨a, C, as, rfl, hlen, T, hf, ha, q⟩ := h
  obtain ⟨a1, a2, a3, a4⟩ := nmOk_of n0
  obtain ⟨b1, b2, b3, b4⟩ := nmOk_of n1
  obtain ⟨c1, c2, c3, c4⟩ := nmOk_of n2
  have V0 : ∀ p : Pos, PE X (.Name s p) _ := fun p => pe_var (pos := p) (by rw [ct.hN]; exact a1) (by rw [ct.hsc]; exact a2) a3 a4
  have V1 : ∀ p : Pos, PE X (.Name y p) _ := fun p => pe_var (pos := p) (by rw [ct.hN]; exact b1) (by rw [ct.hsc]; exact b2) b3 b4
  have V2 : ∀ p : Pos, PE X (.Name y2 p) _ := fun p => pe_var (pos := p) (by rw [ct.hN]; exact c1) (by rw [ct.hsc]; exact c2) c3 c4
  have hx : Passes CX X E0 := fun pins σ H s e s' _ c => (ct.cx _ _ _ _ _ c).elim
  have F' : FnOk X.prog X.w X.K X.mg X.base CX jb fB fd ps (fun vs H Q _ => spI K [fb] 1 (fun as => [(fb, as.getD 0 .non)]) vs H Q) := by rw [ct.hP, ct.hw, ct.hK, ct.hmg, ct.hb]; exact F
  refine wp_pss (pss_cons (ps_expr (pe_cinit (ds := []) (dvs := []) (ct.gl g) (by rw [ct.hmg]; exact hm) (by rw [ct.hK]; exact r) (by rw [ct.hK]; exact kv) (by rw [ct.hK]; exact hkeep) F' (ct.room.mono hj) (by rw [ct.hK]; exact hb) .nil hx (pa_cons (V0 p3) (pa_cons he2 pa_nil hs3) hs0) hc hdb hs0 hpl) hs1) (pss_cons (ps_ost (V0 p7) (V1 p9) hs2) (pss_cons (ps_ost (V0 q7) (V2 q9) hs4) pss_nil))) ?_
  have e0 := hs _ rfl
  refine ⟨_, e0, h2 _ _ ?_⟩
  refine ⟨a, C, [w2], rfl, rfl, T, fun g hg => hf g (by simp only [List.mem_singleton] at hg; simp [hg]), ha, fun d hd hda => ?_⟩
  refine ⟨_, hy, _, e0, a, C, rfl, by rw [ct.hK]; exact T, by rw [ct.hK]; exact hf f (by simp), .inr ⟨d, [(fb, w2)], upd_same, ?_, (by show 1 ≤ 900; decide), ?_⟩⟩
  · rw [upd_ne hda, upd_same]; rfl
  · have had : a ≠ d := fun z => hda z.symm
    refine ⟨_, hy2, _, e0, a, C, rfl, by rw [ct.hK]; exact T, by rw [ct.hK]; exact hf f2 (by simp), .inr ⟨d, [(f, av), (fb, w2)], by rw [upd_ne had, upd_same], upd_same, (by show 2 ≤ 900; decide), ?_⟩⟩
    show Q V.non _
    have := q d hd hda
    rw [upd_twice hda, upd_twice hda]
    exact this
end
end TL


/-! The tree layer, exceptions: the making of one of an own class, where nothing is handled: its context is None. -/
namespace TL
open PySem PySem.Spec PyProof.Rows L2
section
variable {X : Cx} {e : Expr} {es : List Expr} {p pos : Pos} {ta : TA}
theorem pmk_oexN {CX : CXT} {x : Str} {C fI : Addr} {k : Nat} {fd : FuncData} {ps : List Str} {sp : Sp} {ds : List Value} {dvs : List V} (oc : OexC X.K C) (fI0 : PySem.W.findIn X.K (.ref C) "__init__" = some (some (.ref fI))) (tyI : PySem.W.typeIn X.K (.ref fI) = some (.type "function"))
    (FI : FnOk X.prog X.w X.K X.mg X.base CX k fI fd ps sp) (room : Room (k + 1) X.A) (bs0 : Binds X.K fd ps ds) (dv : Vals dvs ds) (pass : Passes CX X (fun _ _ _ => False)) (gl : Gl X x) (mgx : X.mg x = some (.ref C)) (hargs : PA X (e :: es) ta)
    (ndb : (x == ("__debug__" : Str)) = false := by decide) (st1 : starEach (e :: es) X.env = (false, eval e X.env) :: starEach es X.env := by rfl) (st2 : (backTo pos (starEach es X.env)).any (·.1) = false := by rfl) :
    L2N.PMk X (.Call (.Name x p) (e :: es) [] pos) (tMkO C sp dvs ta) := by
  intro pins s σ H Q Iv h
  obtain ⟨nm, qn, N, bl, mm, sn, sub, ab, col, dd, k0, k1, k2, k3, k5, cC, cm⟩ := oc.cls
  refine wpAny_Call_Name_kw (ld_glob Iv gl mgx ?_ ndb)
  refine PySem.W.callWith_K (h₀ := X.base) Iv.ok.mod.kin oc.kC (thn (hargs.run pos pins s σ H _ Iv h) fun us s1 ⟨vs, H1, I1, rv, small, wish⟩ => ⟨I1.kIn, ?_⟩) st1 st2
  show wpAny _ _ (call (.ref C) us) _ _ _
  obtain ⟨hp, g, dr, tk, os⟩ := s1
  have le1 : hp.objs.size ≤ hp.objs.size + 1 := Nat.le_succ _
  have fr1 : H1 (hp.objs.size + 1) = none := I1.hok.fresh le1
  have w1 := wish (hp.objs.size + 1) fr1
  have keep : ∀ b o, hp.get? b = some o → ((hp.push (PySem.W.kdv_tup us)).push (PySem.HandSPX.excO C hp.objs.size)).get? b = some o := fun b o z => Heap.get?_push_of_some _ (Heap.get?_push_of_some _ z)
  have at1 : ((hp.push (PySem.W.kdv_tup us)).push (PySem.HandSPX.excO C hp.objs.size)).get? (hp.objs.size + 1) = some (PySem.HandSPX.excO C hp.objs.size) := by heap_get
  have I2 : Inv X pins σ (upd H1 (hp.objs.size + 1) (exo (hp.objs.size + 1) C none)) ⟨(hp.push (PySem.W.kdv_tup us)).push (PySem.HandSPX.excO C hp.objs.size), g, dr, tk, os⟩ := I1.laid (t' := tk) (a := hp.objs.size + 1)
    (o := exo (hp.objs.size + 1) C none) (h' := (hp.push (PySem.W.kdv_tup us)).push (PySem.HandSPX.excO C hp.objs.size)) keep le1 (exo_ok at1)
  have rs : Vals (V.ref (hp.objs.size + 1) :: (vs ++ dvs)) (Value.ref (hp.objs.size + 1) :: (us ++ ds)) := .cons rfl (rv.append dv)
  have ln : (Value.ref (hp.objs.size + 1) :: us ++ ds).length = ps.length := by
    have z := rs.length
    rw [FI.len _ _ _ _ w1] at z
    exact z.symm
  have sz : us.length ≤ sizeLine := by
    rw [← Paired.length rv, sizeLine_eq]; omega
  refine wpAny_call (PySem.HandSPX.call_own F.excBase_ValueError (fun Y => PySem.HandSPX.refsVE_contains Y mm cm) (I1.kIn _ _ cC) (PySem.W.looks_findIn I1.kIn fI0) (fun self => PySem.W.bind_fn I1.kIn self tyI) sz
    (codeAny_mono (FI.run _ X.stack _ _ ⟨Value.ref (hp.objs.size + 1) :: us, []⟩ (Value.ref (hp.objs.size + 1) :: (us ++ ds)) _ _ (fun _ _ _ => False) (room.make C us []) (I2.env0.make C us []) (bs0 _ (Value.ref (hp.objs.size + 1) :: us) I2.kIn ln) rs w1) fun r s' q1 => ?_))
  match r, q1 with
  | .error er, q1 => exact pass pins σ _ _ er s' I2 q1
  | .ok (.ret u), ⟨v, H2, o2, b2, u2, k2', rv2, ev, d, fs, ea, ed, hd1, q2⟩ =>
    subst ev
    obtain ⟨h2, g2, d2, t2, os'⟩ := s'
    obtain ⟨t0, G, J, kG, ge, hoe, na⟩ := mk_end0 (d2 := d2) (t2 := t2) I1 le1 keep u2 k2' o2 b2 ea ed hd1
    refine ⟨rv2, hp.objs.size + 1, _, _, ⟨G, g2, d2, t2, os'⟩, _, .ref C, some d, rfl, J, kG, ge, hoe, ⟨rfl, rfl, fun vs hv => ?_⟩, rfl, rfl, na, rfl, b2, raises_own oc.exC oc.tyC, q2⟩
    cases hv; rfl
end
end TL


/-! The tree layer, exceptions: raise, defs that raise. -/
namespace TL
open PySem PySem.Spec PyProof.Rows L2
/-- what a try asks of its context beside Ct -/
structure Cf (X : Cx) : Prop where
  stk : X.stack = X.env :: X.outer
  frm : X.env.frame = some X.env.locals
theorem EnvR.gone {K : PySem.W.Frag} {W : Wd} {H : Hp} {ρ : TEnv} {σ : L2.St} {i : Nat} (e : EnvR K W H ρ σ) : EnvR K W H (ρ.set i none) (σ.set i none) := by
  refine ⟨by rw [List.length_set, List.length_set]; exact e.1, fun j u h => ?_⟩
  by_cases hj : i = j
  · subst hj
    have hi : i < ρ.length := by
      have := (List.getElem?_eq_some_iff.mp h).1
      rwa [List.length_set] at this
    rw [List.getElem?_set_self hi] at h
    cases h
  · rw [List.getElem?_set_ne hj] at h ⊢
    exact e.2 j u h
/-- an expression that makes an exception of the class C with the fields fs -/
structure MkY (X : Cx) (e : Expr) (ρ : TEnv) (L : Store) (C : Addr) (fs : List (Str × T)) (L1 : Store) : Prop where
  go : ∀ (W : Wd) (H : Hp) (σ : L2.St) (Qx : XK), SR X.K W H L → EnvR X.K W H ρ σ → (∀ W' H' d ws, Step W L H W' L1 H' → SR X.K W' H' L1 → H d = none → H' d = some (.xd ws) → FldR X.K W' H' fs ws → Qx (.ref C) (some d) H') → ∃ t : L2.St → Hp → XK → Prop, L2N.PMk X e t ∧ t σ H Qx
section
variable {cm : Bool} {CX : CXT} {P : Program} {w : World} {K : PySem.W.Frag} {mg : Str → Option Value} {base : Heap} {kk : Nat} {N : List Str} {sc : Scope} {fs : Str → Bool} {X : Cx}
variable {e a b c tg iter : Expr} {es : List Expr} {ρ ρ' ρ1 : TEnv} {L L1 Lb Lc : Store} {t u : T} {ts us : List T} {pos p : Pos} {i j : Int} {st : Stmt} {ss rest : List Stmt} {k k' : TK} {xr xr' : XR}
theorem wy_raise {C : Addr} {fl : List (Str × T)} (ct : Cq true CX P w K mg base kk N sc fs X) (hm : MkY X e ρ L C fl L1) (h : xr C fl ρ L1) : WY X (.Raise (some e) none pos :: rest) ρ L k xr := by
  refine ⟨fun W H σ D Wx s en d tk x => ?_⟩
  obtain ⟨t, hp, ht⟩ := hm.go W H σ (fun cls d H' => Wx cls d σ H') s en fun W' H' d ws st s' hn hd hw => x.go C fl ρ L1 W' H' σ d ws st s' (en.step st s) hn hd hw h
  exact wp_pss (pss_cons (L2N.ps_raise (ct.calm rfl) tk hp) pss_wp) ht
theorem made_heap {H1 : Hp} {a d : Addr} {C : Addr} {F : List (Str × V)} (ha : H1 a = none) (hda : d ≠ a) : upd (del (upd (upd (upd H1 a (exo a C none)) d (exd d F)) a (exo a C (some d))) a) d (.xd F) = upd H1 d (.xd F) := by
  funext b
  by_cases hd : b = d
  · subst hd; rw [upd_same, upd_same]
  · rw [upd_ne hd, upd_ne hd]
    by_cases hb : b = a
    · subst hb; rw [del_same, ha]
    · rw [del_ne hb, upd_ne hb, upd_ne hd, upd_ne hb]
/-- C(e, ..), C's __init__ told by spI -/
theorem mk_oexY {x : Str} {C fI : Addr} {jI : Nat} {fd : FuncData} {ps : List Str} {ds : List Value} {dvs : List V} {fn : List Str} {n : Nat} {f : List V → List (Str × V)} {fl : List (Str × T)} (ct : Cq true CX P w K mg base kk N sc fs X) (hg : glOk sc x = true) (hm : mg x = some (.ref C))
    (T0 : OexC K C) (iC : PySem.W.findIn K (.ref C) "__init__" = some (some (.ref fI))) (tI : PySem.W.typeIn K (.ref fI) = some (.type "function")) (hfn : ∀ g ∈ fn, PySem.W.findIn K (.ref C) g = some none)
    (F : FnOk P w K mg base CX jI fI fd ps (fun vs H Q _ => spI K fn n f vs H Q)) (hj : jI + 1 ≤ kk) (hb : Binds K fd ps ds) (hd : Vals dvs ds) (ha : EvA X (e :: es) ρ L ts L1) (hn : ts.length + dvs.length = n) (hz : ts.length ≤ 1000)
    (hfl : ∀ W H vs, RpL K W H ts vs → FldR K W H fl (f (vs ++ dvs)))
    (hdb : (x == ("__debug__" : Str)) = false := by decide) (he : starEach (e :: es) X.env = (false, eval e X.env) :: starEach es X.env := by rfl) (hpl : (backTo pos (starEach es X.env)).any (·.1) = false := by rfl) :
    MkY X (.Call (.Name x p) (e :: es) [] pos) ρ L C fl L1 := by
  refine ⟨fun W H σ Qx s en q => ?_⟩
  have hx : Passes CX X (fun _ _ _ => False) := fun pins σ H s e s' _ c => (ct.cx _ _ _ _ _ c).elim
  have F' : FnOk X.prog X.w X.K X.mg X.base CX jI fI fd ps (fun vs H Q _ => spI K fn n f vs H Q) := by rw [ct.hP, ct.hw, ct.hK, ct.hmg, ct.hb]; exact F
  refine ⟨_, pmk_oexN (C := C) (fI := fI) (by rw [ct.hK]; exact T0) (by rw [ct.hK]; exact iC) (by rw [ct.hK]; exact tI) F' ((ct.room rfl).mono hj) (by rw [ct.hK]; exact hb) hd hx (ct.gl hg) (by rw [ct.hmg]; exact hm) pa_wp hdb he hpl, ?_⟩
  refine ha W H σ _ s en fun xs W1 H1 st1 s1 r1 => ?_
  refine ⟨by rw [← r1.length]; exact hz, fun a hna => ?_⟩
  refine ⟨a, C, xs ++ dvs, rfl, by rw [List.length_append, ← r1.length]; exact hn, T0, hfn, upd_same, fun d hd0 hda => ?_⟩
  have hd1 : H1 d = none := by rw [upd_ne hda] at hd0; exact hd0
  refine ⟨rfl, d, f (xs ++ dvs), upd_same, by rw [upd_ne hda, upd_same], hd1, ?_⟩
  rw [made_heap hna hda]
  have st2 : Step W1 L1 H1 W1 L1 (upd H1 d (.xd (f (xs ++ dvs)))) := .newp hd1
  have r2 := r1.step st2 s1
  rw [ct.hK] at r2
  refine q W1 _ d _ (st1.trans st2) (s1.new hd1) (none_of_dom st1.dom hd1) upd_same ?_
  rw [ct.hK]
  exact hfl _ _ _ r2
/-! defs that raise -/
/-- arguments, store; class, fields, store behind -/
abbrev RelX := List T → Store → Addr → List (Str × T) → Store → Prop
def spX (K : PySem.W.Frag) (Rx : RelX) (vs : List V) (H : Hp) (E : XK) : Prop := ∃ ts L C fl L' W, SR K W H L ∧ RpL K W H ts vs ∧ Rx ts L C fl L' ∧ ∀ W' H' d ws, Step W L H W' L' H' → SR K W' H' L' → H d = none → H' d = some (.xd ws) → FldR K W' H' fl ws → E (.ref C) (some d) H'
structure FnX (P : Program) (w : World) (K : PySem.W.Frag) (mg : Str → Option Value) (base : Heap) (k : Nat) (f : Addr) (fd : FuncData) (ps : List Str) (Rx : RelX) : Prop where
  len : ∀ ts L C fl L', Rx ts L C fl L' → ts.length = ps.length
  go : ∀ (A : Around) (outer : List Env) (s : Shared) (H : Hp) (args : Args) (us : List Value) (vs : List V) (E : XK), Room k A → A.guards = some [] → Env0 P w K mg base A outer s H → BindsTo s fd args (ps.zip us) → Vals vs us →
    spX K Rx vs H E → codeAny (model P w) A (.call (.ref f) args) (CR (L2N.CX P w) outer P w H s (fun _ _ => False) E) s
/-- behind a raise: the store its catcher sees -/
def xrK (L0 : Store) (C : Addr) (fl : List (Str × T)) (L' : Store) : XR := fun C1 fl1 _ L1 => C1 = C ∧ fl1 = fl ∧ ∀ n t, L' n = some t → L1 n = some t
def noK : TK := { nx := fun _ _ => False }
theorem fn_X {f : Addr} {name qual : Str} {params : Arguments} {body : List Stmt} {scope : Scope} {dV kV doc pm cdv cty oc : Value} {an od : Option Addr} {osl : Array (Option Value)} {ps : List Str} {Rx : RelX} {j : Nat}
    (lk : K.lookup f = some ⟨oc, od, .func (PySem.W.fnOf name qual params body scope dV kV doc pm an cdv cty), osl⟩) (hcd : PySem.W.codeIn K cdv qual = true) (S : FnScope N ps scope) (hcx : Calm0 (L2N.CX P w)) (len : ∀ ts L C fl L', Rx ts L C fl L' → ts.length = ps.length)
    (hbody : ∀ (X : Cx), Ct (L2N.CX P w) P w K mg base j N scope (fun _ => true) X → Cf X → PassesOwn (model X.prog X.w) X.A X.env X.xe → ∀ ts L C fl L', Rx ts L C fl L' → WY X body (startT N ts) L noK (xrK L C fl L')) :
    FnX P w K mg base (j + 1) f (PySem.W.fnOf name qual params body scope dV kV doc pm an cdv cty) ps Rx := by
  refine ⟨len, fun A outer s H args us vs E hr hg e0 hb rv hsp => ?_⟩
  obtain ⟨ts, L, C, fl, L', W, s0, rr, hR, q⟩ := hsp
  have hlen : vs.length = ps.length := rr.length.symm.trans (len ts L C fl L' hR)
  have kept : ∀ b o, base.get? b = some o → s.heap.get? b = some o := fun b o e => (e0.bs b o e).1
  have Kin : K.In s.heap := e0.mod.kin.keeps kept
  have nolim : s.heap.NoLimit := e0.mod.nolimit.keeps kept
  have kinds : ∀ y ∈ ps.zip us, scope.names.lookup y.1 = some .local ∨ (scope.names.lookup y.1 = some .cell ∧ ((cellsFrom (s.heap.objs.size + 1) scope.names []).lookup y.1).isSome = true) := by
    rintro ⟨n, v⟩ hy
    exact (S.par n (List.of_mem_zip hy).1).imp id fun z => ⟨z, PySem.W.cellsFrom_some _ _ _ (.inl z)⟩
  refine codeAny_call_function hr.depth (Kin _ _ lk) rfl S.co S.gen rfl (PySem.W.codeRec_of Kin hcd) (hb _ _ _ _ ?_)
  refine wpAny_newFunctionEnv_cells S.kind kinds fun env he s1 x => ?_
  subst he
  refine ⟨nolim.keeps x.toInCall.keep, codeAny_func ?_⟩
  have ct : Ct (L2N.CX P w) P w K mg base j N scope (fun _ => true) (cxOf (L2N.CX P w) P w K mg base N qual scope f cdv A outer s H E) :=
    ⟨rfl, rfl, rfl, rfl, rfl, rfl, rfl, fun _ => rfl, fun _ => hr.deeper _, L2H.roomH_of (hr.deeper _), hg, S.nd, S.kind, rfl, hcx⟩
  have Iv : Inv (cxOf (L2N.CX P w) P w K mg base N qual scope f cdv A outer s H E) [] (L2.start N vs) H s1 := inv_start S hr.hd e0 hlen rv x
  have tk : L2N.Takes (cxOf (L2N.CX P w) P w K mg base N qual scope f cdv A outer s H E) (fun cls d _ H => E cls d H) := L2N.takes_of rfl rfl rfl rfl
  have po : PassesOwn (model P w) (cxOf (L2N.CX P w) P w K mg base N qual scope f cdv A outer s H E).A (cxOf (L2N.CX P w) P w K mg base N qual scope f cdv A outer s H E).env (cxOf (L2N.CX P w) P w K mg base N qual scope f cdv A outer s H E).xe := passes_of (X := cxOf (L2N.CX P w) P w K mg base N qual scope f cdv A outer s H E) rfl
  have run := (hbody _ ct ⟨rfl, rfl⟩ po ts L C fl L' hR).go W H (L2.start N vs) { nx := fun _ _ => False, rt := fun _ _ => False } _ s0 (startT_r rr)
    ⟨fun _ _ _ _ _ _ _ _ z => z.elim, fun _ _ _ _ _ _ _ _ z => z.elim, fun _ _ _ _ _ _ _ _ z => z.elim, fun _ _ _ _ _ _ _ _ z => z.elim⟩ tk
    ⟨fun C1 fl1 _ L1 W1 H1 σ1 d ws st1 s1 _ hn hd hw hx => by
      obtain ⟨rfl, rfl, hl⟩ := hx
      exact q W1 H1 d ws (st1.less hl) (s1.less hl) hn hd hw⟩
  refine wpAny_mono (run [] s1 Iv) (fun fl s' hs => ?_) fun _ _ z => z
  match fl, hs with
  | .ret u, ⟨v, σ', H', J, rv, q⟩ => exact q.elim
  | .next, ⟨σ', H', J, q⟩ => exact q.elim
  | .brk, ⟨_, _, _, q⟩ => exact q.elim
  | .cont, ⟨_, _, _, q⟩ => exact q.elim
end
end TL


/-! The tree layer, exceptions: calls of defs that raise. -/
namespace TL
open PySem PySem.Spec PyProof.Rows L2
section
variable {cm : Bool} {P : Program} {w : World} {K : PySem.W.Frag} {mg : Str → Option Value} {base : Heap} {k : Nat} {N : List Str} {sc : Scope} {fs : Str → Bool} {X : Cx}
variable {e a b : Expr} {es : List Expr} {ρ : TEnv} {L L1 Lb : Store} {t u : T} {ts us : List T} {pos p : Pos} {rest : List Stmt} {kk : TK} {xr : XR} {x : Str}
theorem ey_call {f : Addr} {fd : FuncData} {ps : List Str} {Rx : RelX} {j : Nat} {C : Addr} {fl : List (Str × T)} {ds : List Value} {dvs : List V} (ct : Ct (L2N.CX P w) P w K mg base k N sc fs X) (F : FnX P w K mg base j f fd ps Rx) (hj : j ≤ k) (hm : mg x = some (.ref f)) (hk : PySem.W.keepIn K (.ref f) = true)
    (hb : Binds K fd ps ds) (hd : Vals dvs ds) (hg : glOk sc x = true) (ha : EvA X (e :: es) ρ L ts L1) (h : Rx (ts ++ dvs.map T.v) L1 C fl Lb) (hxr : xr C fl ρ Lb) (he : starEach (e :: es) X.env = (false, eval e X.env) :: starEach es X.env := by rfl) (hpl : (backTo pos (starEach es X.env)).any (·.1) = false := by rfl) : EvY X (.Call (.Name x p) (e :: es) [] pos) ρ L xr := by
  have gl := ct.gl hg
  have hr := (ct.room rfl).mono hj
  have gd := ct.gd
  obtain ⟨rfl, rfl, rfl, rfl, rfl, _, _, _, _, _, _, _, _, _⟩ := ct
  refine ⟨fun W H σ Q Wx s en tk y pins st Iv => ?_⟩
  refine wpAny_Call_Name_kw (ld_glob Iv gl hm ?_ (glOk_of hg).2.1)
  refine PySem.W.callWith_K (h₀ := X.base) Iv.ok.mod.kin hk ?_ he hpl
  refine thn (ha W H σ (fun xs H1 => spX X.K Rx (xs ++ dvs) H1 (WE Wx σ)) s en (fun xs W1 H1 st1 s1 r1 => ?_) pos pins st Iv) fun us s1 ⟨vs, H1, I1, rv, q1⟩ => ⟨I1.kIn, ?_⟩
  · exact ⟨_, L1, C, fl, Lb, W1, s1, r1.append (rp_atoms dvs), h, fun W2 H2 d ws st2 s2 hn hd hw => y.go C fl ρ Lb W2 H2 σ d ws (st1.trans st2) s2 (en.step (st1.trans st2) s) (none_of_dom st1.dom hn) hd hw hxr⟩
  · have rr : Vals (vs ++ dvs) (us ++ ds) := rv.append hd
    have hl : (us ++ ds).length = ps.length := by
      rw [← rr.length]
      obtain ⟨ts', L', C', fl', L'', W', _, r1, hR, _⟩ := q1
      rw [← r1.length]
      exact F.len _ _ _ _ _ hR
    refine wpAny_call (codeAny_mono (F.go X.A X.stack s1 H1 ⟨us, []⟩ (us ++ ds) (vs ++ dvs) (WE Wx σ) hr gd I1.env0 (hb s1 us I1.kIn hl) rr q1) fun out s' q => ?_)
    match out, q with
    | .error e, q => exact L2N.passAt tk σ pins H1 s1 e s' I1 q
    | .ok (.ret u), q =>
      obtain ⟨v, H', _, _, _, _, _, q2⟩ := q
      exact q2.elim
/-- a def of the module that raises -/
structure DefX (P : Program) (w : World) (K : PySem.W.Frag) (mg : Str → Option Value) (base : Heap) (j : Nat) (x : Str) (ps : List Str) (Rx : RelX) : Prop where
  ex : ∃ f fd, FnX P w K mg base j f fd ps Rx ∧ mg x = some (.ref f) ∧ PySem.W.keepIn K (.ref f) = true ∧ Binds K fd ps []
theorem ey {ps : List Str} {Rx : RelX} {j : Nat} {C : Addr} {fl : List (Str × T)} (ct : Ct (L2N.CX P w) P w K mg base k N sc fs X) (D : DefX P w K mg base j x ps Rx) (ha : EvA X (e :: es) ρ L ts L1) (h : Rx ts L1 C fl Lb) (hxr : xr C fl ρ Lb) (hj : j ≤ k := by decide) (hg : glOk sc x = true := by decide +kernel)
    (he : starEach (e :: es) X.env = (false, eval e X.env) :: starEach es X.env := by first | with_reducible exact se1 | with_reducible exact se2 | with_reducible exact se3 | with_reducible exact se4 | with_reducible exact se5 | with_reducible exact se6 | with_reducible exact se7 | with_reducible exact se8 | with_reducible exact se9 | rfl) (hpl : (backTo pos (starEach es X.env)).any (·.1) = false := by rfl) : EvY X (.Call (.Name x p) (e :: es) [] pos) ρ L xr := by
  obtain ⟨f, fd, F, hm, hk, hb⟩ := D.ex
  exact ey_call (ds := []) (dvs := []) ct F hj hm hk hb .nil hg ha (by rw [List.map_nil, List.append_nil]; exact h) hxr he hpl
theorem calmX (P : Program) (w : World) : Calm0 (L2N.CX P w) := fun st H s e s' h => by
  obtain ⟨_, _, _, _, _, _, _, _, _, _, _, _, q⟩ := h
  exact q
theorem Fd.defX {st : Stmt} {ps : List Str} {j : Nat} {Rx : RelX} (F : Fd K mg x st []) (S : FnScope N ps (defScope st)) (hb : Bd0 x st ps) (len : ∀ ts L C fl L', Rx ts L C fl L' → ts.length = ps.length)
    (hbody : ∀ (X : Cx), Ct (L2N.CX P w) P w K mg base j N (defScope st) (fun _ => true) X → Cf X → PassesOwn (model X.prog X.w) X.A X.env X.xe → ∀ ts L C fl L', Rx ts L C fl L' → WY X (defBody st) (startT N ts) L noK (xrK L C fl L')) : DefX P w K mg base (j + 1) x ps Rx := by
  obtain ⟨f, fd, F, hm⟩ := F.ex
  refine ⟨f, fd, ?_, hm, F.kp, F.bindsN hb⟩
  obtain ⟨oc, od, dV, kV, doc, pm, an, cdv, cty, osl, rfl, lk, hcd, _, _⟩ := F.ex
  exact fn_X lk hcd S (calmX P w) len hbody
end
end TL


/-! The tree layer, exceptions: isinstance of a caught one that has fields. -/
namespace TL
open PySem PySem.Spec PyProof.Rows L2
/-- isinstance(e, c), e the exception that the suite holds, its fields at dd -/
def rIsX (K : PySem.W.Frag) (D a dd : Addr) : List V → Hp → VK → Prop := fun xs H Q => ∃ (c : V) (cv : Value) (b : Bool) (fs : List (Str × V)), xs = [.ref a, c] ∧ (∀ u, RelV c u → u = cv) ∧ PySem.W.kitOne K (.ref D) cv = some b ∧ H dd = some (.xd fs) ∧ Q (.bl b) H
theorem call_isX {X : Cx} {a D dd : Addr} {oe : Obj} (C : ExcC X.K D) (hz : Zc (.ref D) (some dd) oe) (hf : ∃ vs, oe.data = .fields vs) (hp : (a, oe) ∈ X.pn) : CallR X (.builtin "isinstance") (rIsX X.K D a dd) := by
  intro pins s σ H xs us Q I r h
  obtain ⟨c, cv, b, fs, rfl, hcv, e, hd, q⟩ := h
  cases r with
  | cons rx rr =>
    cases rr with
    | cons rt rr =>
      cases rr
      cases rx
      have ec := hcv _ rt
      subst ec
      obtain ⟨hget, _⟩ := I.pin (a, oe) (List.mem_append.mpr (.inl hp))
      obtain ⟨vs, hv⟩ := hf
      have hx : ObjOk X.prog X.w H s.heap dd (.xd fs) := I.hok dd _ hd
      obtain ⟨mA, hns, hr⟩ := hx
      obtain ⟨od, ho, hl⟩ := lookIn_ns hns
      have J : PySem.W.InstAt s.heap a oe D (some od) := ⟨hget, hz.1, by unfold PySem.W.notCls; rw [hv] <;> rfl, by rw [hz.2]; exact ho⟩
      have hcl : (PySem.W.clsIn X.K D).isSome = true := by
        obtain ⟨cd, hc, _⟩ := PySem.W.any_some C.hd
        rw [hc]; rfl
      exact PySem.W.kia_one (PySem.W.kitx_exc hcl C.hg C.hk C.hs C.ha C.hn C.ht C.hm) I.kIn J e (fun z => nomatch z) fun tk => ⟨.bl b, H, I.kept (t' := tk) fun _ _ z => z, rfl, q⟩
end TL


/-! The tree layer, exceptions: what a try asks of its context. -/
namespace TL
open PySem PySem.Spec PyProof.Rows L2
section
variable {cm : Bool} {CX : CXT} {P : Program} {w : World} {K : PySem.W.Frag} {mg : Str → Option Value} {base : Heap} {kk : Nat} {N : List Str} {sc : Scope} {fs : Str → Bool} {X : Cx}
variable {ρ : TEnv} {L : Store} {pos pos' np : Pos} {st b₀ : Stmt} {body suite rest : List Stmt} {k : TK} {xr : XR}
theorem Cq.tr {pn : List (Addr × Obj)} {xe : Value → Shared → Prop} (ct : Cq cm CX P w K mg base kk N sc fs X) : Cq cm CX P w K mg base kk N sc fs (X.tr pn xe) :=
  ⟨ct.hP, ct.hw, ct.hK, ct.hmg, ct.hb, ct.hN, ct.hsc, ct.calm, ct.room, ct.roomH, ct.gd, ct.nd, ct.kind, ct.fn, ct.cx⟩
theorem Cf.tr {pn : List (Addr × Obj)} {xe : Value → Shared → Prop} (cf : Cf X) : Cf (X.tr pn xe) := ⟨cf.stk, cf.frm⟩
end
end TL


/-! The tree layer, exceptions: a def that holds a try. -/
namespace TL
open PySem PySem.Spec PyProof.Rows L2
section
variable {cm : Bool} {CX : CXT} {P : Program} {w : World} {K : PySem.W.Frag} {mg : Str → Option Value} {base : Heap} {N : List Str} {L L1 : Store} {x : Str}
theorem fn_TC {f : Addr} {name qual : Str} {params : Arguments} {body : List Stmt} {scope : Scope} {dV kV doc pm cdv cty oc : Value} {an od : Option Addr} {osl : Array (Option Value)} {ps : List Str} {Rl : Rel} {j : Nat}
    (lk : K.lookup f = some ⟨oc, od, .func (PySem.W.fnOf name qual params body scope dV kV doc pm an cdv cty), osl⟩) (hcd : PySem.W.codeIn K cdv qual = true) (S : FnScope N ps scope) (hcx : ∀ (st : List Env) (H : Hp) (s : Shared) (e : Value) (s' : Shared), CX st H s E0 e s' → False) (len : ∀ ts L r L', Rl ts L r L' → ts.length = ps.length)
    (hbody : ∀ (X : Cx), Ct CX P w K mg base j N scope (fun _ => true) X → Cf X → PassesOwn (model X.prog X.w) X.A X.env X.xe → ∀ ts L r L', Rl ts L r L' → WS X body (startT N ts) L (fnK L r L')) :
    FnT P w K mg base CX (j + 1) f (PySem.W.fnOf name qual params body scope dV kV doc pm an cdv cty) ps Rl := by
  refine ⟨len, fun A outer s H args us vs Q hr hg e0 hb rv hsp => ?_⟩
  obtain ⟨ts, L, r, L', W, s0, rr, hR, q⟩ := hsp
  have hlen : vs.length = ps.length := rr.length.symm.trans (len ts L r L' hR)
  have kept : ∀ b o, base.get? b = some o → s.heap.get? b = some o := fun b o e => (e0.bs b o e).1
  have Kin : K.In s.heap := e0.mod.kin.keeps kept
  have nolim : s.heap.NoLimit := e0.mod.nolimit.keeps kept
  have kinds : ∀ y ∈ ps.zip us, scope.names.lookup y.1 = some .local ∨ (scope.names.lookup y.1 = some .cell ∧ ((cellsFrom (s.heap.objs.size + 1) scope.names []).lookup y.1).isSome = true) := by
    rintro ⟨n, v⟩ hy
    exact (S.par n (List.of_mem_zip hy).1).imp id fun z => ⟨z, PySem.W.cellsFrom_some _ _ _ (.inl z)⟩
  refine codeAny_call_function hr.depth (Kin _ _ lk) rfl S.co S.gen rfl (PySem.W.codeRec_of Kin hcd) (hb _ _ _ _ ?_)
  refine wpAny_newFunctionEnv_cells S.kind kinds fun env he s1 x => ?_
  subst he
  refine ⟨nolim.keeps x.toInCall.keep, codeAny_func ?_⟩
  have ct : Ct CX P w K mg base j N scope (fun _ => true) (cxOf CX P w K mg base N qual scope f cdv A outer s H E0).nox :=
    ⟨rfl, rfl, rfl, rfl, rfl, rfl, rfl, fun _ => rfl, fun _ => hr.deeper _, L2H.roomH_of (hr.deeper _), hg, S.nd, S.kind, rfl, hcx⟩
  have Iv : Inv (cxOf CX P w K mg base N qual scope f cdv A outer s H E0) [] (L2.start N vs) H s1 := inv_start S hr.hd e0 hlen rv x
  have run := hbody _ ct ⟨rfl, rfl⟩ PassesOwn.never ts L r L' hR W H (L2.start N vs) { nx := fun _ H' => Q .non H', rt := Q } s0 (startT_r rr)
    ⟨fun ρ' L1 W1 H1 σ' st1 s1 en1 ex => exit_ok (r1 := .v N0) (y := V.non) q st1 s1 (Rp.v V.non) ex, fun r1 L1 W1 H1 y st1 s1 r2 ex => exit_ok q st1 s1 r2 ex, fun _ _ _ _ _ _ _ _ z => z.elim, fun _ _ _ _ _ _ _ _ z => z.elim⟩
  refine wpAny_mono (run [] s1 (Iv.wish _)) (fun fl s' hs => ?_) fun _ _ z => z.elim
  have back : ∀ {σ' : L2.St} {H' : Hp} {v : V} {u : Value}, Inv (cxOf CX P w K mg base N qual scope f cdv A outer s H E0).nox [] σ' H' s' → RelV v u → Q v H' → CE outer P w H s Q u s' := fun J rv q => ⟨_, _, J.os, J.bare, J.base, J.hok, rv, q⟩
  match fl, hs with
  | .ret u, ⟨v, σ', H', J, rv, q⟩ => exact back J rv q
  | .next, ⟨σ', H', J, q⟩ => exact back (v := V.non) (u := Value.none) J rfl q
  | .brk, ⟨_, _, _, q⟩ => exact q.elim
  | .cont, ⟨_, _, _, q⟩ => exact q.elim

theorem Fd.defC {st : Stmt} {ps : List Str} {j : Nat} {Rl : Rel} (F : Fd K mg x st []) (S : FnScope N ps (defScope st)) (hcx : Calm0 CX) (hb : Bd0 x st ps) (len : LenR Rl ps.length)
    (hbody : ∀ (X : Cx), Ct CX P w K mg base j N (defScope st) (fun _ => true) X → Cf X → PassesOwn (model X.prog X.w) X.A X.env X.xe → ∀ ts L r L', Rl ts L r L' → WS X (defBody st) (startT N ts) L (fnK L r L')) : DefT CX P w K mg base (j + 1) x ps Rl := by
  obtain ⟨f, fd, F, hm⟩ := F.ex
  refine ⟨f, fd, ?_, hm, F.kp, F.bindsN hb⟩
  obtain ⟨oc, od, dV, kV, doc, pm, an, cdv, cty, osl, rfl, lk, hcd, _, _⟩ := F.ex
  exact fn_TC lk hcd S hcx len hbody
end
end TL


/-! The tree layer, exceptions: what a head asks of the own classes. -/
namespace TL
open PySem PySem.Spec PyProof.Rows L2
def oexB (K : PySem.W.Frag) (C : Addr) : Bool := (match K.lookup C with
  | some ⟨.type "type", _, .cls cd, sl⟩ => (match cd.mro, sl.toList with
    | .ref C' :: bm, [_, _, _, _, some (.builtin n), _] => C' == C && n == "ValueError.__new__" && !cd.hasDel && cd.hasDict && PySem.HandSPX.refsVE bm
    | _, _ => false)
  | _ => false) && (decide (PySem.W.findIn K (.ref C) "__setattr__" = some (some (.builtin "object.__setattr__"))) && (decide (PySem.W.subIn K (.ref C) (.type "BaseException") = some true) && (decide (PySem.W.typeIn K (.ref C) = some (.type "type")) && PySem.W.keepIn K (.ref C))))
theorem oexB_ok {K : PySem.W.Frag} {C : Addr} (h : oexB K C = true) : OexC K C := by
  unfold oexB at h
  rw [Bool.and_eq_true, Bool.and_eq_true, Bool.and_eq_true, Bool.and_eq_true] at h
  obtain ⟨q, h1, h2, h3, h4⟩ := h
  refine ⟨?_, of_decide_eq_true h1, of_decide_eq_true h2, of_decide_eq_true h3, h4⟩
  split at q
  · rename_i dd cd sl ho
    split at q
    · rename_i C' bm k0 k1 k2 k3 n k5 hm hs
      simp only [Bool.and_eq_true, beq_iff_eq, Bool.not_eq_true'] at q
      obtain ⟨⟨⟨⟨rfl, rfl⟩, hdel⟩, hdct⟩, hr⟩ := q
      obtain ⟨nm, bs, mro, ns, qn, hd, sn, sub, ab, col, del⟩ := cd
      dsimp only at hm hdel hdct
      subst hm hdel hdct
      have hsl : sl = #[k0, k1, k2, k3, some (.builtin "ValueError.__new__"), k5] := by
        obtain ⟨l⟩ := sl
        simp only at hs
        rw [hs]
      subst hsl
      exact ⟨nm, qn, ns, bs, bm, sn, sub, ab, col, dd, k0, k1, k2, k3, k5, ho, hr⟩
    · cases q
  · cases q
def excB (K : PySem.W.Frag) (D : Addr) : Bool := decide (PySem.W.findIn K (.ref D) "__getattribute__" = some (some (.builtin "BaseException.__getattribute__"))) && (decide (PySem.W.findIn K (.ref D) "__getattr__" = some none) && (decide (PySem.W.subIn K (.ref D) (.type "BaseException") = some true) && (PySem.W.hasDictIn K D &&
  (decide (PySem.W.findIn K (.ref D) "__class__" = some (some (.builtin "object.__class__"))) && (decide (PySem.W.specialIn K (.builtin "object.__class__") "__get__" = some (some (.builtin "getset_descriptor.__get__"))) && (decide (PySem.W.takesIn K (.builtin "object.__class__") = some true) && decide (PySem.W.mroIn K D (.type "object") = some true)))))))
theorem excB_ok {K : PySem.W.Frag} {D : Addr} (h : excB K D = true) : ExcC K D := by
  unfold excB at h
  simp only [Bool.and_eq_true, decide_eq_true_eq] at h
  obtain ⟨h1, h2, h3, h4, h5, h6, h7, h8⟩ := h
  exact ⟨h1, h2, h3, h4, h5, h6, h7, h8⟩
/-- C.__init__ is the function f, read off the class -/
def cinB (K : PySem.W.Frag) (C f : Addr) : Bool := PySem.W.readsIn K C (.type "type") && (decide (PySem.W.specialIn K (.ref C) "__getattribute__" = some (some (.builtin "type.__getattribute__"))) && (match PySem.W.findCls K (.ref C) (.type "type") "__init__" with
  | some (.val v) => decide (v = .ref f)
  | _ => false))
theorem cinB_ok {K : PySem.W.Frag} {C f : Addr} (h : cinB K C f = true) : ClX.CRead K C (.type "type") ∧ ClX.CVal K C (.type "type") "__init__" (.ref f) (.ref f) := by
  unfold cinB at h
  simp only [Bool.and_eq_true, decide_eq_true_eq] at h
  obtain ⟨h1, h2, h3⟩ := h
  refine ⟨⟨h1, h2⟩, ⟨?_, rfl⟩⟩
  split at h3
  · rename_i v hv
    rw [hv, of_decide_eq_true h3]
  · cases h3
end TL


/-! The tree layer, exceptions: raise within a loop. -/
namespace TL
open PySem PySem.Spec PyProof.Rows L2
section
variable {cm : Bool} {CX : CXT} {P : Program} {w : World} {K : PySem.W.Frag} {mg : Str → Option Value} {base : Heap} {kk : Nat} {N : List Str} {sc : Scope} {fs : Str → Bool} {X : Cx}
variable {tg iter : Expr} {ρ : TEnv} {L L1 : Store} {ts : List T} {pos : Pos} {rest : List Stmt} {k : TK} {xr : XR}
theorem wy_for {body : List Stmt} (ct : Cq true CX P w K mg base kk N sc fs X) (hp : PassesOwn (model X.prog X.w) X.A X.env X.xe) (hi : EvI X tg iter ρ L ts L1) (Wd : Nat → TEnv → Store → Prop) (h0 : Wd 0 ρ L1)
    (ht : ∀ n x ρ' L', ts[n]? = some x → Wd n ρ' L' → ∃ (js : List Nat) (ρ1 : TEnv), TgT X tg js x ρ' ρ1 L' ∧ WY X body ρ1 L' { nx := Wd (n + 1), rt := k.rt, bk := fun ρ' L' => WY X rest ρ' L' k xr, ct := Wd (n + 1) } xr)
    (hd : ∀ ρ' L', Wd ts.length ρ' L' → WY X rest ρ' L' k xr) (hs : ∀ x, foldedSetIterable iter X.env x = pure x := by intro _; rfl) : WY X (.For tg iter body [] pos :: rest) ρ L k xr := by
  refine ⟨fun W H σ D Wx s en d0 tk y => ?_⟩
  refine wp_pss (pss_cons ps_wp pss_wp) ?_
  have d : DOk X.K W H L (k.seqY X rest xr) { D with nx := fun σ' H' => wpSs X rest σ' H' D } := ⟨fun ρ' L' W' H' σ' st s' en' q => WY.go q W' H' σ' D Wx s' en' (d0.step st) tk (y.step st), d0.rt, d0.bk, d0.ct⟩
  refine wp_ps (ps_for hp (ct.calm rfl) pi_wp pg_wp pss_wp hs) ?_
  refine hi W H σ _ s en fun J W1 H1 st1 s1 hJ => ?_
  refine ⟨fun n m σ' H' => m = ts.length - n ∧ n ≤ ts.length ∧ ∃ ρ' L' W', Step W1 L1 H1 W' L' H' ∧ SR X.K W' H' L' ∧ EnvR X.K W' H' ρ' σ' ∧ Wd n ρ' L', ⟨ts.length, by simp, Nat.zero_le _, ρ, L1, W1, .refl, s1, en.step st1 s, h0⟩, ?_⟩
  rintro n m σ' H' ⟨rfl, hn, ρ', L', W', st2, s2, en2, hw⟩
  by_cases hlt : n < ts.length
  · have hx : ts[n]? = some ts[n] := List.getElem?_eq_getElem hlt
    obtain ⟨go, yld⟩ := hJ.turn n _ hx W' L' H' st2 s2
    refine .inr ⟨go, fun σ3 H3 => ∃ ρ3 L3 W3, Step W1 L1 H1 W3 L3 H3 ∧ SR X.K W3 H3 L3 ∧ EnvR X.K W3 H3 ρ3 σ3 ∧ Wd (n + 1) ρ3 L3, fun σ3 H3 q => ⟨ts.length - (n + 1), by omega, rfl, hlt, q⟩, fun x H2 hy => ?_⟩
    obtain ⟨W2, st3, s3, r3⟩ := yld x H2 hy
    obtain ⟨js, ρ1, htg, hb⟩ := ht n _ ρ' L' hx hw
    have st13 := st2.trans st3
    refine htg W2 H2 σ' x _ s3 (en2.step st3 s2) r3 fun σ4 en4 _ => ?_
    refine hb.go W2 H2 σ4 _ Wx s3 en4 ⟨fun ρ5 L5 W5 H5 σ5 a b c q => ⟨ρ5, L5, W5, st13.trans a, b, c, q⟩, fun r L5 W5 H5 x a b c q => d.rt r L5 W5 H5 x ((st1.trans st13).trans a) b (c.back (st1.trans st13).dom) q,
      fun ρ5 L5 W5 H5 σ5 a b c q => d.nx ρ5 L5 W5 H5 σ5 ((st1.trans st13).trans a) b c q, fun ρ5 L5 W5 H5 σ5 a b c q => ⟨ρ5, L5, W5, st13.trans a, b, c, q⟩⟩ tk (y.step (st1.trans st13))
  · have e : n = ts.length := by omega
    subst e
    exact .inl ⟨hJ.stop W' L' H' st2 s2, d.nx ρ' L' W' H' σ' (st1.trans st2) s2 en2 (hd ρ' L' hw)⟩
end
end TL


/-! The tree layer, exceptions: an own class as the head tells of it; the __init__ of the first one. -/
namespace TL
open PySem PySem.Spec PyProof.Rows L2
structure Xk (K : PySem.W.Frag) (C fI : Addr) (fs : List Str) : Prop where
  ox : OexC K C
  ec : ExcC K C
  xf : XfC K C
  ic : PySem.W.findIn K (.ref C) "__init__" = some (some (.ref fI))
  ti : PySem.W.typeIn K (.ref fI) = some (.type "function")
  fl : ∀ g ∈ fs, PySem.W.findIn K (.ref C) g = some none
def xkB (K : PySem.W.Frag) (C fI : Addr) (fs : List Str) : Bool := oexB K C && (excB K C && (xfB K C && (decide (PySem.W.findIn K (.ref C) "__init__" = some (some (.ref fI))) && (decide (PySem.W.typeIn K (.ref fI) = some (.type "function")) && fs.all fun g => decide (PySem.W.findIn K (.ref C) g = some none)))))
theorem xk_ok {K : PySem.W.Frag} {C fI : Addr} {fs : List Str} (h : xkB K C fI fs = true) : Xk K C fI fs := by
  unfold xkB at h
  simp only [Bool.and_eq_true, decide_eq_true_eq] at h
  obtain ⟨h1, h2, h3, h4, h5, h6⟩ := h
  exact ⟨oexB_ok h1, excB_ok h2, xfB_ok h3, h4, h5, fun g hg => of_decide_eq_true (List.all_eq_true.mp h6 g hg)⟩
/-- ValueError.__init__, as the text's class reads it -/
def veB (K : PySem.W.Frag) : Bool := match PySem.W.findCls K (.type "ValueError") (.type "type") "__init__" with
  | some (.val v) => decide (v = .builtin "ValueError.__init__")
  | _ => false
theorem veB_ok {K : PySem.W.Frag} (h : veB K = true) : PySem.W.findCls K (.type "ValueError") (.type "type") "__init__" = some (.val (.builtin "ValueError.__init__")) := by
  unfold veB at h
  split at h
  · rename_i v hv
    rw [hv, of_decide_eq_true h]
  · cases h
section
variable {cm : Bool} {CX : CXT} {P : Program} {w : World} {K : PySem.W.Frag} {mg : Str → Option Value} {base : Heap} {j : Nat} {N : List Str}
/-- an __init__ whose body is told at the level of values -/
theorem init_V {st : Stmt} {q : Str} {dvs : List V} {f : Addr} {fd : FuncData} {ps : List Str} {sp : List V → Hp → VK → Prop} (F : FunD K "__init__" q (defArgs st) (defBody st) (defScope st) dvs [] f fd) (S : FnScope N ps (defScope st)) (hcx : Calm0 CX) (len : ∀ vs H Q, sp vs H Q → vs.length = ps.length)
    (hbody : ∀ (X : Cx), Cv CX P w K mg base j N (defScope st) X → ∀ vs H Q, sp vs H Q → wpSs X (defBody st) (L2.start N vs) H { nx := fun _ H' => Q .non H', rt := Q }) : FnOk P w K mg base CX (j + 1) f fd ps (fun vs H Q _ => sp vs H Q) := by
  obtain ⟨oc, od, dV, kV, doc, pm, an, cdv, cty, osl, rfl, lk, hcd, _, _⟩ := F.ex
  exact fn_V lk hcd S hcx len hbody
theorem spI_len {fn : List Str} {n : Nat} {f : List V → List (Str × V)} {vs : List V} {H : Hp} {Q : VK} (h : spI K fn n f vs H Q) : vs.length = n + 1 := by
  obtain ⟨a, C, as, rfl, hl, _⟩ := h
  rw [List.length_cons, hl]
end
end TL


/-! What a head observes: the named objects and the table of the interpreter's own statics, with a further test. -/
namespace TL
open PySem PySem.Spec PyProof.Rows L2
abbrev AlS : Type := He.AlD × Bool
def frS (g : Addr → Option Obj) (n : Nat) : PySem.W.Frag := He.frT g (He.asD g n ++ [cStatics])
def obsS (n : Nat) (fa : List He.Fa) (fn : List He.DefD) (ex : PySem.W.Frag → Bool) (g : Addr → Option Obj) : AlS := (He.obsD fa fn (frS g n), ex (frS g n))
structure SaysS (fa : List He.Fa) (fn : List He.DefD) (ex : PySem.W.Frag → Bool) (K : PySem.W.Frag) : Prop where
  d : He.SaysD fa fn K
  more : ex K = true
def hookS (n : Nat) (fa : List He.Fa) (fn : List He.DefD) (ex : PySem.W.Frag → Bool) : PySem.W.Hook where
  α := AlS
  obs := fun s => obsS n fa fn ex s.heap.get?
  val := fun _ => (He.valD fn, true)
  says := fun _ h => ∃ K : PySem.W.Frag, K.In h ∧ SaysS fa fn ex K
  of := fun _ _ e => ⟨_, He.frT_in, congrArg (fun z : AlS => z.1) e, congrArg (fun z : AlS => z.2) e⟩
  keeps := fun _ _ _ ⟨K, hK, c⟩ k => ⟨K, PySem.W.Frag.In.keeps hK k, c⟩
theorem obsS_eq {n : Nat} {fa : List He.Fa} {fn : List He.DefD} {ex : PySem.W.Frag → Bool} {g : Addr → Option Obj} {s : Shared} (h : ∀ a, g a = s.heap.get? a) : obsS n fa fn ex g = (hookS n fa fn ex).obs s := by
  have e : g = s.heap.get? := funext h
  rw [e] <;> rfl
end TL


/-! The tree layer, exceptions: try with any number of except clauses, each with a name or without. -/
namespace TL
open PySem PySem.Spec PyProof.Rows L2
/-- behind a suite whose name stands at slot i -/
def goneE (i : Nat) (D : Ends) : Ends := { nx := fun σ H => D.nx (σ.set i none) H, rt := D.rt, bk := fun σ H => D.bk (σ.set i none) H, ct := fun σ H => D.ct (σ.set i none) H }
/-- the clauses: class, slot of the name, suite -/
abbrev Cls3 := List (Value × Option Nat × List Stmt)
/-- what an except suite at the exception a is asked -/
def suiteAsk (X : Cx) (D : Ends) (oi : Option Nat) (ss : List Stmt) (a : Addr) (oe : Obj) (pn : List (Addr × Obj)) (σ : L2.St) (H : Hp) : Prop := match oi with
  | none => wpSs (X.suite a ((a, oe) :: pn)) ss σ H D
  | some i => wpSs (X.suite a ((a, oe) :: pn)) ss (σ.set i (some (.ref a))) H (goneE i D)
def wMix (X : Cx) (Wout : WX) (D : Ends) : Cls3 → WX
  | [] => Wout
  | (c, oi, ss) :: r => fun cls d σ H => ∃ b, PySem.W.exmOne X.K cls c = some b ∧ (b = true → ∀ (a : Addr) (oe : Obj) (pn : List (Addr × Obj)), H a = none → L2N.Zn cls d oe → (∃ vs, oe.data = .fields vs) → suiteAsk X D oi ss a oe pn σ H) ∧ (b = false → wMix X Wout D r cls d σ H)
inductive HMix (X : Cx) : List ExceptHandler → Cls3 → Prop
  | nil : HMix X [] []
  | one {x : Str} {c : Value} {ss : List Stmt} {np hp : Pos} {hds : List ExceptHandler} {l : Cls3} (hc : Names X x c) (hs : ss ≠ []) (r : HMix X hds l) : HMix X (.ExceptHandler (some (.Name x np)) none ss hp :: hds) ((c, none, ss) :: l)
  | as {x n : Str} {c : Value} {i : Nat} {ss : List Stmt} {np hp : Pos} {hds : List ExceptHandler} {l : Cls3} (hc : Names X x c) (hs : ss ≠ []) (hi : X.N[i]? = some n) (hl : X.env.kindOf n = some .local) (r : HMix X hds l) :
    HMix X (.ExceptHandler (some (.Name x np)) (some n) ss hp :: hds) ((c, some i, ss) :: l)
section
variable {X : Cx} {body : List Stmt} {hd : ExceptHandler} {hds : List ExceptHandler} {l : Cls3} {pos : Pos} {Wout : WX}
theorem wp_try {D : Ends} {σ : L2.St} {H : Hp} (hst : X.stack = X.env :: X.outer) (hfm : X.env.frame = some X.env.locals) (nd : X.N.Nodup) (tk : L2N.Takes X Wout) (hh : HMix X (hd :: hds) l)
    (hb : ∀ (pn : List (Addr × Obj)) (xe : Value → Shared → Prop), L2N.Takes (X.tr pn xe) (wMix X Wout D l) → PassesOwn (model X.prog X.w) X.A X.env xe → wpSs (X.tr pn xe) body σ H D) : wpS X (.Try body (hd :: hds) [] [] pos) σ H D := by
  intro pins s Iv
  have okX := Iv.ok
  have frm : X.A.frames = some (X.env :: X.outer) := by rw [okX.frames, hst]
  refine wpAny_Try_except ?_
  have run := hb (X.pn ++ pins) (fun e s1 => wpAny (model X.prog X.w) X.A (noteFrame e X.env) (fun _ s2 => wpAny (model X.prog X.w) X.A (setFlight e none) (fun _ s3 => wpAny (model X.prog X.w) X.A (handleBy e X.env (hd :: hds)) (SP X pins D) X.xe s3) X.xe s2) X.xe s1) (fun u s' xx => ?_) PassesOwn.looking
  · refine wpAny_mono (run [] s (Iv.toTry _)) (fun fl s1 q => ?_) (fun er s1 q => q)
    match fl, q with
    | .next, ⟨σ1, H1, J, z⟩ => exact wpAny_execs_nil ⟨σ1, H1, J.ofTry okX, z⟩
    | .brk, ⟨σ1, H1, J, z⟩ => exact ⟨σ1, H1, J.ofTry okX, z⟩
    | .cont, ⟨σ1, H1, J, z⟩ => exact ⟨σ1, H1, J.ofTry okX, z⟩
    | .ret u, ⟨v, σ1, H1, J, rv, z⟩ => exact ⟨v, σ1, H1, J.ofTry okX, rv, z⟩
  · obtain ⟨a, B, sI, pj, σ1, H1, cls, d, rfl, J1, onB, upI, sky, noA, osq, agq, wsh⟩ := xx
    have J : Inv X pins σ1 H1 sI := J1.ofTry okX
    have skyX : Sky B (X.env :: X.outer) a (L2N.Zn cls d) X.env.locals s'.heap := by rw [← hst]; exact sky
    show wpAny (model X.prog X.w) X.A (noteFrame (.ref a) X.env) _ _ _
    refine L2N.Sky.land L2N.Zn.steady frm hfm skyX fun g3 fl3 up3 => ?_
    have Jg : Inv X pins σ1 H1 { s' with heap := g3 } := J.landed onB fl3.1 (upI.trans up3) osq agq
    obtain ⟨oe3, ar3, at3, zn3, dt3⟩ := fl3.there
    have apart : ∀ {h : Heap} {o : Obj} {ar : Array Value}, h.FunFrames B (X.env :: X.outer) → h.get? a = some o → o.data = .fields ar → a ∉ frs (X.env :: X.outer) := fun {h o ar} ff ge dd mem => by
      obtain ⟨_, o2, g2, nfl⟩ := ff.mem mem
      rw [ge] at g2; cases g2
      exact nfl _ dd
    have nfr := apart fl3.2.2.1 at3 dt3
    have notL : a ≠ X.env.locals := fun z => nfr (List.mem_filterMap.mpr ⟨X.env, List.mem_cons_self, by rw [hfm, z]⟩)
    have notF : a ∉ X.fs := fun mem => by
      obtain ⟨ev, hev, q⟩ := List.mem_filterMap.mp mem
      exact nfr (List.mem_filterMap.mpr ⟨ev, List.mem_cons_of_mem _ hev, q⟩)
    have Sg := Jg.suite at3 dt3 noA notL notF
    have walk : ∀ {hds1 : List ExceptHandler} {l1 : Cls3}, HMix X hds1 l1 → wMix X Wout D l1 cls d σ1 H1 → wpAny (model X.prog X.w) X.A (handleBy (.ref a) X.env hds1) (SP X pins D) X.xe { s' with heap := g3 } := by
      intro hds1 l1 hk
      have tell : ∀ {x : Str} {c : Value} {np : Pos} {Q : Value → Shared → Prop} {E : Value → Shared → Prop}, Names X x c → Q c { s' with heap := g3 } → wpAny (model X.prog X.w) (X.A.mark (some (.ref a))) (eval (.Name x np) X.env) Q E { s' with heap := g3 } := fun {x c np Q E} hc q => by
        obtain ⟨gx, dx, hm | ⟨hm, bx, nx⟩⟩ := hc
        · exact ld_glob (X := X.suite a ((a, oe3) :: (X.pn ++ pins))) Sg gx hm q dx
        · exact ld_blt (X := X.suite a ((a, oe3) :: (X.pn ++ pins))) Sg gx hm bx q nx dx
      have look : PySem.W.Looks (model X.prog X.w) g3 (typeOf (.ref a)) cls := fun A Q E s k q => wpAny_typeOf_ref (k _ _ at3) (by rw [zn3.1]; exact q)
      induction hk with
      | nil =>
        intro w0
        refine wpAny_handleBy_nil ?_
        obtain ⟨k1, k2, k3, oe, ar, Tb, oT, tr, he, hz, dt, fld1, hr⟩ := id fl3
        unfold PySem.passOn
        refine wpAny_bind (wpAny_field he dt fld1 ?_)
        rw [if_neg (show ¬ ((Value.ref Tb == Value.none) = true) by simp)]
        have up : wpAny (model X.prog X.w) X.A (setFlight (.ref a) X.env.frame) (fun _ s4 => wpAny (model X.prog X.w) X.A (throw (.ref a) : Sem Flow) (SP X pins D) X.xe s4) X.xe { s' with heap := g3 } := by
          rw [hfm]
          refine HandSPX.setFlight_upZ fl3 fun g4 held4 up4 => wpAny_throw (tk _ _ ?_)
          exact ⟨a, B, sI, pins, σ1, H1, cls, d, rfl, J, onB, (upI.trans up3).trans up4, .inr (.inr (by rw [hst]; exact held4)), noA, osq, agq, w0⟩
        first
          | exact wpAny_bind (wpAny_pure (wpAny_bind up))
          | exact wpAny_bind up
      | @one x c ss np hp hds2 l2 hc hs r ih =>
        intro w0
        obtain ⟨b, eb, yes, no⟩ := w0
        have exm := PySem.W.exm_one (M := model X.prog X.w) (Jg.kIn) look eb
        refine wpAny_handleBy_cons (codeAny_handlers_test ?_) (by intro q; cases q)
        refine tell hc (exm.here ?_)
        cases b with
        | false => exact ih (no rfl)
        | true =>
          obtain ⟨b0, ss, rfl⟩ : ∃ b0 ss', ss = b0 :: ss' := by cases ss with | nil => exact absurd rfl hs | cons b0 ss' => exact ⟨b0, ss', rfl⟩
          refine codeAny_handlers_suite ?_
          refine HandSPX.lands_againZ fl3 fun g4 fl4 up4 => ?_
          have J4 : Inv X pins σ1 H1 { s' with heap := g4 } := J.landed onB fl4.1 ((upI.trans up3).trans up4) osq agq
          obtain ⟨oe4, ar4, at4, zn4, dt4⟩ := fl4.there
          have S4 := J4.suite at4 dt4 noA notL notF
          refine wpAny_mono ((yes rfl a oe4 (X.pn ++ pins) noA zn4 ⟨_, dt4⟩) [] _ S4) (fun fl s6 q => ?_) (fun _ _ z => False.elim z)
          match fl, q with
          | .next, ⟨σ6, H6, S6, z⟩ => exact ⟨_, _, S6.unsuite okX, z⟩
          | .brk, ⟨σ6, H6, S6, z⟩ => exact ⟨_, _, S6.unsuite okX, z⟩
          | .cont, ⟨σ6, H6, S6, z⟩ => exact ⟨_, _, S6.unsuite okX, z⟩
          | .ret u, ⟨v6, σ6, H6, S6, rv6, z⟩ => exact ⟨_, _, _, S6.unsuite okX, rv6, z⟩
      | @as x n c i ss np hp hds2 l2 hc hs hi hl r ih =>
        intro w0
        obtain ⟨b, eb, yes, no⟩ := w0
        have exm := PySem.W.exm_one (M := model X.prog X.w) (Jg.kIn) look eb
        refine wpAny_handleBy_cons (codeAny_handlers_test ?_) (by intro q; cases q)
        refine tell hc (exm.here ?_)
        cases b with
        | false => exact ih (no rfl)
        | true =>
          obtain ⟨b0, ss, rfl⟩ : ∃ b0 ss', ss = b0 :: ss' := by cases ss with | nil => exact absurd rfl hs | cons b0 ss' => exact ⟨b0, ss', rfl⟩
          refine codeAny_handlers_suite_as ?_
          refine HandSPX.lands_againZ fl3 fun g4 fl4 up4 => ?_
          have J4 : Inv X pins σ1 H1 { s' with heap := g4 } := J.landed onB fl4.1 ((upI.trans up3).trans up4) osq agq
          obtain ⟨oe4, ar4, at4, zn4, dt4⟩ := fl4.there
          have S4 := J4.suite at4 dt4 noA notL notF
          refine store_ok (X := X.suite a ((a, oe4) :: (X.pn ++ pins))) (v := .ref a) S4 nd hi (.inl hl) rfl (fun s5 S5 => ?_) (.inr hl)
          refine wpAny_mono ((yes rfl a oe4 (X.pn ++ pins) noA zn4 ⟨_, dt4⟩) [] s5 S5) (fun fl s6 q => ?_) (fun _ _ z => False.elim z)
          have behind : ∀ {σ6 : L2.St} {H6 : Hp} {Q : Shared → Prop}, Inv (X.suite a ((a, oe4) :: (X.pn ++ pins))) [] σ6 H6 s6 → (∀ s7, Inv X pins (σ6.set i none) H6 s7 → Q s7) → wpAny (model X.prog X.w) X.A (do bindName X.env n .none; unbindBehindTheSuite X.env n hp) (fun _ s7 => Q s7) X.xe s6 :=
            fun {σ6 H6 Q} S6 hq => gone_ok (S6.unsuite okX) nd hi hl hq
          match fl, q with
          | .next, ⟨σ6, H6, S6, z⟩ => exact behind S6 fun s7 J7 => ⟨_, _, J7, z⟩
          | .brk, ⟨σ6, H6, S6, z⟩ => exact behind S6 fun s7 J7 => ⟨_, _, J7, z⟩
          | .cont, ⟨σ6, H6, S6, z⟩ => exact behind S6 fun s7 J7 => ⟨_, _, J7, z⟩
          | .ret u, ⟨v6, σ6, H6, S6, rv6, z⟩ => exact behind S6 fun s7 J7 => ⟨_, _, _, J7, rv6, z⟩
    exact walk hh wsh
end
end TL


/-! Models: outcomes of defs as plain functions, and the judgement that a block keeps to one. -/
namespace TL
open PySem PySem.Spec PyProof.Rows L2

structure Exc where
  cls : Str
  fl : List (Str × T)
/-- what a block does: goes on, breaks, hands back, raises; bad: outside of what is promised -/
inductive Fl (σ ρ : Type) where
  | nx (s : σ)
  | bk (s : σ)
  | rt (r : ρ)
  | er (e : Exc)
  | bad
abbrev Rs (ρ : Type) := Fl Unit ρ
def bdV {α β : Type} (v : α) (k : α → β) : β := k v
def bdO {α σ ρ : Type} (o : Option α) (k : α → Fl σ ρ) : Fl σ ρ := match o with | some v => k v | none => .bad
def bdF {α σ ρ : Type} (o : Rs α) (k : α → Fl σ ρ) : Fl σ ρ := match o with | .rt v => k v | .er e => .er e | _ => .bad
noncomputable def bdP {σ ρ : Type} (p : Prop) (k : Fl σ ρ) : Fl σ ρ := open Classical in if p then k else .bad
def bdL {σ σ' ρ : Type} (o : Fl σ ρ) (k : σ → Fl σ' ρ) : Fl σ' ρ := match o with | .nx s => k s | .bk _ => .bad | .rt r => .rt r | .er e => .er e | .bad => .bad
def okO {α : Type} : Rs α → Option α | .rt v => some v | _ => none
def obd {α β : Type} (o : Option α) (k : α → Option β) : Option β := match o with | some v => k v | none => none
noncomputable def obP {β : Type} (p : Prop) (k : Option β) : Option β := open Classical in if p then k else none
def oif {β : Type} (c : Bool) (a b : Option β) : Option β := if c = true then a else b
def ifF {σ ρ : Type} (c : Bool) (a b : Fl σ ρ) : Fl σ ρ := if c = true then a else b
def forL {α σ ρ : Type} (body : σ → α → Fl σ ρ) : List α → σ → Fl σ ρ
  | [], s => .nx s
  | x :: xs, s => match body s x with | .nx s' => forL body xs s' | .bk s' => .nx s' | .rt r => .rt r | .er e => .er e | .bad => .bad
theorem forL_cons {α σ ρ : Type} {body : σ → α → Fl σ ρ} {y : α} {ys : List α} {s : σ} : forL body (y :: ys) s = (match body s y with | .nx s' => forL body ys s' | .bk s' => .nx s' | .rt r => .rt r | .er e => .er e | .bad => .bad) := rfl
def whileL {σ ρ : Type} (c : σ → Option Bool) (body : σ → Fl σ ρ) : Nat → σ → Fl σ ρ
  | 0, _ => .bad
  | n + 1, s => match c s with
    | none => .bad
    | some false => .nx s
    | some true => match body s with | .nx s' => whileL c body n s' | .bk s' => .nx s' | .rt r => .rt r | .er e => .er e | .bad => .bad
section
variable {α β σ σ' ρ : Type}
theorem bdO_ok {o : Option α} {k : α → Fl σ ρ} (h : bdO o k ≠ .bad) : ∃ v, o = some v ∧ bdO o k = k v := by
  cases o with
  | none => exact absurd rfl h
  | some v => exact ⟨v, rfl, rfl⟩
theorem obd_ok {o : Option α} {k : α → Option β} {z : β} (h : obd o k = some z) {G : Prop} (g : ∀ v, o = some v → k v = some z → G) : G := by
  cases o with
  | none => cases h
  | some v => exact g v rfl h
theorem obP_ok {p : Prop} {k : Option β} {z : β} (h : obP p k = some z) {G : Prop} (g : p → k = some z → G) : G := by
  unfold obP at h
  split at h
  · rename_i hp; exact g hp h
  · cases h
theorem okO_ok {r : Rs α} {v : α} (h : okO r = some v) : r = .rt v := by
  cases r with
  | rt r => unfold okO at h; cases h; rfl
  | _ => unfold okO at h; cases h
end
/-- what is remembered of names: less of it -/
inductive Sub : TEnv → TEnv → Prop
  | nil : Sub [] []
  | n {a : Option T} {x y : TEnv} (h : Sub x y) : Sub (none :: x) (a :: y)
  | s {a : Option T} {x y : TEnv} (h : Sub x y) : Sub (a :: x) (a :: y)
theorem Sub.refl : ∀ x : TEnv, Sub x x
  | [] => .nil
  | a :: x => .s (Sub.refl x)
theorem Sub.trans : ∀ {x y z : TEnv}, Sub x y → Sub y z → Sub x z
  | _, _, _, .nil, h => h
  | _, _, _, .n h, .n g => .n (h.trans g)
  | _, _, _, .n h, .s g => .n (h.trans g)
  | _, _, _, .s h, .n g => .n (h.trans g)
  | _, _, _, .s h, .s g => .s (h.trans g)
theorem Sub.len : ∀ {x y : TEnv}, Sub x y → x.length = y.length
  | _, _, .nil => rfl
  | _, _, .n h => congrArg Nat.succ h.len
  | _, _, .s h => congrArg Nat.succ h.len
theorem Sub.get : ∀ {x y : TEnv} {i : Nat} {t : T}, Sub x y → x[i]? = some (some t) → y[i]? = some (some t)
  | _, _, _, _, .nil, e => e
  | _, _, 0, _, .n h, e => by simp at e
  | _, _, i + 1, _, .n h, e => by
    rw [List.getElem?_cons_succ] at e ⊢
    exact h.get e
  | _, _, 0, _, .s h, e => by simpa using e
  | _, _, i + 1, _, .s h, e => by
    rw [List.getElem?_cons_succ] at e ⊢
    exact h.get e
theorem Sub.env {K : PySem.W.Frag} {W : Wd} {H : Hp} {x y : TEnv} {σ : L2.St} (h : Sub x y) (en : EnvR K W H y σ) : EnvR K W H x σ :=
  ⟨h.len.trans en.1, fun i t e => en.2 i t (h.get e)⟩

/-- the frame of a block: what is asked where it goes on, hands back, raises -/
structure Fm (σ ρ : Type) where
  nx : σ → TEnv → Store → Prop
  fn : Prop
  lp : Prop
  ret : ρ → R → Store → Prop
  cls : Str → Addr
  ex : Exc → TEnv → Store → Prop
def Fm.fall {σ ρ : Type} (F : Fm σ ρ) (o : Fl σ ρ) (r : TEnv) (L : Store) : Prop := (∃ s, o = .nx s ∧ F.nx s r L) ∨ (F.fn ∧ ∃ v, o = .rt v ∧ F.ret v (.v N0) L)
def Fm.tk {σ ρ : Type} (F : Fm σ ρ) (o : Fl σ ρ) : TK where
  nx := F.fall o
  rt := fun r L => ∃ v, o = .rt v ∧ F.ret v r L
  bk := fun r L => F.lp ∧ ∃ s, o = .bk s ∧ F.nx s r L
  ct := fun r L => F.lp ∧ ∃ s, o = .nx s ∧ F.nx s r L
def Fm.xr {σ ρ : Type} (F : Fm σ ρ) (o : Fl σ ρ) : XR := fun C fl r L => ∃ e, o = .er e ∧ C = F.cls e.cls ∧ fl = e.fl ∧ F.ex e r L
def WBk {σ ρ : Type} (X : Cx) (F : Fm σ ρ) : List (List Stmt) → TEnv → Store → Fl σ ρ → Prop
  | [], r, L, o => o ≠ .bad → F.fall o r L
  | ss :: bs, r, L, o => o ≠ .bad → WY X ss r L { F.tk o with nx := fun r' L' => WBk X F bs r' L' o } (F.xr o)
structure WB {σ ρ : Type} (X : Cx) (F : Fm σ ρ) (bs : List (List Stmt)) (r : TEnv) (L : Store) (o : Fl σ ρ) : Prop where
  go : WBk X F bs r L o
def Fm.loop {σ σ' ρ : Type} (F : Fm σ' ρ) (E : σ → TEnv) (S : σ → Store) : Fm σ ρ where
  nx := fun s r L => Sub (E s) r ∧ L = S s
  fn := False
  lp := True
  ret := F.ret
  cls := F.cls
  ex := F.ex
section
variable {cm : Bool} {CX : CXT} {P : Program} {w : World} {K : PySem.W.Frag} {mg : Str → Option Value} {base : Heap} {k : Nat} {N : List Str} {sc : Scope} {fs : Str → Bool} {X : Cx}
variable {e a b c tg iter : Expr} {es : List Expr} {r r1 : TEnv} {L L1 Lb Lc : Store} {t u : T} {ts us : List T} {pos p p' : Pos} {i j : Int} {x : Str}
variable {st : Stmt} {rest yes no body : List Stmt} {bs : List (List Stmt)} {α β σ σ' ρ : Type} {F : Fm σ ρ} {o o1 o2 : Fl σ ρ}
theorem wy_sub {ss : List Stmt} {kk : TK} {xr : XR} (h : Sub r1 r) (w0 : WY X ss r1 L kk xr) : WY X ss r L kk xr := ⟨fun W H σ D Wx s en d tk x => w0.go W H σ D Wx s (h.env en) d tk x⟩
theorem WB.sub {ss : List Stmt} (w0 : WB X F (ss :: bs) r1 L o) (h : Sub r1 r) : WB X F (ss :: bs) r L o := ⟨fun hb => wy_sub h (w0.go hb)⟩
theorem WB.eq (w0 : WB X F bs r L o1) (h : o1 = o) : WB X F bs r L o := h ▸ w0
theorem WB.store (w0 : WB X F bs r L1 o) (h : L = L1) : WB X F bs r L o := h ▸ w0
theorem WB.bad : WB X F bs r L .bad := ⟨by
  cases bs with
  | nil => exact fun h => absurd rfl h
  | cons s bs => exact fun h => absurd rfl h⟩
theorem wb_bdO {o : Option α} {kf : α → Fl σ ρ} (h : ∀ v, o = some v → WB X F bs r L (kf v)) : WB X F bs r L (bdO o kf) := by
  cases o with
  | none => exact .bad
  | some v => exact h v rfl
theorem wb_bdP {p : Prop} {kf : Fl σ ρ} (h : p → WB X F bs r L kf) : WB X F bs r L (bdP p kf) := by
  unfold bdP
  split
  · rename_i hp; exact h hp
  · exact .bad
theorem wb_nil (h : WB X F bs r L o) : WB X F ([] :: bs) r L o := ⟨fun hb => wy_nil h.go⟩
theorem wb_nx {s : σ} (h : F.nx s r L) : WB X F [] r L (.nx s) := ⟨fun _ => .inl ⟨s, rfl, h⟩⟩
theorem wb_end {v : ρ} (hf : F.fn) (h : F.ret v (.v N0) L) : WB X F [] r L (.rt v) := ⟨fun _ => .inr ⟨hf, v, rfl, h⟩⟩
/-- an old rule for one statement, then the rest -/
theorem wb1 (h : o ≠ .bad → WS X [st] r L { F.tk o with nx := fun r' L' => WB X F (rest :: bs) r' L' o }) : WB X F ((st :: rest) :: bs) r L o := ⟨fun hb => wy (ws_imp (h hb) (fun _ _ q => q.go hb) (fun _ _ q => q) (fun _ _ q => q) (fun _ _ q => q))⟩
theorem wb_set {em : α → T} {v : α} {kf : α → Fl σ ρ} (ct : Cq cm CX P w K mg base k N sc fs X) (n : Nat) (he : Ev X e r L (.v (em v)) L1) (h : ∀ y, y = v → WB X F (rest :: bs) (r.set n (some (em y))) L1 (kf y)) (hx : locOk N sc fs n x = true := by decide +kernel)
    (hs : swapsWith e (some (.Name x p')) pos.line X.env = pure false := by rfl) : WB X F ((.Assign [.Name x p'] e pos :: rest) :: bs) r L (bdV v kf) := wb1 fun _ => wset ct n he (ws_nil (h v rfl)) hx hs
/-- a new thing becomes a cell -/
theorem wb_setC {em : α → T} {v : α} {kf : α → Fl σ ρ} (ct : Cq cm CX P w K mg base k N sc fs X) (n : Nat) (he : Ev X e r L (.n (em v)) L1) (h : ∀ y, y = v → ∀ m, L1 m = none → WB X F (rest :: bs) (r.set n (some (.cel m))) (updS L1 m (some (em y))) (kf y)) (hx : locOk N sc fs n x = true := by decide +kernel)
    (hs : swapsWith e (some (.Name x p')) pos.line X.env = pure false := by rfl) : WB X F ((.Assign [.Name x p'] e pos :: rest) :: bs) r L (bdV v kf) := wb1 fun _ => wsetC ct n he (fun m hm => ws_nil (h v rfl m hm)) hx hs
theorem wb_asg {em : α → T} {v : α} {kf : α → Fl σ ρ} {js : List Nat} {rf : α → TEnv} (he : Ev X e r L (.v (em v)) L1) (hg : ∀ y, TgT X tg js (em y) r (rf y) L1) (h : ∀ y, y = v → WB X F (rest :: bs) (rf y) L1 (kf y)) (hs : swapsWithSole [tg] e pos.line X.env = pure false := by rfl) (hw : swappedStores [tg] e X.env = pure none := by rfl)
    (h1 : (assignEach [tg] X.env).map (·.2) = [assign tg X.env] := by rfl) : WB X F ((.Assign [tg] e pos :: rest) :: bs) r L (bdV v kf) := wb1 fun _ => ws_asg he (hg v) (ws_nil (h v rfl)) hs hw h1
theorem wb_expr {z : R} (he : Ev X e r L z L1) (h : WB X F (rest :: bs) r L1 o) (hs : swapsWith e none pos.line X.env = pure false := by rfl) : WB X F ((.Expr e pos :: rest) :: bs) r L o := wb1 fun _ => ws_expr he (ws_nil h) hs
theorem wb_ret {z : R} {v : ρ} (he : Ev X e r L z L1) (h : F.ret v z L1) : WB X F ((.Return (some e) pos :: rest) :: bs) r L (.rt v) := wb1 fun _ => ws_ret he ⟨v, rfl, h⟩
theorem wb_retN {v : ρ} (h : F.ret v (.v N0) L) : WB X F ((.Return none pos :: rest) :: bs) r L (.rt v) := wb1 fun _ => ws_retN ⟨v, rfl, h⟩
theorem wb_pass (h : WB X F (rest :: bs) r L o) : WB X F ((.Pass pos :: rest) :: bs) r L o := wb1 fun _ => ws_pass (ws_nil h)
theorem wb_break {s : σ} (h : F.nx s r L) (hl : F.lp := by trivial) : WB X F ((.Break pos :: rest) :: bs) r L (.bk s) := wb1 fun _ => ws_break ⟨hl, s, rfl, h⟩
theorem wb_cont {s : σ} (h : F.nx s r L) (hl : F.lp := by trivial) : WB X F ((.Continue pos :: rest) :: bs) r L (.nx s) := wb1 fun _ => ws_cont ⟨hl, s, rfl, h⟩
theorem wb_if {z : Bool} (hc : EvB X c r L z L1) (h1 : z = true → WB X F (yes :: rest :: bs) r L1 o1) (h2 : z = false → WB X F (no :: rest :: bs) r L1 o2) : WB X F ((.If c yes no pos :: rest) :: bs) r L (ifF z o1 o2) := by
  refine ⟨fun hb => wy_if hc (fun e => ?_) (fun e => ?_)⟩
  · subst e; exact wy_imp ((h1 rfl).go hb) (fun _ _ q => q hb) (fun _ _ q => q) (fun _ _ q => q) (fun _ _ q => q) (fun _ _ _ _ q => q)
  · subst e; exact wy_imp ((h2 rfl).go hb) (fun _ _ q => q hb) (fun _ _ q => q) (fun _ _ q => q) (fun _ _ q => q) (fun _ _ _ _ q => q)
theorem wb_augI {v : Int} {kf : Int → Fl σ ρ} (ct : Cq cm CX P w K mg base k N sc fs X) (n : Nat) (hρ : r[n]? = some (some (I i))) (he : Ev X e r L (.v (I j)) L1) (h : ∀ y, y = i + j → WB X F (rest :: bs) (r.set n (some (I y))) L1 (kf y)) (hx : locOk N sc fs n x = true := by decide +kernel) : WB X F ((.AugAssign (.Name x p') .Add e pos :: rest) :: bs) r L (bdV (i + j) kf) :=
  wb1 fun _ => waugI ct n hρ he (ws_nil (h _ rfl)) hx
/-- raise C(..) -/
theorem wb_raise {q : Exc} {fl : List (Str × T)} {C : Addr} (ct : Cq true CX P w K mg base k N sc fs X) (hm : MkY X e r L C fl L1) (hC : C = F.cls q.cls) (hf : fl = q.fl) (h : F.ex q r L1) : WB X F ((.Raise (some e) none pos :: rest) :: bs) r L (.er q) :=
  ⟨fun _ => wy_raise ct hm ⟨q, rfl, hC, hf, h⟩⟩
theorem wb_drop {m : Nat} {o' : Option T} (hm : L m = none) (h : WB X F bs r L o) (hn : bs ≠ [] := by intro h; cases h) : WB X F bs r (updS L m o') o := by
  cases bs with
  | nil => exact absurd rfl hn
  | cons ss bs =>
    refine ⟨fun hb => ?_⟩
    have h0 := h.go hb
    refine ⟨fun W H σ D Wx s en d tk x => ?_⟩
    have hl : ∀ n t, L n = some t → updS L m o' n = some t := updS_drop hm
    exact h0.go W H σ D Wx (s.less hl) en (d.step (Step.refl.less hl)) tk (x.step (Step.refl.less hl))
/-- the end of a loop's turn -/
theorem wb_turn {E : σ → TEnv} {S : σ → Store} {s : σ} {F0 : Fm σ' ρ} (h : Sub (E s) r) (hL : L = S s) : WB X (F0.loop E S) [] r L (.nx s) := wb_nx ⟨h, hL⟩
theorem wb_for {xs : List α} {ea : α → T} {bm : σ' → α → Fl σ' ρ} {s0 : σ'} {kont : σ' → Fl σ ρ} (ct : Cq true CX P w K mg base k N sc fs X) (po : PassesOwn (model X.prog X.w) X.A X.env X.xe) (hi : EvI X tg iter r L (xs.map ea) L1) (E : σ' → TEnv) (S : σ' → Store) (h0 : Sub (E s0) r) (hS : L1 = S s0)
    (hb : ∀ s y, y ∈ xs → ∃ (js : List Nat) (r1 : TEnv), TgT X tg js (ea y) (E s) r1 (S s) ∧ WB X (F.loop E S) [body] r1 (S s) (bm s y))
    (hd : ∀ s, WB X F (rest :: bs) (E s) (S s) (kont s)) (hs : ∀ x, foldedSetIterable iter X.env x = pure x := by intro _; rfl) : WB X F ((.For tg iter body [] pos :: rest) :: bs) r L (bdL (forL bm xs s0) kont) := by
  refine ⟨fun ho => ?_⟩
  refine wy_for ct po hi (fun n r' L' => ∃ s, forL bm xs s0 = forL bm (xs.drop n) s ∧ Sub (E s) r' ∧ L' = S s) ⟨s0, rfl, h0, hS⟩ ?_ ?_ hs
  · rintro n x r' L' hx ⟨s, hq, hsub, rfl⟩
    rw [List.getElem?_map] at hx
    cases hy : xs[n]? with
    | none => rw [hy] at hx; cases hx
    | some y =>
      rw [hy] at hx; cases hx
      obtain ⟨js, r1, htg, hw⟩ := hb s y (List.mem_of_getElem? hy)
      have hdr : xs.drop n = y :: xs.drop (n + 1) := by
        obtain ⟨h1, h2⟩ := List.getElem?_eq_some_iff.mp hy
        rw [List.drop_eq_getElem_cons h1, h2]
      rw [hdr, forL_cons] at hq
      have hnb : bm s y ≠ .bad := fun hbad => by rw [hbad] at hq; rw [hq] at ho; exact ho rfl
      refine ⟨js, r1, ⟨fun W H σ v Q sr en rp kq => htg W H σ v Q sr (hsub.env en) rp kq⟩, ?_⟩
      · refine wy_imp (hw.go hnb) ?_ ?_ ?_ ?_ ?_
        · intro r2 L2 q
          rcases q hnb with ⟨s2, e2, q⟩ | ⟨hf, _⟩
          · rw [e2] at hq; exact ⟨s2, hq, q⟩
          · exact hf.elim
        · rintro z L2 ⟨v, e2, q⟩
          rw [e2] at hq
          exact ⟨v, by rw [hq]; rfl, q⟩
        · rintro r2 L2 ⟨_, s2, e2, q1, rfl⟩
          rw [e2] at hq
          have h3 := (hd s2).go
          have eo : bdL (forL bm xs s0) kont = kont s2 := by rw [hq]; rfl
          rw [eo] at ho ⊢
          exact wy_sub q1 (h3 ho)
        · rintro r2 L2 ⟨_, s2, e2, q⟩
          rw [e2] at hq; exact ⟨s2, hq, q⟩
        · rintro C fl r2 L2 ⟨q0, e2, q⟩
          rw [e2] at hq
          exact ⟨q0, by rw [hq]; rfl, q⟩
  · rintro r' L' ⟨s, hq, hsub, rfl⟩
    rw [List.length_map, List.drop_length] at hq
    have h3 := (hd s).go
    have eo : bdL (forL bm xs s0) kont = kont s := by rw [hq]; rfl
    rw [eo] at ho ⊢
    exact wy_sub hsub (h3 ho)
end
end TL


/-! Models: while, the frame of a def, calls that may raise. -/
namespace TL
open PySem PySem.Spec PyProof.Rows L2
section
variable {cm : Bool} {CX : CXT} {P : Program} {w : World} {K : PySem.W.Frag} {mg : Str → Option Value} {base : Heap} {k : Nat} {N : List Str} {sc : Scope} {fs : Str → Bool} {X : Cx}
variable {e a b c tg iter : Expr} {es : List Expr} {r r1 : TEnv} {L L1 Lb Lc : Store} {t u : T} {ts us : List T} {pos p p' : Pos} {i j : Int} {x : Str}
variable {st : Stmt} {ss rest yes no body : List Stmt} {bs : List (List Stmt)} {α β σ σ' ρ : Type} {F : Fm σ ρ} {o o1 o2 : Fl σ ρ}
theorem wy_while {kk : TK} {xr : XR} (hp : PassesOwn (model X.prog X.w) X.A X.env X.xe) (Wd : Nat → TEnv → Store → Prop) (m0 : Nat) (h0 : Wd m0 r L)
    (ht : ∀ m ρ' L', Wd m ρ' L' → ∃ z L2, EvB X c ρ' L' z L2 ∧ (z = true → WY X body ρ' L2 { nx := fun ρ3 L3 => ∃ m', m' < m ∧ Wd m' ρ3 L3, rt := kk.rt, bk := fun ρ' L' => WY X rest ρ' L' kk xr, ct := fun ρ3 L3 => ∃ m', m' < m ∧ Wd m' ρ3 L3 } xr) ∧ (z = false → WY X rest ρ' L2 kk xr)) : WY X (.While c body [] pos :: rest) r L kk xr := by
  refine ⟨fun W H σ D Wx s en d0 tk y => ?_⟩
  refine wp_pss (pss_cons ps_wp pss_wp) ?_
  have d : DOk X.K W H L (kk.seqY X rest xr) { D with nx := fun σ' H' => wpSs X rest σ' H' D } := ⟨fun ρ' L' W' H' σ' st s' en' q => WY.go q W' H' σ' D Wx s' en' (d0.step st) tk (y.step st), d0.rt, d0.bk, d0.ct⟩
  refine wp_ps (ps_while hp pt_wp pss_wp) ?_
  refine ⟨fun m σ' H' => ∃ ρ' L' W', Step W L H W' L' H' ∧ SR X.K W' H' L' ∧ EnvR X.K W' H' ρ' σ' ∧ Wd m ρ' L', ⟨m0, r, L, W, .refl, s, en, h0⟩, ?_⟩
  rintro m σ' H' ⟨ρ', L', W', st2, s2, en2, hw⟩
  obtain ⟨z, L2, hc, hT, hF⟩ := ht m ρ' L' hw
  refine hc W' H' σ' _ s2 en2 fun W3 H3 st3 s3 => ?_
  have st13 := st2.trans st3
  cases z with
  | true =>
    rw [if_pos rfl]
    refine ⟨fun σ4 H4 => ∃ m', m' < m ∧ ∃ ρ4 L4 W4, Step W L H W4 L4 H4 ∧ SR X.K W4 H4 L4 ∧ EnvR X.K W4 H4 ρ4 σ4 ∧ Wd m' ρ4 L4, fun σ4 H4 ⟨m', h1, q⟩ => ⟨m', h1, q⟩, ?_⟩
    exact (hT rfl).go W3 H3 σ' _ Wx s3 (en2.step st3 s2) ⟨fun ρ5 L5 W5 H5 σ5 a b c ⟨m', h1, q⟩ => ⟨m', h1, ρ5, L5, W5, st13.trans a, b, c, q⟩, fun r L5 W5 H5 x a b c q => d.rt r L5 W5 H5 x (st13.trans a) b (c.back st13.dom) q,
      fun ρ5 L5 W5 H5 σ5 a b c q => d.nx ρ5 L5 W5 H5 σ5 (st13.trans a) b c q, fun ρ5 L5 W5 H5 σ5 a b c ⟨m', h1, q⟩ => ⟨m', h1, ρ5, L5, W5, st13.trans a, b, c, q⟩⟩ tk (y.step st13)
  | false =>
    rw [if_neg Bool.false_ne_true]
    exact d.nx _ _ W3 H3 σ' st13 s3 (en2.step st3 s2) (hF rfl)
theorem whileL_succ {cm : σ → Option Bool} {bm : σ → Fl σ ρ} {n : Nat} {s : σ} : whileL cm bm (n + 1) s = (match cm s with
    | none => .bad
    | some false => .nx s
    | some true => match bm s with | .nx s' => whileL cm bm n s' | .bk s' => .nx s' | .rt r => .rt r | .er e => .er e | .bad => .bad) := rfl
theorem wb_while {cm : σ' → Option Bool} {bm : σ' → Fl σ' ρ} {s0 : σ'} {kont : σ' → Fl σ ρ} {fuel : Nat} (po : PassesOwn (model X.prog X.w) X.A X.env X.xe) (E : σ' → TEnv) (S : σ' → Store) (h0 : Sub (E s0) r) (hS : L = S s0)
    (hc : ∀ s z, cm s = some z → EvB X c (E s) (S s) z (S s)) (hb : ∀ s, cm s = some true → WB X (F.loop E S) [body] (E s) (S s) (bm s))
    (hd : ∀ s, WB X F (rest :: bs) (E s) (S s) (kont s)) : WB X F ((.While c body [] pos :: rest) :: bs) r L (bdL (whileL cm bm fuel s0) kont) := by
  refine ⟨fun ho => ?_⟩
  refine wy_while po (fun n r' L' => ∃ s, whileL cm bm fuel s0 = whileL cm bm n s ∧ Sub (E s) r' ∧ L' = S s) fuel ⟨s0, rfl, h0, hS⟩ ?_
  rintro n r' L' ⟨s, hq, hsub, rfl⟩
  cases n with
  | zero => exfalso; rw [hq] at ho; exact ho rfl
  | succ n =>
    rw [whileL_succ] at hq
    cases hz : cm s with
    | none => exfalso; rw [hz] at hq; rw [hq] at ho; exact ho rfl
    | some z =>
      have hcz := hc s z hz
      refine ⟨z, S s, ⟨fun W H σ Q sr en q => hcz W H σ Q sr (hsub.env en) q⟩, fun e => ?_, fun e => ?_⟩
      · subst e
        rw [hz] at hq
        have hnb : bm s ≠ .bad := fun hbad => by simp only [hbad] at hq; rw [hq] at ho; exact ho rfl
        refine wy_sub hsub (wy_imp ((hb s hz).go hnb) ?_ ?_ ?_ ?_ ?_)
        · intro r2 L2 q
          rcases q hnb with ⟨s2, e2, q⟩ | ⟨hf, _⟩
          · simp only [e2] at hq; exact ⟨n, Nat.lt_succ_self n, s2, hq, q⟩
          · exact hf.elim
        · rintro z L2 ⟨v, e2, q⟩
          simp only [e2] at hq
          exact ⟨v, by rw [hq]; rfl, q⟩
        · rintro r2 L2 ⟨_, s2, e2, q1, rfl⟩
          simp only [e2] at hq
          have h3 := (hd s2).go
          have eo : bdL (whileL cm bm fuel s0) kont = kont s2 := by rw [hq]; rfl
          rw [eo] at ho ⊢
          exact wy_sub q1 (h3 ho)
        · rintro r2 L2 ⟨_, s2, e2, q⟩
          simp only [e2] at hq; exact ⟨n, Nat.lt_succ_self n, s2, hq, q⟩
        · rintro C fl r2 L2 ⟨q0, e2, q⟩
          simp only [e2] at hq
          exact ⟨q0, by rw [hq]; rfl, q⟩
      · subst e
        rw [hz] at hq
        have h3 := (hd s).go
        have eo : bdL (whileL cm bm fuel s0) kont = kont s := by rw [hq]; rfl
        rw [eo] at ho ⊢
        exact wy_sub hsub (h3 ho)

/-! the frame of a def -/
def fnF (K : PySem.W.Frag) (L0 : Store) (fin : ρ → R × Store) (xst : Store) : Fm Unit ρ where
  nx := fun _ _ _ => False
  fn := True
  lp := True
  ret := fun v r1 L1 => Exit L0 r1 L1 (fin v).1 (fin v).2
  cls := He.ga K
  ex := fun _ _ L1 => ∀ n t, xst n = some t → L1 n = some t
theorem ws_of_wy {kk : TK} {xr : XR} (h : WY X ss r L kk xr) (hx : ∀ C fl r L, ¬ xr C fl r L) : WS X ss r L kk := by
  have tkF : L2N.Takes X (fun _ _ _ _ => False) := fun u s' ⟨_, _, _, _, _, _, _, _, _, _, _, _, _, _, _, _, q⟩ => q.elim
  exact ⟨fun W H σ D s en d => h.go W H σ D (fun _ _ _ _ => False) s en d tkF ⟨fun C fs ρ' L' _ _ _ _ _ _ _ _ _ _ _ hq => (hx C fs ρ' L' hq).elim⟩⟩
theorem WB.ws {fin : ρ → R × Store} {xst L0 : Store} {v : ρ} (h : WB X (fnF K L0 fin xst) [ss] r L (.rt v)) : WS X ss r L (fnK L0 (fin v).1 (fin v).2) := by
  have hb : (Fl.rt v : Fl Unit ρ) ≠ .bad := fun z => by cases z
  refine ws_of_wy (xr := fun _ _ _ _ => False) (wy_imp (h.go hb) ?_ ?_ ?_ ?_ ?_) fun _ _ _ _ z => z
  · intro r2 L2 q
    rcases q hb with ⟨_, e, _⟩ | ⟨_, v2, e, q⟩
    · cases e
    · cases e; exact q
  · rintro z L2 ⟨v2, e, q⟩; cases e; exact q
  · rintro r2 L2 ⟨_, _, e, _⟩; cases e
  · rintro r2 L2 ⟨_, _, e, _⟩; cases e
  · rintro C fl r2 L2 ⟨_, e, _⟩; cases e
theorem WB.wx {fin : ρ → R × Store} {xst L0 : Store} {q : Exc} (h : WB X (fnF K L0 fin xst) [ss] r L (.er q)) : WY X ss r L noK (xrK L0 (He.ga K q.cls) q.fl xst) := by
  have hb : (Fl.er q : Fl Unit ρ) ≠ .bad := fun z => by cases z
  refine wy_imp (h.go hb) ?_ ?_ ?_ ?_ ?_
  · intro r2 L2 z
    rcases z hb with ⟨_, e, _⟩ | ⟨_, v2, e, _⟩ <;> cases e
  · rintro z L2 ⟨v2, e, _⟩; cases e
  · rintro r2 L2 ⟨_, _, e, _⟩; cases e
  · rintro r2 L2 ⟨_, _, e, _⟩; cases e
  · rintro C fl r2 L2 ⟨q2, e, h1, h2, h3⟩
    cases e
    exact ⟨h1, h2, h3⟩
/-! calls that may raise, as statements -/
abbrev exF (F : Fm σ ρ) (q : Exc) : XR := fun C fl r' L' => C = F.cls q.cls ∧ fl = q.fl ∧ F.ex q r' L'
theorem wy_er {ss : List Stmt} {kk : TK} {q : Exc} (h : WY X ss r L kk (exF F q)) : WY X ss r L kk (F.xr (.er q)) := wy_imp h (fun _ _ q => q) (fun _ _ q => q) (fun _ _ q => q) (fun _ _ q => q) (fun C fl r2 L2 ⟨h1, h2, h3⟩ => ⟨q, rfl, h1, h2, h3⟩)
theorem wb_setF {em : α → T} {o : Rs α} {kf : α → Fl σ ρ} {Lf : α → Store} (ct : Cq cm CX P w K mg base k N sc fs X) (n : Nat) (he : ∀ y, o = .rt y → Ev X e r L (.v (em y)) (Lf y)) (hq : ∀ q, o = .er q → EvY X e r L (exF F q)) (h : ∀ y, o = .rt y → WB X F (rest :: bs) (r.set n (some (em y))) (Lf y) (kf y))
    (hx : locOk N sc fs n x = true := by decide +kernel) (hs : swapsWith e (some (.Name x p')) pos.line X.env = pure false := by rfl) : WB X F ((.Assign [.Name x p'] e pos :: rest) :: bs) r L (bdF o kf) := by
  match o, he, hq, h with
  | .rt v, he, _, h => exact wb1 fun _ => wset ct n (he v rfl) (ws_nil (h v rfl)) hx hs
  | .er q, _, hq, _ => exact ⟨fun _ => wy_er (wy_set ct n (hq q rfl) hx hs)⟩
  | .nx _, _, _, _ => exact .bad
  | .bk _, _, _, _ => exact .bad
  | .bad, _, _, _ => exact .bad
theorem wb_setFC {em : α → T} {o : Rs α} {kf : α → Fl σ ρ} {Lf : α → Store} (ct : Cq cm CX P w K mg base k N sc fs X) (n : Nat) (he : ∀ y, o = .rt y → Ev X e r L (.n (em y)) (Lf y)) (hq : ∀ q, o = .er q → EvY X e r L (exF F q)) (h : ∀ y, o = .rt y → ∀ m, Lf y m = none → WB X F (rest :: bs) (r.set n (some (.cel m))) (updS (Lf y) m (some (em y))) (kf y))
    (hx : locOk N sc fs n x = true := by decide +kernel) (hs : swapsWith e (some (.Name x p')) pos.line X.env = pure false := by rfl) : WB X F ((.Assign [.Name x p'] e pos :: rest) :: bs) r L (bdF o kf) := by
  match o, he, hq, h with
  | .rt v, he, _, h => exact wb1 fun _ => wsetC ct n (he v rfl) (fun m hm => ws_nil (h v rfl m hm)) hx hs
  | .er q, _, hq, _ => exact ⟨fun _ => wy_er (wy_set ct n (hq q rfl) hx hs)⟩
  | .nx _, _, _, _ => exact .bad
  | .bk _, _, _, _ => exact .bad
  | .bad, _, _, _ => exact .bad
theorem wb_exprF {o : Rs α} {kf : α → Fl σ ρ} {Lf : α → Store} {z : α → R} (he : ∀ y, o = .rt y → Ev X e r L (z y) (Lf y)) (hq : ∀ q, o = .er q → EvY X e r L (exF F q)) (h : ∀ y, o = .rt y → WB X F (rest :: bs) r (Lf y) (kf y))
    (hs : swapsWith e none pos.line X.env = pure false := by rfl) : WB X F ((.Expr e pos :: rest) :: bs) r L (bdF o kf) := by
  match o, he, hq, h with
  | .rt v, he, _, h => exact wb1 fun _ => ws_expr (he v rfl) (ws_nil (h v rfl)) hs
  | .er q, _, hq, _ => exact ⟨fun _ => wy_er (wy_expr (hq q rfl) hs)⟩
  | .nx _, _, _, _ => exact .bad
  | .bk _, _, _, _ => exact .bad
  | .bad, _, _, _ => exact .bad
theorem wb_retF {o : Rs α} {g : α → ρ} {Lf : α → Store} {z : α → R} (he : ∀ y, o = .rt y → Ev X e r L (z y) (Lf y)) (hq : ∀ q, o = .er q → EvY X e r L (exF F q)) (h : ∀ y, o = .rt y → F.ret (g y) (z y) (Lf y)) : WB X F ((.Return (some e) pos :: rest) :: bs) r L (bdF o fun y => .rt (g y)) := by
  match o, he, hq, h with
  | .rt v, he, _, h => exact wb_ret (he v rfl) (h v rfl)
  | .er q, _, hq, _ => exact ⟨fun _ => wy_er (wy_ret (hq q rfl))⟩
  | .nx _, _, _, _ => exact .bad
  | .bk _, _, _, _ => exact .bad
  | .bad, _, _, _ => exact .bad
end
end TL


/-! Models: typed values and their trees. -/
namespace TL
open PySem PySem.Spec PyProof.Rows L2
section
variable {α β γ δ : Type}
abbrev eL (e : α → T) (xs : List α) : T := .lst (xs.map e)
abbrev eV (e : α → T) (xs : List α) : T := .tup (xs.map e)
abbrev e1 (a : α → T) (q : α) : T := .tup [a q]
abbrev e2 (a : α → T) (b : β → T) (q : α × β) : T := .tup [a q.1, b q.2]
abbrev e3 (a : α → T) (b : β → T) (c : γ → T) (q : α × β × γ) : T := .tup [a q.1, b q.2.1, c q.2.2]
abbrev e4 (a : α → T) (b : β → T) (c : γ → T) (d : δ → T) (q : α × β × γ × δ) : T := .tup [a q.1, b q.2.1, c q.2.2.1, d q.2.2.2]
def eO (e : α → T) : Option α → T
  | none => N0
  | some v => e v
abbrev eU (_ : Unit) : T := N0
abbrev eI : Int → T := I
abbrev eD (e : α → T) (xs : List (Int × α)) : T := .dK (xs.map fun q => Sum.inl q.1) (xs.map fun q => e q.2)
abbrev eDs (e : α → T) (xs : List (Str × α)) : T := .dK (xs.map fun q => Sum.inr q.1) (xs.map fun q => e q.2)
/-- moves -/
inductive Mv where
  | st (n : Int)
  | br (p : Int)
  | inn
  deriving DecidableEq
def Mv.tag : Mv → Str
  | .st _ => "street"
  | .br _ => "broad"
  | .inn => "inn"
def eM : Mv → T
  | .st n => .tup [S "street", I n]
  | .br p => .tup [S "broad", I p]
  | .inn => .tup [S "inn"]
structure Dt (e : α → T) (k : Nat) : Prop where
  ex : ∃ d : α → PyData, (∀ a, Sh (e a) (d a) k) ∧ ∀ a b, PyData.eqv (d a) (d b) = true ↔ a = b
theorem Dt.shp {e : α → T} {k : Nat} (h : Dt e k) (a : α) (hk : k ≤ 64 := by decide) : TL.shp (e a) = true := by
  obtain ⟨d, h1, _⟩ := h.ex
  exact (h1 a).shp hk
theorem Dt.eq [DecidableEq α] {e : α → T} {k : Nat} (h : Dt e k) (a b : α) : eqT (e a) (e b) = decide (a = b) := by
  obtain ⟨d, h1, h2⟩ := h.ex
  rw [(h1 a).eqT (h1 b)]
  by_cases hab : a = b
  · rw [decide_eq_true hab]; exact (h2 a b).mpr hab
  · rw [decide_eq_false hab]
    cases q : PyData.eqv (d a) (d b) with
    | false => rfl
    | true => exact absurd ((h2 a b).mp q) hab
theorem dtI : Dt I 0 := ⟨_, sh_I, fun a b => by rw [eqv_int]; simp⟩
theorem dtB : Dt B 0 := ⟨_, sh_B, fun a b => by simp [PyData.eqv]⟩
theorem eqvAll_iff {d : α → PyData} (h : ∀ a b, PyData.eqv (d a) (d b) = true ↔ a = b) : ∀ l m : List α, PyData.eqvAll (l.map d) (m.map d) = true ↔ l = m
  | [], [] => by simp [PyData.eqvAll]
  | [], _ :: _ => by simp [PyData.eqvAll]
  | _ :: _, [] => by simp [PyData.eqvAll]
  | a :: l, b :: m => by
    rw [List.map_cons, List.map_cons, PyData.eqvAll, Bool.and_eq_true, h, eqvAll_iff h l m]
    simp
theorem Dt.lst {e : α → T} {k : Nat} (h : Dt e k) : Dt (eL e) (k + 1) := by
  obtain ⟨d, h1, h2⟩ := h.ex
  exact ⟨fun l => .list (l.map d), fun l => sh_lst (shl_map h1 l), fun l m => by rw [PyData.eqv]; exact eqvAll_iff h2 l m⟩
theorem Dt.vec {e : α → T} {k : Nat} (h : Dt e k) : Dt (eV e) (k + 1) := by
  obtain ⟨d, h1, h2⟩ := h.ex
  exact ⟨fun l => .tuple (l.map d), fun l => sh_tup (shl_map h1 l), fun l m => by rw [PyData.eqv]; exact eqvAll_iff h2 l m⟩
theorem Sh.mono {t : T} {d : PyData} {k k' : Nat} (h : Sh t d k) (hk : k ≤ k') : Sh t d k' := ⟨h.e, h.c, Nat.le_trans h.z hk⟩
theorem Dt.mono {e : α → T} {k k' : Nat} (h : Dt e k) (hk : k ≤ k' := by decide) : Dt e k' := by
  obtain ⟨d, h1, h2⟩ := h.ex
  exact ⟨d, fun a => (h1 a).mono hk, h2⟩
theorem Dt.t1 {e : α → T} {k : Nat} (h : Dt e k) : Dt (e1 e) (k + 1) := by
  obtain ⟨d, h1, h2⟩ := h.ex
  exact ⟨fun a => .tuple [d a], fun a => sh_tup (shl_cons (h1 a) shl_nil (Nat.le_refl _)), fun a b => by simp [PyData.eqv, PyData.eqvAll, h2]⟩
theorem Dt.t2 {e : α → T} {f : β → T} {k l m : Nat} (h : Dt e k) (g : Dt f l) (hk : k ≤ m := by decide) (hl : l ≤ m := by decide) : Dt (e2 e f) (m + 1) := by
  obtain ⟨d, h1, h2⟩ := h.ex
  obtain ⟨d', g1, g2⟩ := g.ex
  exact ⟨fun a => .tuple [d a.1, d' a.2], fun a => sh_tup (shl_cons (h1 a.1) (shl_cons (g1 a.2) shl_nil hl) hk), fun a b => by
    obtain ⟨a1, a2⟩ := a
    obtain ⟨b1, b2⟩ := b
    simp [PyData.eqv, PyData.eqvAll, h2, g2]⟩
theorem Dt.t3 {e : α → T} {f : β → T} {g : γ → T} {k l n m : Nat} (h : Dt e k) (h' : Dt f l) (h'' : Dt g n) (hk : k ≤ m := by decide) (hl : l ≤ m := by decide) (hn : n ≤ m := by decide) : Dt (e3 e f g) (m + 1) := by
  obtain ⟨d, h1, h2⟩ := h.ex
  obtain ⟨d', g1, g2⟩ := h'.ex
  obtain ⟨d'', f1, f2⟩ := h''.ex
  exact ⟨fun a => .tuple [d a.1, d' a.2.1, d'' a.2.2], fun a => sh_tup (shl_cons (h1 a.1) (shl_cons (g1 a.2.1) (shl_cons (f1 a.2.2) shl_nil hn) hl) hk), fun a b => by
    obtain ⟨a1, a2, a3⟩ := a
    obtain ⟨b1, b2, b3⟩ := b
    simp [PyData.eqv, PyData.eqvAll, h2, g2, f2]⟩
theorem dtO {e : α → T} {k : Nat} (h : Dt e k) (hn : ∀ a, TL.eqT N0 (e a) = false ∧ TL.eqT (e a) N0 = false) : Dt (eO e) k := by
  obtain ⟨d, h1, h2⟩ := h.ex
  refine ⟨fun o => match o with | none => .none | some a => d a, fun o => ?_, fun a b => ?_⟩
  · cases o with
    | none => exact sh_N.mono (Nat.zero_le _)
    | some a => exact h1 a
  · cases a with
    | none =>
      cases b with
      | none => simp [PyData.eqv]
      | some b =>
        have := (hn b).1
        rw [sh_N.eqT (h1 b)] at this
        simp [this]
    | some a =>
      cases b with
      | none =>
        have := (hn a).2
        rw [(h1 a).eqT sh_N] at this
        simp [this]
      | some b => simp [h2]
theorem dtOI : Dt (eO I) 0 := dtO dtI fun a => ⟨by rw [sh_N.eqT (sh_I a)]; simp [PyData.eqv], by rw [(sh_I a).eqT sh_N]; simp [PyData.eqv]⟩
theorem dtLane : Dt tLane 1 := ⟨_, sh_lane, fun a b => by
  obtain ⟨a1, a2, a3, a4⟩ := a
  obtain ⟨b1, b2, b3, b4⟩ := b
  simp [dLane, PyData.eqv, PyData.eqvAll]⟩
def Mv.d : Mv → PyData
  | .st n => .tuple [.str "street", .int n]
  | .br n => .tuple [.str "broad", .int n]
  | .inn => .tuple [.str "inn"]
theorem sh_S0 (x : Str) (h : (PyData.str x).canLay0 = true) : Sh (S x) (.str x) 0 := ⟨by unfold pd pdV; rfl, h, Nat.zero_le _⟩
theorem dtM : Dt eM 1 := ⟨Mv.d, fun a => by
  cases a with
  | st n => exact sh_tup (shl_cons (sh_S0 "street" (by decide +kernel)) (shl_cons (sh_I n) shl_nil))
  | br n => exact sh_tup (shl_cons (sh_S0 "broad" (by decide +kernel)) (shl_cons (sh_I n) shl_nil))
  | inn => exact sh_tup (shl_cons (sh_S0 "inn" (by decide +kernel)) shl_nil), fun a b => by
    cases a <;> cases b <;> simp [Mv.d, PyData.eqv, PyData.eqvAll] <;> exact fun h => absurd h (by decide)⟩
def memB [DecidableEq α] (y : α) (zs : List α) : Bool := decide (y ∈ zs)
theorem memB_iff [DecidableEq α] {y : α} {zs : List α} : memB y zs = true ↔ y ∈ zs := decide_eq_true_iff
theorem inT_dt [DecidableEq α] {e : α → T} {k : Nat} (h : Dt e k) (a : α) (l : List α) : inT (e a) (.lst (l.map e)) = memB a l := inT_map h.eq a l
theorem inT_dtV [DecidableEq α] {e : α → T} {k : Nat} (h : Dt e k) (a : α) (l : List α) : inT (e a) (.tup (l.map e)) = memB a l := inT_mapT h.eq a l
theorem atI_mapO {f : α → β} {l : List α} {i : Int} : atI (l.map f) i = (atI l i).map f := by
  unfold atI
  rw [List.length_map]
  cases ixN l.length i with
  | none => rfl
  | some j => simp
theorem atI_some {f : α → β} {l : List α} {i : Int} {a : α} (h : atI l i = some a) : atI (l.map f) i = some (f a) := by rw [atI_mapO, h]; rfl
theorem isN_O {e : α → T} (h : ∀ a, isN (e a) = false) : ∀ o : Option α, isN (eO e o) = o.isNone
  | none => by simp [eO, isN]
  | some a => h a
/-! of dynamic trees -/
def asI : T → Option Int
  | .v (.int i) => some i
  | _ => none
def asB : T → Option Bool
  | .v (.bl b) => some b
  | _ => none
def asS : T → Option Str
  | .v (.str b) => some b
  | _ => none
def asTup : T → Option (List T)
  | .tup ts => some ts
  | _ => none
def asLst : T → Option (List T)
  | .lst ts => some ts
  | _ => none
theorem asI_ok {t : T} {i : Int} (h : asI t = some i) : t = I i := by
  unfold asI at h
  split at h
  · cases h; rfl
  · cases h
theorem asB_ok {t : T} {i : Bool} (h : asB t = some i) : t = B i := by
  unfold asB at h
  split at h
  · cases h; rfl
  · cases h
theorem asS_ok {t : T} {i : Str} (h : asS t = some i) : t = S i := by
  unfold asS at h
  split at h
  · cases h; rfl
  · cases h
theorem asTup_ok {t : T} {i : List T} (h : asTup t = some i) : t = .tup i := by
  unfold asTup at h
  split at h
  · cases h; rfl
  · cases h
theorem asLst_ok {t : T} {i : List T} (h : asLst t = some i) : t = .lst i := by
  unfold asLst at h
  split at h
  · cases h; rfl
  · cases h
def tup2 : T → Option (T × T)
  | .tup [a, b] => some (a, b)
  | _ => none
theorem tup2_ok {t : T} {q : T × T} (h : tup2 t = some q) : t = .tup [q.1, q.2] := by
  unfold tup2 at h
  split at h
  · cases h; rfl
  · cases h
/-! comprehensions -/
def lcO (c : α → Option Bool) (g : α → Option β) : List α → Option (List β)
  | [] => some []
  | x :: xs => obd (c x) fun b => match b with
    | false => lcO c g xs
    | true => obd (g x) fun v => obd (lcO c g xs) fun vs => some (v :: vs)
theorem lcO_all {c : α → Option Bool} {g : α → Option β} : ∀ {xs : List α} {vs : List β}, lcO c g xs = some vs → (∀ x ∈ xs, ∃ b, c x = some b ∧ (b = true → ∃ v, g x = some v)) ∧ ∀ eb : β → T, ((xs.filter fun x => (c x).getD false).map fun x => match g x with | some v => eb v | none => N0) = vs.map eb
  | [], vs, h => by
    unfold lcO at h; cases h
    exact ⟨fun x h => (by cases h), fun _ => rfl⟩
  | x :: xs, vs, h => by
    unfold lcO at h
    refine obd_ok h fun b e h => ?_
    cases b with
    | false =>
      obtain ⟨h1, h2⟩ := lcO_all h
      refine ⟨fun y hy => ?_, fun eb => ?_⟩
      · rcases List.mem_cons.mp hy with rfl | hy
        · exact ⟨false, e, fun z => nomatch z⟩
        · exact h1 y hy
      · rw [List.filter_cons, e]; exact h2 eb
    | true =>
      refine obd_ok h fun v ev h => ?_
      refine obd_ok h fun ws ew h => ?_
      cases h
      obtain ⟨h1, h2⟩ := lcO_all ew
      refine ⟨fun y hy => ?_, fun eb => ?_⟩
      · rcases List.mem_cons.mp hy with rfl | hy
        · exact ⟨true, e, fun _ => ⟨v, ev⟩⟩
        · exact h1 y hy
      · rw [List.filter_cons, e]
        show List.map _ (x :: _) = _
        rw [List.map_cons, ev, List.map_cons, h2 eb]
def mapO (g : α → Option β) : List α → Option (List β)
  | [] => some []
  | x :: xs => obd (g x) fun v => obd (mapO g xs) fun vs => some (v :: vs)
theorem mapO_all {g : α → Option β} : ∀ {xs : List α} {vs : List β}, mapO g xs = some vs → (∀ x ∈ xs, ∃ v, g x = some v) ∧ ∀ eb : β → T, (xs.map fun x => match g x with | some v => eb v | none => N0) = vs.map eb
  | [], vs, h => by
    unfold mapO at h; cases h
    exact ⟨fun x h => (by cases h), fun _ => rfl⟩
  | x :: xs, vs, h => by
    unfold mapO at h
    refine obd_ok h fun v ev h => ?_
    refine obd_ok h fun ws ew h => ?_
    cases h
    obtain ⟨h1, h2⟩ := mapO_all ew
    refine ⟨fun y hy => ?_, fun eb => ?_⟩
    · rcases List.mem_cons.mp hy with rfl | hy
      · exact ⟨v, ev⟩
      · exact h1 y hy
    · rw [List.map_cons, ev, List.map_cons, h2 eb]
end
section
variable {cm : Bool} {CX : CXT} {P : Program} {w : World} {K : PySem.W.Frag} {mg : Str → Option Value} {base : Heap} {k : Nat} {N : List Str} {sc : Scope} {fs : Str → Bool} {X : Cx}
variable {e a b c tg iter elt : Expr} {es ifs : List Expr} {r r1 ρ : TEnv} {L L1 Lb Lc : Store} {t u : T} {ts us : List T} {pos p p' : Pos} {i j : Int} {x : Str}
variable {α β : Type} {ea : α → T} {eb : β → T} {xs : List α} {kd : Nat}
theorem Ev.st {z : R} (h : Ev X e r L z L1) (h1 : L = Lb) (h2 : L1 = Lc) : Ev X e r Lb z Lc := h1 ▸ h2 ▸ h
theorem EvB.st {z : Bool} (h : EvB X e r L z L1) (h1 : L = Lb) (h2 : L1 = Lc) : EvB X e r Lb z Lc := h1 ▸ h2 ▸ h
/-- typed comparisons -/
theorem tv_eq [DecidableEq α] {y z : α} (hd : Dt ea kd) (ct : Cq cm CX P w K mg base k N sc fs X) (ha : Ev X a r L (.v (ea y)) L1) (hb : Ev X b r L1 (.v (ea z)) Lb) (hk : kd ≤ 64 := by decide) : Ev X (.Compare a [.Eq] [b] pos) r L (.v (B (decide (y = z)))) Lb := hd.eq y z ▸ ev_eq ct ha hb (hd.shp y hk) (hd.shp z hk)
theorem tv_ne [DecidableEq α] {y z : α} (hd : Dt ea kd) (ct : Cq cm CX P w K mg base k N sc fs X) (ha : Ev X a r L (.v (ea y)) L1) (hb : Ev X b r L1 (.v (ea z)) Lb) (hk : kd ≤ 64 := by decide) : Ev X (.Compare a [.NotEq] [b] pos) r L (.v (B (!decide (y = z)))) Lb := hd.eq y z ▸ ev_ne ct ha hb (hd.shp y hk) (hd.shp z hk)
theorem tb_eq [DecidableEq α] {y z : α} (hd : Dt ea kd) (ct : Cq cm CX P w K mg base k N sc fs X) (ha : Ev X a r L (.v (ea y)) L1) (hb : Ev X b r L1 (.v (ea z)) Lb) (hk : kd ≤ 64 := by decide) : EvB X (.Compare a [.Eq] [b] pos) r L (decide (y = z)) Lb := hd.eq y z ▸ eb_eq ct ha hb (hd.shp y hk) (hd.shp z hk)
theorem tb_ne [DecidableEq α] {y z : α} (hd : Dt ea kd) (ct : Cq cm CX P w K mg base k N sc fs X) (ha : Ev X a r L (.v (ea y)) L1) (hb : Ev X b r L1 (.v (ea z)) Lb) (hk : kd ≤ 64 := by decide) : EvB X (.Compare a [.NotEq] [b] pos) r L (!decide (y = z)) Lb := hd.eq y z ▸ eb_ne ct ha hb (hd.shp y hk) (hd.shp z hk)
/-- x in a list: frozen, or a cell -/
theorem ot_inM (h1 : shp t = true) (h2 : shp (.lst ts) = true) (hm : LstM L u ts) : OpT K (rInD K) t u L (.v (B (inT t (.lst ts)))) := fun W H x y Q s r1 r2 q => by
  obtain ⟨d, e1, s1⟩ := shp_of h1
  obtain ⟨e, e2, s2⟩ := shp_of h2
  obtain ⟨ds, rfl, e3⟩ := pd_lst e2
  obtain ⟨a, vs, rfl, hl, rl⟩ := lst_m s r2 hm
  refine ⟨d, ds, dp_of t x d r1 e1, .lst (.inl (.inl hl)) (dpL_of ts _ ds rl e3), s1, s2, ?_⟩
  rw [any_pd e3 e1]
  exact q _ W H .refl s (.v _)
theorem ot_ninM (h1 : shp t = true) (h2 : shp (.lst ts) = true) (hm : LstM L u ts) : OpT K (rNotInD K) t u L (.v (B (!inT t (.lst ts)))) := fun W H x y Q s r1 r2 q => by
  obtain ⟨d, e1, s1⟩ := shp_of h1
  obtain ⟨e, e2, s2⟩ := shp_of h2
  obtain ⟨ds, rfl, e3⟩ := pd_lst e2
  obtain ⟨a, vs, rfl, hl, rl⟩ := lst_m s r2 hm
  refine ⟨d, ds, dp_of t x d r1 e1, .lst (.inl (.inl hl)) (dpL_of ts _ ds rl e3), s1, s2, ?_⟩
  rw [any_pd e3 e1]
  exact q _ W H .refl s (.v _)
theorem tv_in [DecidableEq α] {y : α} {zs : List α} (hd : Dt ea kd) (ct : Cq cm CX P w K mg base k N sc fs X) (ha : Ev X a r L (.v (ea y)) L1) (hb : Ev X b r L1 (.v u) Lb) (hm : LstM Lb u (zs.map ea)) (hk : kd + 1 ≤ 64 := by decide) (hq : behindInMarks .In b = false := by rfl) : Ev X (.Compare a [.In] [b] pos) r L (.v (B (memB y zs))) Lb :=
  inT_dt hd y zs ▸ ev_cmp (op_inD ct.u65) ha hb (ot_inM (hd.shp y (by omega)) (hd.lst.shp zs hk) hm) hq
theorem tv_nin [DecidableEq α] {y : α} {zs : List α} (hd : Dt ea kd) (ct : Cq cm CX P w K mg base k N sc fs X) (ha : Ev X a r L (.v (ea y)) L1) (hb : Ev X b r L1 (.v u) Lb) (hm : LstM Lb u (zs.map ea)) (hk : kd + 1 ≤ 64 := by decide) (hq : behindInMarks .NotIn b = false := by rfl) : Ev X (.Compare a [.NotIn] [b] pos) r L (.v (B (!memB y zs))) Lb :=
  inT_dt hd y zs ▸ ev_cmp (op_notInD ct.u65) ha hb (ot_ninM (hd.shp y (by omega)) (hd.lst.shp zs hk) hm) hq
theorem tb_in [DecidableEq α] {y : α} {zs : List α} (hd : Dt ea kd) (ct : Cq cm CX P w K mg base k N sc fs X) (ha : Ev X a r L (.v (ea y)) L1) (hb : Ev X b r L1 (.v u) Lb) (hm : LstM Lb u (zs.map ea)) (hk : kd + 1 ≤ 64 := by decide) (hq : behindInMarks .In b = false := by rfl) : EvB X (.Compare a [.In] [b] pos) r L (memB y zs) Lb :=
  inT_dt hd y zs ▸ eb_cmp (op_inD ct.u65) ha hb (ot_inM (hd.shp y (by omega)) (hd.lst.shp zs hk) hm) hq
theorem tb_nin [DecidableEq α] {y : α} {zs : List α} (hd : Dt ea kd) (ct : Cq cm CX P w K mg base k N sc fs X) (ha : Ev X a r L (.v (ea y)) L1) (hb : Ev X b r L1 (.v u) Lb) (hm : LstM Lb u (zs.map ea)) (hk : kd + 1 ≤ 64 := by decide) (hq : behindInMarks .NotIn b = false := by rfl) : EvB X (.Compare a [.NotIn] [b] pos) r L (!memB y zs) Lb :=
  inT_dt hd y zs ▸ eb_cmp (op_notInD ct.u65) ha hb (ot_ninM (hd.shp y (by omega)) (hd.lst.shp zs hk) hm) hq
theorem tv_inV [DecidableEq α] {y : α} {zs : List α} (hd : Dt ea kd) (ct : Cq cm CX P w K mg base k N sc fs X) (ha : Ev X a r L (.v (ea y)) L1) (hb : Ev X b r L1 (.v (eV ea zs)) Lb) (hk : kd + 1 ≤ 64 := by decide) (hq : behindInMarks .In b = false := by rfl) : Ev X (.Compare a [.In] [b] pos) r L (.v (B (memB y zs))) Lb :=
  inT_dtV hd y zs ▸ ev_inTt ct ha hb (hd.shp y (by omega)) (hd.vec.shp zs hk) hq
theorem tb_inV [DecidableEq α] {y : α} {zs : List α} (hd : Dt ea kd) (ct : Cq cm CX P w K mg base k N sc fs X) (ha : Ev X a r L (.v (ea y)) L1) (hb : Ev X b r L1 (.v (eV ea zs)) Lb) (hk : kd + 1 ≤ 64 := by decide) (hq : behindInMarks .In b = false := by rfl) : EvB X (.Compare a [.In] [b] pos) r L (memB y zs) Lb :=
  inT_dtV hd y zs ▸ eb_inTt ct ha hb (hd.shp y (by omega)) (hd.vec.shp zs hk) hq
/-- None -/
theorem tv_isN {o : Option α} (hn : ∀ a, isN (ea a) = false) (ha : Ev X a r L (.v (eO ea o)) L1) {j p} : Ev X (.Compare a [.Is] [.Constant .none j p] pos) r L (.v (B o.isNone)) L1 := isN_O hn o ▸ ev_isN ha
theorem tb_isN {o : Option α} (hn : ∀ a, isN (ea a) = false) (ha : Ev X a r L (.v (eO ea o)) L1) {j p} : EvB X (.Compare a [.Is] [.Constant .none j p] pos) r L o.isNone L1 := isN_O hn o ▸ eb_isN ha
theorem tv_notN {o : Option α} (hn : ∀ a, isN (ea a) = false) (ha : Ev X a r L (.v (eO ea o)) L1) {j p} : Ev X (.Compare a [.IsNot] [.Constant .none j p] pos) r L (.v (B (!o.isNone))) L1 := isN_O hn o ▸ ev_notN ha
theorem tb_notN {o : Option α} (hn : ∀ a, isN (ea a) = false) (ha : Ev X a r L (.v (eO ea o)) L1) {j p} : EvB X (.Compare a [.IsNot] [.Constant .none j p] pos) r L (!o.isNone) L1 := isN_O hn o ▸ eb_notN ha
/-- casts by what is known -/
theorem tv_some {o : Option α} {v : α} (h : o = some v) (ha : Ev X a r L (.v (eO ea o)) L1) : Ev X a r L (.v (ea v)) L1 := by subst h; exact ha
theorem tv_opt {v : α} (ha : Ev X a r L (.v (ea v)) L1) : Ev X a r L (.v (eO ea (some v))) L1 := ha
theorem tv_I {v : Int} (h : asI t = some v) (ha : Ev X a r L (.v t) L1) : Ev X a r L (.v (I v)) L1 := asI_ok h ▸ ha
theorem tv_B {v : Bool} (h : asB t = some v) (ha : Ev X a r L (.v t) L1) : Ev X a r L (.v (B v)) L1 := asB_ok h ▸ ha
theorem tv_S {v : Str} (h : asS t = some v) (ha : Ev X a r L (.v t) L1) : Ev X a r L (.v (S v)) L1 := asS_ok h ▸ ha
theorem tv_tup {v : List T} (h : asTup t = some v) (ha : Ev X a r L (.v t) L1) : Ev X a r L (.v (.tup v)) L1 := asTup_ok h ▸ ha
theorem tv_lst {v : List T} (h : asLst t = some v) (ha : Ev X a r L (.v t) L1) : Ev X a r L (.v (.lst v)) L1 := asLst_ok h ▸ ha
/-- an item -/
theorem tv_ix {y : α} (h : atI xs i = some y) (ha : Ev X a r L (.v t) L1) (hb : Ev X b r L1 (.v (I i)) Lb) (hl : LstT Lb t (xs.map ea)) (hs : PlainIx b := by exact fun _ _ => rfl) : Ev X (.Subscript a b pos) r L (.v (ea y)) Lb := ev_ixL ha hb hl (atI_some h) hs
theorem tv_ixV {y : α} (h : atI xs i = some y) (ha : Ev X a r L (.v (eV ea xs)) L1) (hb : Ev X b r L1 (.v (I i)) Lb) (hs : PlainIx b := by exact fun _ _ => rfl) : Ev X (.Subscript a b pos) r L (.v (ea y)) Lb := ev_ixT ha hb (atI_some h) hs
theorem tv_cut {lo hi : Option Expr} {l h : Option Int} {p2 : Pos} (ha : Ev X a r L (.v t) L1) (hl : LstT L1 t (xs.map ea)) (h1 : EvO X lo r L1 l) (h2 : EvO X hi r L1 h) : Ev X (.Subscript a (.Slice lo hi none p2) pos) r L (.n (eL ea (cutT xs l h))) L1 := by
  have := ev_cutL (pos := pos) (p2 := p2) ha hl h1 h2
  rwa [cutT_map] at this
theorem tv_cat {ys : List α} (ha : Ev X a r L (.v t) L1) (hb : Ev X b r L1 (.v u) Lb) (h1 : LstM Lb t (xs.map ea)) (h2 : LstM Lb u (ys.map ea)) (hz : xs.length + ys.length ≤ 100000) : Ev X (.BinOp a .Add b pos) r L (.n (eL ea (xs ++ ys))) Lb := by
  have := ev_cat (pos := pos) ha hb h1 h2 (by rw [List.length_map, List.length_map]; exact hz)
  rwa [← List.map_append] at this
theorem rep_map {n : Nat} : (List.replicate n (xs.map ea)).flatten = (List.replicate n xs).flatten.map ea := by
  induction n with
  | zero => rfl
  | succ n ih => rw [List.replicate_succ, List.replicate_succ, List.flatten_cons, List.flatten_cons, List.map_append, ih]
theorem tv_rep (ha : Ev X a r L (.v t) L1) (hb : Ev X b r L1 (.v (I i)) Lb) (h1 : LstM Lb t (xs.map ea)) (h2 : -(2 ^ 63) ≤ i ∧ i < 2 ^ 63 ∧ xs.length * i.toNat ≤ 100000) : Ev X (.BinOp a .Mult b pos) r L (.n (eL ea (List.replicate i.toNat xs).flatten)) Lb := by
  have := ev_rep (pos := pos) ha hb h1 h2.1 h2.2.1 (by rw [List.length_map]; exact h2.2.2)
  rwa [rep_map] at this
theorem tv_rev {p2 : Pos} {j p3 p4} (ha : Ev X a r L (.v t) L1) (hl : LstT L1 t (xs.map ea)) : Ev X (.Subscript a (.Slice none none (some (.UnaryOp .USub (.Constant (.int 1) j p3) p4)) p2) pos) r L (.n (eL ea xs.reverse)) L1 := by
  have := ev_rev (pos := pos) (p2 := p2) (j := j) (p3 := p3) (p4 := p4) ha hl
  rwa [← List.map_reverse] at this
/-- comprehensions -/
structure LcM (X : Cx) (tg iter elt : Expr) (ifs : List Expr) (scope : Scope) (own : List (Str × Nat)) (ρ : TEnv) (L : Store) (ts : List T) (L1 : Store) : Prop where
  ex : ∃ (xs : List T) (Lf : Nat → Store) (pf : Nat → Bool) (gf : Nat → T), EvI X tg iter ρ L xs (Lf 0) ∧ LcT X tg elt ifs scope (own.map (·.2)) ρ xs Lf pf gf ∧ made pf gf xs.length = ts ∧ Lf xs.length = L1
theorem LcM.ev {scope : Scope} {own : List (Str × Nat)} (ct : Cq true CX P w K mg base k N sc fs X) (h : LcM X tg iter elt ifs scope own ρ L ts L1) (ok : blkC N sc scope own = true := by decide +kernel) (hs : ∀ x, foldedSetIterable iter X.env x = pure x := by intro _; rfl) : Ev X (.ListComp elt [⟨tg, iter, ifs, 0⟩] scope pos) ρ L (.n (.lst ts)) L1 := by
  obtain ⟨xs, Lf, pf, gf, h1, h2, rfl, rfl⟩ := h.ex
  exact ev_lc ct ok h1 h2 hs
theorem lcm_p {scope : Scope} {own : List (Str × Nat)} {js : List Nat} {pf : α → Bool} {gf : α → T} {ρf : α → TEnv} (ct : Cq true CX P w K mg base k N sc fs X) (hi : EvI X tg iter ρ L (xs.map ea) L1) (hz : xs.length ≤ 100000)
    (ht : ∀ x ∈ xs, ∀ Y, Bk CX P w K mg base k N sc scope Y → TgT Y tg js (ea x) (wipeT ρ (own.map (·.2))) (ρf x) L1)
    (hc : ∀ x ∈ xs, ∀ Y, Bk CX P w K mg base k N sc scope Y → EvC Y ifs (ρf x) L1 (pf x) L1) (he : ∀ x ∈ xs, pf x = true → ∀ Y, Bk CX P w K mg base k N sc scope Y → Ev Y elt (ρf x) L1 (.v (gf x)) L1)
    (hk : scope.kind = .function) (hjs : ∀ j ∈ js, j ∈ own.map (·.2)) : LcM X tg iter elt ifs scope own ρ L ((xs.filter pf).map gf) L1 :=
  ⟨_, _, _, _, hi, lcP (f := ea) (pf := pf) (gf := gf) ct hk hz hjs ht hc he, by rw [List.length_map, made_map xs ea pf gf (fun _ => True)], rfl⟩
theorem tv_lc {scope : Scope} {own : List (Str × Nat)} {js : List Nat} {pf : α → Bool} {gf : α → β} {ρf : α → TEnv} (ct : Cq true CX P w K mg base k N sc fs X) (hi : EvI X tg iter ρ L (xs.map ea) L1) (hz : xs.length ≤ 100000)
    (ht : ∀ x ∈ xs, ∀ Y, Bk CX P w K mg base k N sc scope Y → TgT Y tg js (ea x) (wipeT ρ (own.map (·.2))) (ρf x) L1)
    (hc : ∀ x ∈ xs, ∀ Y, Bk CX P w K mg base k N sc scope Y → EvC Y ifs (ρf x) L1 (pf x) L1) (he : ∀ x ∈ xs, pf x = true → ∀ Y, Bk CX P w K mg base k N sc scope Y → Ev Y elt (ρf x) L1 (.v (eb (gf x))) L1)
    (hk : scope.kind = .function := by rfl) (hjs : ∀ j ∈ js, j ∈ own.map (·.2) := by decide) : LcM X tg iter elt ifs scope own ρ L (((xs.filter pf).map gf).map eb) L1 := by
  have := lcm_p (gf := fun x => eb (gf x)) ct hi hz ht hc he hk hjs
  have e2 : ((xs.filter pf).map fun x => eb (gf x)) = ((xs.filter pf).map gf).map eb := by rw [List.map_map]; rfl
  rw [e2] at this
  exact this
theorem tv_lc0 {scope : Scope} {own : List (Str × Nat)} {js : List Nat} {gf : α → β} {ρf : α → TEnv} (ct : Cq true CX P w K mg base k N sc fs X) (hi : EvI X tg iter ρ L (xs.map ea) L1) (hz : xs.length ≤ 100000)
    (ht : ∀ x ∈ xs, ∀ Y, Bk CX P w K mg base k N sc scope Y → TgT Y tg js (ea x) (wipeT ρ (own.map (·.2))) (ρf x) L1)
    (he : ∀ x ∈ xs, ∀ Y, Bk CX P w K mg base k N sc scope Y → Ev Y elt (ρf x) L1 (.v (eb (gf x))) L1)
    (hk : scope.kind = .function := by rfl) (hjs : ∀ j ∈ js, j ∈ own.map (·.2) := by decide) : LcM X tg iter elt [] scope own ρ L ((xs.map gf).map eb) L1 := by
  have := tv_lc (pf := fun _ => true) (gf := gf) (eb := eb) (ifs := []) ct hi hz ht (fun _ _ _ _ => ec_nil) (fun x hx _ => he x hx) hk hjs
  rw [List.filter_eq_self.mpr (fun _ _ => rfl)] at this
  exact this
theorem tv_lcO {scope : Scope} {own : List (Str × Nat)} {js : List Nat} {cf : α → Option Bool} {gf : α → Option β} {vs : List β} {ρf : α → TEnv} (h : lcO cf gf xs = some vs) (ct : Cq true CX P w K mg base k N sc fs X) (hi : EvI X tg iter ρ L (xs.map ea) L1) (hz : xs.length ≤ 100000)
    (ht : ∀ x ∈ xs, ∀ Y, Bk CX P w K mg base k N sc scope Y → TgT Y tg js (ea x) (wipeT ρ (own.map (·.2))) (ρf x) L1)
    (hc : ∀ x ∈ xs, ∀ z, cf x = some z → ∀ Y, Bk CX P w K mg base k N sc scope Y → EvC Y ifs (ρf x) L1 z L1) (he : ∀ x ∈ xs, ∀ v, cf x = some true → gf x = some v → ∀ Y, Bk CX P w K mg base k N sc scope Y → Ev Y elt (ρf x) L1 (.v (eb v)) L1)
    (hk : scope.kind = .function := by rfl) (hjs : ∀ j ∈ js, j ∈ own.map (·.2) := by decide) : LcM X tg iter elt ifs scope own ρ L (vs.map eb) L1 := by
  obtain ⟨h1, h2⟩ := lcO_all h
  have := lcm_p (pf := fun x => (cf x).getD false) (gf := fun x => match gf x with | some v => eb v | none => N0) ct hi hz ht (fun x hx Y hY => by
    obtain ⟨z, ez, _⟩ := h1 x hx
    rw [ez]; exact hc x hx z ez Y hY) (fun x hx hp Y hY => by
    obtain ⟨z, ez, hv⟩ := h1 x hx
    rw [ez] at hp
    have hp : z = true := hp
    subst hp
    obtain ⟨v, ev⟩ := hv rfl
    rw [ev]; exact he x hx v ez ev Y hY) hk hjs
  rw [h2 eb] at this
  exact this
theorem tv_mapO {scope : Scope} {own : List (Str × Nat)} {js : List Nat} {gf : α → Option β} {vs : List β} {ρf : α → TEnv} (h : mapO gf xs = some vs) (ct : Cq true CX P w K mg base k N sc fs X) (hi : EvI X tg iter ρ L (xs.map ea) L1) (hz : xs.length ≤ 100000)
    (ht : ∀ x ∈ xs, ∀ Y, Bk CX P w K mg base k N sc scope Y → TgT Y tg js (ea x) (wipeT ρ (own.map (·.2))) (ρf x) L1)
    (he : ∀ x ∈ xs, ∀ v, gf x = some v → ∀ Y, Bk CX P w K mg base k N sc scope Y → Ev Y elt (ρf x) L1 (.v (eb v)) L1)
    (hk : scope.kind = .function := by rfl) (hjs : ∀ j ∈ js, j ∈ own.map (·.2) := by decide) : LcM X tg iter elt [] scope own ρ L (vs.map eb) L1 := by
  obtain ⟨h1, h2⟩ := mapO_all h
  have := lcm_p (ifs := []) (pf := fun _ => true) (gf := fun x => match gf x with | some v => eb v | none => N0) ct hi hz ht (fun _ _ _ _ => ec_nil) (fun x hx _ Y hY => by
    obtain ⟨v, ev⟩ := h1 x hx
    rw [ev]; exact he x hx v ev Y hY) hk hjs
  rw [List.filter_eq_self.mpr (fun _ _ => rfl), h2 eb] at this
  exact this
/-- name = [..] on one line -/
theorem wb_setL {scope : Scope} {own : List (Str × Nat)} {σ ρ0 : Type} {F : Fm σ ρ0} {bs : List (List Stmt)} {rest : List Stmt} {vs : List β} {kf : List β → Fl σ ρ0} {p1 p' : Pos} (ct : Cq true CX P w K mg base k N sc fs X) (n : Nat) (h : LcM X tg iter elt ifs scope own r L (vs.map eb) L1) (hn : ∀ y, WB X F (rest :: bs) (r.set n (some (eL eb y))) L1 (kf y))
    (hx : locOk N sc fs n x = true := by decide +kernel) (hxl : sc.names.lookup x = some .local := by decide +kernel) (ok : blkC N sc scope own = true := by decide +kernel)
    (hsw : (p'.line == p1.line) = true := by rfl) (ha : (scope.names.any fun (n, k) => n == x && (k == .local || k == .cell)) = false := by decide +kernel) (hs : ∀ x, foldedSetIterable iter X.env x = pure x := by intro _; rfl) : WB X F ((.Assign [.Name x p'] (.ListComp elt [⟨tg, iter, ifs, 0⟩] scope p1) pos :: rest) :: bs) r L (bdV vs kf) := by
  obtain ⟨xs, Lf, pf, gf, h1, h2, h3, rfl⟩ := h.ex
  refine wb1 fun _ => ws_setLc ct n hx hxl ok h1 h2 (ws_nil ?_) hsw ha hs
  rw [h3]
  exact hn vs
theorem wb_setLC {scope : Scope} {own : List (Str × Nat)} {σ ρ0 : Type} {F : Fm σ ρ0} {bs : List (List Stmt)} {rest : List Stmt} {vs : List β} {kf : List β → Fl σ ρ0} {p1 p' : Pos} (ct : Cq true CX P w K mg base k N sc fs X) (n : Nat) (h : LcM X tg iter elt ifs scope own r L (vs.map eb) L1) (hn : ∀ y m, L1 m = none → WB X F (rest :: bs) (r.set n (some (.cel m))) (updS L1 m (some (eL eb y))) (kf y))
    (hx : locOk N sc fs n x = true := by decide +kernel) (hxl : sc.names.lookup x = some .local := by decide +kernel) (ok : blkC N sc scope own = true := by decide +kernel)
    (hsw : (p'.line == p1.line) = true := by rfl) (ha : (scope.names.any fun (n, k) => n == x && (k == .local || k == .cell)) = false := by decide +kernel) (hs : ∀ x, foldedSetIterable iter X.env x = pure x := by intro _; rfl) : WB X F ((.Assign [.Name x p'] (.ListComp elt [⟨tg, iter, ifs, 0⟩] scope p1) pos :: rest) :: bs) r L (bdV vs kf) := by
  obtain ⟨xs, Lf, pf, gf, h1, h2, h3, rfl⟩ := h.ex
  refine wb1 fun _ => ws_setLcC ct n hx hxl ok h1 h2 (fun m hm => ws_nil ?_) hsw ha hs
  rw [h3]
  exact hn vs m hm
/-- and, or, if-else where a part may be outside of what is promised -/
theorem tv_and {y z : Bool} {m : Option Bool} (h : oif y m (some false) = some z) (ha : Ev X a r L (.v (B y)) L1) (hb : y = true → ∀ z, m = some z → Ev X (.BoolOp .And (b :: es) pos) r L1 (.v (B z)) L1) : Ev X (.BoolOp .And (a :: b :: es) pos) r L (.v (B z)) L1 := by
  cases y with
  | true =>
    have h : m = some z := h
    exact (ev_and ha (fun e => hb e z h)).eq rfl
  | false =>
    have h : some false = some z := h
    cases h
    exact ev_and (z := false) ha (fun e => nomatch e)
theorem tb_and {y z : Bool} {m : Option Bool} (h : oif y m (some false) = some z) (ha : EvB X a r L y L1) (hb : y = true → ∀ z, m = some z → EvW X (.BoolOp .And (b :: es) pos) r L1 z L1) : EvW X (.BoolOp .And (a :: b :: es) pos) r L z L1 := by
  cases y with
  | true =>
    have h : m = some z := h
    exact ew_and ha (fun e => hb e z h)
  | false =>
    have h : some false = some z := h
    cases h
    exact ew_and (z := false) ha (fun e => nomatch e)
theorem tv_or {y z : Bool} {m : Option Bool} (h : oif y (some true) m = some z) (ha : Ev X a r L (.v (B y)) L1) (hb : y = false → ∀ z, m = some z → Ev X (.BoolOp .Or (b :: es) pos) r L1 (.v (B z)) L1) : Ev X (.BoolOp .Or (a :: b :: es) pos) r L (.v (B z)) L1 := by
  cases y with
  | false =>
    have h : m = some z := h
    exact (ev_or ha (fun e => hb e z h)).eq rfl
  | true =>
    have h : some true = some z := h
    cases h
    exact ev_or (z := false) ha (fun e => nomatch e)
theorem tb_or {y z : Bool} {m : Option Bool} (h : oif y (some true) m = some z) (ha : EvB X a r L y L1) (hb : y = false → ∀ z, m = some z → EvW X (.BoolOp .Or (b :: es) pos) r L1 z L1) : EvW X (.BoolOp .Or (a :: b :: es) pos) r L z L1 := by
  cases y with
  | false =>
    have h : m = some z := h
    exact ew_or ha (fun e => hb e z h)
  | true =>
    have h : some true = some z := h
    cases h
    exact ew_or (z := false) ha (fun e => nomatch e)
theorem tv_if {y : Bool} {v : α} {m n : Option α} (h : oif y m n = some v) (hc : EvB X c r L y L1) (ha : y = true → ∀ z, m = some z → Ev X a r L1 (.v (ea z)) Lb) (hb : y = false → ∀ z, n = some z → Ev X b r L1 (.v (ea z)) Lb) : Ev X (.IfExp c a b pos) r L (.v (ea v)) Lb := by
  cases y with
  | true => exact ev_ifT hc (ha rfl v h)
  | false => exact ev_ifF hc (hb rfl v h)
theorem tv_if0 {y : Bool} {v u : α} (hc : EvB X c r L y L1) (ha : y = true → Ev X a r L1 (.v (ea v)) Lb) (hb : y = false → Ev X b r L1 (.v (ea u)) Lb) : Ev X (.IfExp c a b pos) r L (.v (ea (if y = true then v else u))) Lb := by
  cases y with
  | true => exact ev_ifT hc (ha rfl)
  | false => exact ev_ifF hc (hb rfl)
end
end TL


/-! Models: more rules for typed values, cells, statements. -/
namespace TL
open PySem PySem.Spec PyProof.Rows L2
abbrev eT (t : T) : T := t
abbrev eScr (ns : List Int) : T := .scr (ns.map I)
def fuel : Nat := 100000
section
variable {L L1 : Store} {m n c c1 c2 c3 : Nat} {a a' b d e x y : Option T} {t : T}
theorem updS_none (h : updS L n (some t) m = none) : L m = none ∧ n ≠ m := by
  by_cases e : m = n
  · subst e; rw [updS_same] at h; cases h
  · rw [updS_ne e] at h; exact ⟨h, fun z => e z.symm⟩
theorem upd_none (h : L m = none) (e : n ≠ m) : updS L n x m = none := by rw [updS_ne fun z => e z.symm]; exact h
theorem updS_swp (h : m ≠ n) : updS (updS L m x) n y = updS (updS L n y) m x := by
  funext k
  unfold updS
  by_cases e1 : k = n
  · subst e1
    rw [if_pos rfl, if_neg (fun z => h z.symm), if_pos rfl]
  · rw [if_neg e1, if_neg e1]
theorem upd_at1 (h : c ≠ c1) : updS (updS L c a) c1 b c = a := by rw [updS_ne h, updS_same]
theorem upd_at2 (h : c ≠ c1) (h2 : c ≠ c2) : updS (updS (updS L c a) c1 b) c2 d c = a := by rw [updS_ne h2, updS_ne h, updS_same]
theorem upd_at3 (h : c ≠ c1) (h2 : c ≠ c2) (h3 : c ≠ c3) : updS (updS (updS (updS L c a) c1 b) c2 d) c3 e c = a := by rw [updS_ne h3, updS_ne h2, updS_ne h, updS_same]
theorem updS_in1 (h : c ≠ c1) : updS (updS (updS L c a) c1 b) c a' = updS (updS L c a') c1 b := by
  rw [updS_swp (fun z => h z.symm), updS_updS]
theorem updS_in2 (h : c ≠ c1) (h2 : c ≠ c2) : updS (updS (updS (updS L c a) c1 b) c2 d) c a' = updS (updS (updS L c a') c1 b) c2 d := by
  rw [updS_swp (fun z => h2 z.symm), updS_in1 h]
theorem updS_in3 (h : c ≠ c1) (h2 : c ≠ c2) (h3 : c ≠ c3) : updS (updS (updS (updS (updS L c a) c1 b) c2 d) c3 e) c a' = updS (updS (updS (updS L c a') c1 b) c2 d) c3 e := by
  rw [updS_swp (fun z => h3 z.symm), updS_in2 h h2]
theorem updS_kill0 (h : L c = none) : updS (updS L c a) c none = L := by rw [updS_updS]; exact updS_self h
theorem updS_kill1 (h : L c = none) (h1 : c ≠ c1) : updS (updS (updS L c a) c1 b) c none = updS L c1 b := by rw [updS_in1 h1, updS_self h]
theorem updS_kill2 (h : L c = none) (h1 : c ≠ c1) (h2 : c ≠ c2) : updS (updS (updS (updS L c a) c1 b) c2 d) c none = updS (updS L c1 b) c2 d := by rw [updS_in2 h1 h2, updS_self h]
theorem exit_p {t0 t1 : T} {r : R} (h : ∀ k t, updS L n (some t1) k = some t → L1 k = some t) : Exit (updS L n (some t0)) r L1 r (updS L n (some t1)) := by
  refine ⟨fun k t e => ⟨h k t e, ?_⟩, .inl rfl⟩
  by_cases q : k = n
  · subst q; exact ⟨t0, updS_same⟩
  · rw [updS_ne q] at e; exact ⟨t, by rw [updS_ne q]; exact e⟩
theorem exit_cellp {t0 t1 u : T} (h : ∀ k t, updS L n (some t1) k = some t → L1 k = some t) (h0 : updS L n (some t0) m = none) (h1 : L1 m = some u) : Exit (updS L n (some t0)) (.v (.cel m)) L1 (.n u) (updS L n (some t1)) :=
  ⟨(exit_p (r := .v N0) h).1, .inr ⟨m, u, rfl, rfl, h0, h1⟩⟩
end
def hasD {α : Type} (d : List (Int × α)) (k : Int) : Bool := d.any fun q => decide (q.1 = k)
def lookD {α : Type} (d : List (Int × α)) (k : Int) : Option α := (d.find? fun q => decide (q.1 = k)).map (·.2)
def keysD {α : Type} (d : List (Int × α)) : List Int := d.map (·.1)
def putD {α : Type} (d : List (Int × α)) (k : Int) (v : α) : List (Int × α) := if hasD d k then d.map fun q => if q.1 = k then (q.1, v) else q else d ++ [(k, v)]
def sdfD {α : Type} (d : List (Int × α)) (k : Int) (v : α) : List (Int × α) := if hasD d k then d else d ++ [(k, v)]
def minD {α : Type} (d : List (Int × α)) : Option Int := (keysD d).min?
def setI {α : Type} (xs : List α) (i : Int) (v : α) : Option (List α) := (ixN xs.length i).map fun j => xs.set j v
def countI {α : Type} [DecidableEq α] (xs : List α) (y : α) : Int := (xs.count y : Nat)
def rangeD (hi : Int) (n : Nat) : List Int := (List.range n).map fun (i : Nat) => hi - i
section
variable {cm : Bool} {CX : CXT} {P : Program} {w : World} {K : PySem.W.Frag} {mg : Str → Option Value} {base : Heap} {k : Nat} {N : List Str} {sc : Scope} {fs : Str → Bool} {X : Cx}
variable {e f a b c o ix tg iter : Expr} {es : List Expr} {r r1 : TEnv} {L L1 Lb Lc : Store} {t u : T} {ts us : List T} {pos p p' : Pos} {i j : Int} {x : Str} {m : Nat}
variable {st : Stmt} {ss rest yes no body : List Stmt} {bs : List (List Stmt)} {α β σ ρ ι : Type} {F : Fm σ ρ} {o0 o1 o2 : Fl σ ρ} {ea : α → T} {eb : β → T} {xs ys : List α} {kd : Nat}
theorem Ev.sm {v z : α} (h : some v = some z) (d : Ev X e r L (.v (ea v)) L1) : Ev X e r L (.v (ea z)) L1 := by cases h; exact d
theorem EvB.sm {v z : Bool} (h : some v = some z) (d : EvB X e r L v L1) : EvB X e r L z L1 := by cases h; exact d
theorem EvW.sm {v z : Bool} (h : some v = some z) (d : EvW X e r L v L1) : EvW X e r L z L1 := by cases h; exact d
theorem tv_none (h : Ev X e r L (.v N0) L1) : Ev X e r L (.v (eO ea none)) L1 := h
theorem tb_truL (h : Ev X e r L (.v t) L1) (hl : LstT L1 t (xs.map ea)) (he : ∀ whole, isTrue e X.env whole = (do let v ← whole; standAt e.pos; holding [v] (truthy v)) := by intro _; rfl) : EvB X e r L (!xs.isEmpty) L1 := by
  have := eb_truL h hl he
  rwa [List.isEmpty_map] at this
theorem tv_tupV {v : List T} (h : asTup t = some v) (ha : Ev X a r L (.v t) L1) : Ev X a r L (.v (eV eT v)) L1 := by
  have := tv_tup h ha
  rwa [show eV eT v = T.tup v from congrArg T.tup (List.map_id v)]
theorem tv_lstL {v : List T} (h : asLst t = some v) (ha : Ev X a r L (.v t) L1) : Ev X a r L (.v (eL eT v)) L1 := by
  have := tv_lst h ha
  rwa [show eL eT v = T.lst v from congrArg T.lst (List.map_id v)]
theorem tv_len (ct : Cq cm CX P w K mg base k N sc fs X) (hm : mg "len" = none) (ha : EvA X [e] r L [t] L1) (hl : LstT L1 t (xs.map ea)) (hg : glOk sc "len" = true := by decide +kernel)
    (he : starEach [e] X.env = (false, eval e X.env) :: starEach [] X.env := by first | with_reducible exact se1 | with_reducible exact se2 | with_reducible exact se3 | with_reducible exact se4 | with_reducible exact se5 | with_reducible exact se6 | with_reducible exact se7 | with_reducible exact se8 | with_reducible exact se9 | rfl) : Ev X (.Call (.Name "len" p) [e] [] pos) r L (.v (I (xs.length : Int))) L1 := by
  have := klen (p := p) (pos := pos) ct hm ha hl hg he
  rwa [List.length_map] at this
theorem tv_lenV (ct : Cq cm CX P w K mg base k N sc fs X) (hm : mg "len" = none) (ha : EvA X [e] r L [eV ea xs] L1) (hg : glOk sc "len" = true := by decide +kernel)
    (he : starEach [e] X.env = (false, eval e X.env) :: starEach [] X.env := by first | with_reducible exact se1 | with_reducible exact se2 | with_reducible exact se3 | with_reducible exact se4 | with_reducible exact se5 | with_reducible exact se6 | with_reducible exact se7 | with_reducible exact se8 | with_reducible exact se9 | rfl) : Ev X (.Call (.Name "len" p) [e] [] pos) r L (.v (I (xs.length : Int))) L1 := by
  have := klenT (p := p) (pos := pos) ct hm ha hg he
  rwa [List.length_map] at this
theorem tv_int {y : Bool} (ct : Cq cm CX P w K mg base k N sc fs X) (hm : mg "int" = none) (ha : EvA X [e] r L [B y] L1) (hg : glOk sc "int" = true := by decide +kernel)
    (he : starEach [e] X.env = (false, eval e X.env) :: starEach [] X.env := by first | with_reducible exact se1 | with_reducible exact se2 | with_reducible exact se3 | with_reducible exact se4 | with_reducible exact se5 | with_reducible exact se6 | with_reducible exact se7 | with_reducible exact se8 | with_reducible exact se9 | rfl) : Ev X (.Call (.Name "int" p) [e] [] pos) r L (.v (I (if y = true then (1 : Int) else 0))) L1 := kintB ct hm ha hg he
/-- lists that are cells, compared -/
theorem ot_eqM (h1 : shp (.lst ts) = true) (h2 : shp (.lst us) = true) (m1 : LstM L t ts) (m2 : LstM L u us) : OpT K (rEqD K) t u L (.v (B (eqT (.lst ts) (.lst us)))) := fun W H x y Q s r1 r2 q => by
  obtain ⟨d, e1, s1⟩ := shp_of h1
  obtain ⟨e, e2, s2⟩ := shp_of h2
  obtain ⟨ds, rfl, f1⟩ := pd_lst e1
  obtain ⟨es, rfl, f2⟩ := pd_lst e2
  obtain ⟨a1, vs, rfl, hl, rl⟩ := lst_m s r1 m1
  obtain ⟨a2, ws, rfl, hl2, rl2⟩ := lst_m s r2 m2
  refine ⟨_, _, .lst (.inl (.inl hl)) (dpL_of ts _ ds rl f1), .lst (.inl (.inl hl2)) (dpL_of us _ es rl2 f2), s1, s2, ?_⟩
  have : eqT (.lst ts) (.lst us) = PyData.eqv (.list ds) (.list es) := by unfold eqT; rw [e1, e2]
  rw [← this]
  exact q _ W H .refl s (.v _)
theorem ot_neM (h1 : shp (.lst ts) = true) (h2 : shp (.lst us) = true) (m1 : LstM L t ts) (m2 : LstM L u us) : OpT K (rNeD K) t u L (.v (B (!eqT (.lst ts) (.lst us)))) := fun W H x y Q s r1 r2 q => by
  obtain ⟨d, e1, s1⟩ := shp_of h1
  obtain ⟨e, e2, s2⟩ := shp_of h2
  obtain ⟨ds, rfl, f1⟩ := pd_lst e1
  obtain ⟨es, rfl, f2⟩ := pd_lst e2
  obtain ⟨a1, vs, rfl, hl, rl⟩ := lst_m s r1 m1
  obtain ⟨a2, ws, rfl, hl2, rl2⟩ := lst_m s r2 m2
  refine ⟨_, _, .lst (.inl (.inl hl)) (dpL_of ts _ ds rl f1), .lst (.inl (.inl hl2)) (dpL_of us _ es rl2 f2), s1, s2, ?_⟩
  have : eqT (.lst ts) (.lst us) = PyData.eqv (.list ds) (.list es) := by unfold eqT; rw [e1, e2]
  rw [← this]
  exact q _ W H .refl s (.v _)
theorem tv_eqC [DecidableEq α] {y z : List α} (hd : Dt ea kd) (ct : Cq cm CX P w K mg base k N sc fs X) (ha : Ev X a r L (.v t) L1) (hb : Ev X b r L1 (.v u) Lb) (m1 : LstM Lb t (y.map ea)) (m2 : LstM Lb u (z.map ea)) (hk : kd + 1 ≤ 64 := by decide) : Ev X (.Compare a [.Eq] [b] pos) r L (.v (B (decide (y = z)))) Lb :=
  hd.lst.eq y z ▸ ev_cmp (op_eqD ct.u64) ha hb (ot_eqM (hd.lst.shp y hk) (hd.lst.shp z hk) m1 m2) (nomark _)
theorem tv_neC [DecidableEq α] {y z : List α} (hd : Dt ea kd) (ct : Cq cm CX P w K mg base k N sc fs X) (ha : Ev X a r L (.v t) L1) (hb : Ev X b r L1 (.v u) Lb) (m1 : LstM Lb t (y.map ea)) (m2 : LstM Lb u (z.map ea)) (hk : kd + 1 ≤ 64 := by decide) : Ev X (.Compare a [.NotEq] [b] pos) r L (.v (B (!decide (y = z)))) Lb :=
  hd.lst.eq y z ▸ ev_cmp (op_neD ct.u64) ha hb (ot_neM (hd.lst.shp y hk) (hd.lst.shp z hk) m1 m2) (nomark _)
theorem tb_eqC [DecidableEq α] {y z : List α} (hd : Dt ea kd) (ct : Cq cm CX P w K mg base k N sc fs X) (ha : Ev X a r L (.v t) L1) (hb : Ev X b r L1 (.v u) Lb) (m1 : LstM Lb t (y.map ea)) (m2 : LstM Lb u (z.map ea)) (hk : kd + 1 ≤ 64 := by decide) : EvB X (.Compare a [.Eq] [b] pos) r L (decide (y = z)) Lb :=
  hd.lst.eq y z ▸ eb_cmp (op_eqD ct.u64) ha hb (ot_eqM (hd.lst.shp y hk) (hd.lst.shp z hk) m1 m2) (nomark _)
theorem tb_neC [DecidableEq α] {y z : List α} (hd : Dt ea kd) (ct : Cq cm CX P w K mg base k N sc fs X) (ha : Ev X a r L (.v t) L1) (hb : Ev X b r L1 (.v u) Lb) (m1 : LstM Lb t (y.map ea)) (m2 : LstM Lb u (z.map ea)) (hk : kd + 1 ≤ 64 := by decide) : EvB X (.Compare a [.NotEq] [b] pos) r L (!decide (y = z)) Lb :=
  hd.lst.eq y z ▸ eb_cmp (op_neD ct.u64) ha hb (ot_neM (hd.lst.shp y hk) (hd.lst.shp z hk) m1 m2) (nomark _)
theorem tv_tag {q : Mv} {j p2} (ha : Ev X a r L (.v (eM q)) L1) (hb : Ev X (.Constant (.int 0) j p2) r L1 (.v (I 0)) L1) : Ev X (.Subscript a (.Constant (.int 0) j p2) pos) r L (.v (S q.tag)) L1 := by
  cases q <;> exact ev_ixT ha hb rfl
theorem tv_zip {elts : List Expr} {kk : Nat} {tpos : Pos} {zs : List β} (ct : Cq cm CX P w K mg base k N sc fs X) (hm : mg "zip" = none) (h : EvA X [a, b] r L [eL ea xs, eL eb zs] L1) (hg : glOk sc "zip" = true := by decide +kernel) (hs : starEach [a, b] X.env = (false, eval a X.env) :: starEach [b] X.env := by rfl)
    (hpl : (backTo pos (starEach [b] X.env)).any (·.1) = false := by rfl) : EvI X (.Tuple elts kk tpos) (.Call (.Name "zip" p) [a, b] [] pos) r L ((xs.zip zs).map (e2 ea eb)) L1 := by
  have := ei_zip (elts := elts) (kk := kk) (tpos := tpos) (p := p) (pos := pos) ct hm hg h hs hpl
  have e : zipT (xs.map ea) (zs.map eb) = (xs.zip zs).map (e2 ea eb) := by
    unfold zipT
    rw [List.zip_map, List.map_map]; rfl
  rwa [e] at this
/-! statements -/
theorem wb_ifJ {z : Bool} {J : ι → Fl σ ρ} {E : ι → TEnv} {S : ι → Store} (hc : EvB X c r L z L1) (hj : ∀ s, WB X F (rest :: bs) (E s) (S s) (J s)) (h1 : (∀ s, WB X F (rest :: bs) (E s) (S s) (J s)) → z = true → WB X F (yes :: rest :: bs) r L1 o1) (h2 : (∀ s, WB X F (rest :: bs) (E s) (S s) (J s)) → z = false → WB X F (no :: rest :: bs) r L1 o2) :
    WB X F ((.If c yes no pos :: rest) :: bs) r L (ifF z o1 o2) := wb_if hc (h1 hj) (h2 hj)
theorem wb_freeze {n : Nat} (hρ : r[n]? = some (some (.cel m))) (hl : L m = some t) (hk : updS L m none = L1) (h : WB X F (ss :: bs) (r.set n (some t)) L1 o0) : WB X F (ss :: bs) r L o0 := by
  subst hk
  refine ⟨fun hb => ?_⟩
  have h0 := h.go hb
  refine ⟨fun W H σ D Wx s en d tk xo => ?_⟩
  obtain ⟨x, e1, e2⟩ := en.2 n _ hρ
  cases e2 with
  | cel hc =>
    rename_i a
    have st := Step.kill (H := H) hl hc
    have en1 := en.step st s
    have cr := s.cel m t a hl hc
    refine h0.go (W.frz a) H σ D Wx (s.kill hl hc) ?_ (d.step st) tk (xo.step st)
    have := en1.set (i := n) (CellR.rp (.inr rfl) (cr.frz (a := a)))
    have es : σ.set n (some (V.ref a)) = σ := by
      apply List.ext_getElem?
      intro i
      by_cases hi : n = i
      · subst hi; rw [List.getElem?_set_self (List.getElem?_eq_some_iff.mp e1).1, e1]
      · rw [List.getElem?_set_ne hi]
    rw [es] at this
    exact this
theorem wb_app {y : α} {apos : Pos} {Sf : List α → Store} {kf : List α → Fl σ ρ} (ho : Ev X o r L (.v (.cel m)) L) (ha : Ev X e r L (.v (ea y)) L) (hl : L m = some (eL ea ys)) (hz : ys.length ≤ 100000) (hst : ∀ z, updS L m (some (eL ea z)) = Sf z) (h : ∀ z, WB X F (rest :: bs) r (Sf z) (kf z))
    (hs : starEach [e] X.env = (false, eval e X.env) :: starEach [] X.env := by rfl) (hbase : attributeBase o "append" X.env (eval o X.env) = eval o X.env := by rfl)
    (hfew : ((backTo pos (starEach (e :: []) X.env)).all (fun x => !x.1) && (backToKw pos (keywordEach [] X.env)).all (fun x => x.1.isSome) && decide ((e :: []).length + ([] : List Keyword).length + (if ([] : List Keyword).isEmpty then 0 else 1) < 30)) = true := by rfl) (hline : (apos.endLine == pos.line) = true := by rfl) (hplain : (backTo pos (starEach [] X.env)).any (·.1) = false := by rfl)
    (hsw : swapsWith (.Call (.Attribute o "append" apos) [e] [] pos) none p.line X.env = pure false := by rfl) : WB X F ((.Expr (.Call (.Attribute o "append" apos) [e] [] pos) p :: rest) :: bs) r L (bdV (ys ++ [y]) kf) := by
  refine wb_expr (eapp ho ha hl hl (by rw [List.length_map]; exact hz) hs hbase hfew hline hplain) ?_ hsw
  have e : ys.map ea ++ [ea y] = (ys ++ [y]).map ea := by rw [List.map_append]; rfl
  have := h (ys ++ [y])
  rw [← hst] at this
  rw [e]
  exact this
theorem wb_augL {Sf : List α → Store} {kf : List α → Fl σ ρ} (ct : Cq cm CX P w K mg base k N sc fs X) (n : Nat) (hρ : r[n]? = some (some (.cel m))) (he : Ev X e r L (.v u) L) (hl : L m = some (eL ea xs)) (hu : LstM L u (ys.map ea)) (hne : u ≠ .cel m) (hz : xs.length + ys.length ≤ 100000)
    (hst : ∀ z, updS L m (some (eL ea z)) = Sf z) (h : ∀ z, WB X F (rest :: bs) r (Sf z) (kf z)) (hx : locOk N sc fs n x = true := by decide +kernel) : WB X F ((.AugAssign (.Name x p') .Add e pos :: rest) :: bs) r L (bdV (xs ++ ys) kf) := by
  refine wb1 fun _ => waugL ct n hρ he hl hu hne (by rw [List.length_map, List.length_map]; exact hz) (ws_nil ?_) hx
  have := h (xs ++ ys)
  rw [← hst] at this
  rw [← List.map_append]
  have hr : r.set n (some (.cel m)) = r := by
    apply List.ext_getElem?
    intro i
    by_cases hi : n = i
    · subst hi; rw [List.getElem?_set_self (List.getElem?_eq_some_iff.mp hρ).1, hρ]
    · rw [List.getElem?_set_ne hi]
  rw [hr]
  exact this
theorem wb_par2 {e1 : α → T} {e2 : β → T} {v1 : α} {v2 : β} {kf : α → β → Fl σ ρ} {y : Str} {px py pt : Pos} {kt k2 pt2} (ct : Cq true CX P w K mg base k N sc fs X) (n n2 : Nat) (ha : EvA X [a, b] r L [e1 v1, e2 v2] L1) (h : ∀ y1 y2, WB X F (rest :: bs) ((r.set n (some (e1 y1))).set n2 (some (e2 y2))) L1 (kf y1 y2))
    (hij : n ≠ n2 := by decide) (hx : locOk N sc fs n x = true := by decide +kernel) (hy : locOk N sc fs n2 y = true := by decide +kernel) (hxl : sc.names.lookup x = some .local := by decide +kernel) (hyl : sc.names.lookup y = some .local := by decide +kernel)
    (hw : swappedStores [.Tuple [.Name x px, .Name y py] kt pt] (.Tuple [a, b] k2 pt2) { X.env with scope := sc } = pure (some [x, y]) := by rfl) (hs : swapsWithSole [.Tuple [.Name x px, .Name y py] kt pt] (.Tuple [a, b] k2 pt2) pos.line X.env = pure false := by rfl) :
    WB X F ((.Assign [.Tuple [.Name x px, .Name y py] kt pt] (.Tuple [a, b] k2 pt2) pos :: rest) :: bs) r L (bdV v1 fun y1 => bdV v2 fun y2 => kf y1 y2) :=
  wb1 fun _ => wpar ct n n2 ha (ws_nil (h v1 v2)) hij hx hy hxl hyl hw hs
/-! dicts of ints -/
def DM (L : Store) (t : T) (u : T) : Prop := t = u ∨ ∃ n, t = .cel n ∧ L n = some u
theorem keys_put {d : List (Int × α)} {k : Int} {v : α} : putKs (d.map fun q => (Sum.inl q.1 : Key)) (Sum.inl k) = (putD d k v).map fun q => Sum.inl q.1 := by
  have hh : hasK (d.map fun q => (Sum.inl q.1 : Key)) (Sum.inl k) = hasD d k := by
    unfold hasK hasD
    rw [List.any_map]
    congr 1
    funext q
    simp
  unfold putKs putD
  rw [hh]
  cases hasD d k with
  | true =>
    simp only [if_true]
    rw [List.map_map]
    apply List.map_congr_left
    intro q _
    show Sum.inl q.1 = Sum.inl (if q.1 = k then (q.1, v) else q).1
    split <;> rfl
  | false => simp
theorem vals_put {d : List (Int × α)} {k : Int} {v : α} : putTs (d.map fun q => (Sum.inl q.1 : Key)) (d.map fun q => ea q.2) (Sum.inl k) (ea v) = (putD d k v).map fun q => ea q.2 := by
  have hh : hasK (d.map fun q => (Sum.inl q.1 : Key)) (Sum.inl k) = hasD d k := by
    unfold hasK hasD
    rw [List.any_map]
    congr 1
    funext q
    simp
  unfold putTs putD
  rw [hh]
  cases hasD d k with
  | true =>
    simp only [if_true]
    rw [List.zip_map', List.map_map, List.map_map]
    apply List.map_congr_left
    intro q _
    show (if (Sum.inl q.1 : Key) = Sum.inl k then ea v else ea q.2) = ea (if q.1 = k then (q.1, v) else q).2
    by_cases e : q.1 = k
    · rw [if_pos e, if_pos (by rw [e])]
    · rw [if_neg e, if_neg (fun z => e (Sum.inl.inj z))]
  | false => simp
theorem wb_dput {d : List (Int × α)} {y : α} {Sf : List (Int × α) → Store} {kf : List (Int × α) → Fl σ ρ} (ct : Cq cm CX P w K mg base k N sc fs X) (he : Ev X e r L (.v (ea y)) L) (ho : Ev X o r L (.v (.cel m)) L) (hi : Ev X ix r L (.v (I i)) L) (hl : L m = some (eD ea d)) (hz : d.length ≤ 100000)
    (hst : ∀ z, updS L m (some (eD ea z)) = Sf z) (h : ∀ z, WB X F (rest :: bs) r (Sf z) (kf z)) (hs : swapsWith e (some (.Subscript o ix p')) pos.line X.env = pure false := by rfl) : WB X F ((.Assign [.Subscript o ix p'] e pos :: rest) :: bs) r L (bdV (putD d i y) kf) := by
  refine wb1 fun _ => wdput ct he ho hi hl (by rw [List.length_map]; exact hz) (ws_nil ?_) hs
  have := h (putD d i y)
  rw [← hst] at this
  rw [keys_put (v := y), vals_put]
  exact this
theorem tv_sortD {d : List (Int × α)} (ct : Cq true CX P w K mg base k N sc fs X) (hm : mg "sorted" = none) (ha : EvA X [e] r L [.cel m] L1) (hl : L1 m = some (eD ea d)) (hz : d.length < 64) (hg : glOk sc "sorted" = true := by decide +kernel)
    (he : starEach [e] X.env = (false, eval e X.env) :: starEach [] X.env := by first | with_reducible exact se1 | with_reducible exact se2 | with_reducible exact se3 | with_reducible exact se4 | with_reducible exact se5 | with_reducible exact se6 | with_reducible exact se7 | with_reducible exact se8 | with_reducible exact se9 | rfl) : Ev X (.Call (.Name "sorted" p) [e] [] pos) r L (.n (eL I (sortI (keysD d)))) L1 := by
  have e1 : (d.map fun q => (Sum.inl q.1 : Key)) = (keysD d).map Sum.inl := by unfold keysD; rw [List.map_map]; rfl
  have hl2 : L1 m = some (.dK ((keysD d).map Sum.inl) (d.map fun q => ea q.2)) := by rw [hl, ← e1]
  exact ksortD ct hm ha hl2 (by unfold keysD; rw [List.length_map]; exact hz) hg he
end
end TL


/-! Models: exceptions of the program's own. -/
namespace TL
open PySem PySem.Spec PyProof.Rows L2
section
variable {K : PySem.W.Frag} {W : Wd} {H : Hp}
theorem fld_nil : FldR K W H [] [] := fun f t h => by simp at h
theorem fld_cons {f : Str} {t : T} {v : V} {fs : List (Str × T)} {ws : List (Str × V)} (r : Rp K W H t v) (h : FldR K W H fs ws) : FldR K W H ((f, t) :: fs) ((f, v) :: ws) := by
  intro g u hu
  rw [List.lookup_cons] at hu ⊢
  cases q : g == f with
  | true => rw [q] at hu; cases hu; exact ⟨v, rfl, r⟩
  | false => rw [q] at hu; exact h g u hu
theorem spI_at {fn : List Str} {n : Nat} {f : List V → List (Str × V)} {a : V} {as : List V} {H : Hp} {Q : VK} (h : spI K fn n f (a :: as) H Q) : spI K fn n (fun _ => f as) (a :: as) H Q := by
  obtain ⟨a', C, as', e, r⟩ := h
  cases e
  exact ⟨a', C, _, rfl, r⟩
theorem dec_ok {p : Prop} [Decidable p] (h : decide p = true) : p := of_decide_eq_true h
theorem and_l {a b : Bool} (h : (a && b) = true) : a = true := (Bool.and_eq_true_iff.mp h).1
theorem and_r {a b : Bool} (h : (a && b) = true) : b = true := (Bool.and_eq_true_iff.mp h).2
end
end TL


/-! Models: dicts that are read, walked. -/
namespace TL
open PySem PySem.Spec PyProof.Rows L2
section
variable {K : PySem.W.Frag} {W : Wd} {L : Store} {H : Hp}
/-- a frozen dict is locked for good -/
theorem lock_st {d : Addr} {u : HO} {od : Obj} (s : SR K W H L) (f : W.F d) (e : H d = some u) (lk : LkO u = true) : Step W L H W L (upd H d (.frz od u)) ∧ SR K W (upd H d (.frz od u)) L := by
  have hk : Keep W.F H (upd H d (.frz od u)) := by
    refine ⟨fun a o fa nl ea => ?_, fun a v fa nl r => ?_⟩
    · by_cases q : a = d
      · subst q
        rw [e] at ea; cases ea
        rw [lkO_no nl] at lk; cases lk
      · rw [upd_ne q]; exact ea
    · by_cases q : a = d
      · subst q
        rcases r with r | ⟨o, r⟩
        · rw [e] at r; cases r
          exact .inr ⟨od, upd_same⟩
        · rw [e] at r; cases r
          cases lk
      · rcases r with r | ⟨o, r⟩
        · exact .inl (by rw [upd_ne q]; exact r)
        · exact .inr ⟨o, by rw [upd_ne q]; exact r⟩
  have hd : ∀ a, H a ≠ none → upd H d (.frz od u) a ≠ none := fun a h => by
    by_cases q : a = d
    · subst q; rw [upd_same]; exact fun z => nomatch z
    · rw [upd_ne q]; exact h
  refine ⟨⟨fun _ h => h, fun _ h => .inl h, fun _ _ h => h, fun n a h e => (by rw [h] at e; cases e), fun _ _ h => h, fun a o ea l hn => ?_, fun a o ea l hn => ?_, hd⟩, ⟨s.fin, s.at_, fun a fa => hd a (s.fh a fa), s.nf, s.inj, fun n t a l ea => ?_⟩⟩
  · have q : a ≠ d := fun z => by subst z; rw [e] at ea; cases ea; rw [l] at lk; cases lk
    rw [upd_ne q]; exact ea
  · by_cases q : a = d
    · subst q
      rw [e] at ea; cases ea
      exact .inr ⟨f, od, upd_same⟩
    · exact .inl (by rw [upd_ne q]; exact ea)
  · have q : a ≠ d := fun z => by subst z; exact s.nf n a ⟨t, l⟩ ea f
    exact (s.cel n t a l ea).mono (fun _ h => h) (fun _ _ h => h) hk (upd_ne q)
theorem wpE_lock {X : Cx} {e : Expr} {σ : L2.St} {H : Hp} {Q : VK} (h : wpE X e σ H fun x H1 => Q x H1 ∨ ∃ d u, H1 d = some u ∧ Mut (some u) ∧ ∀ od, Q x (upd H1 d (.frz od u))) : wpE X e σ H Q := fun pins s I => by
  refine wpAny_mono (h pins s I) (fun v s' z => ?_) (fun _ _ z => z)
  obtain ⟨y, H1, I1, rv, q⟩ := z
  rcases q with q | ⟨d, u, e1, mu, q⟩
  · exact ⟨y, H1, I1, rv, q⟩
  · obtain ⟨od, I2⟩ := I1.lock e1 mu
    exact ⟨y, _, I2, rv, q od⟩
end
section
variable {cm : Bool} {CX : CXT} {P : Program} {w : World} {K : PySem.W.Frag} {mg : Str → Option Value} {base : Heap} {k : Nat} {N : List Str} {sc : Scope} {fs : Str → Bool} {X : Cx}
variable {e f a b c o ix tg iter : Expr} {es : List Expr} {r r1 : TEnv} {L L1 Lb Lc : Store} {t u : T} {ts us : List T} {pos p p' : Pos} {i j : Int} {x : Str} {m : Nat}
variable {st : Stmt} {ss rest yes no body : List Stmt} {bs : List (List Stmt)} {α β σ ρ ι : Type} {F : Fm σ ρ} {o0 o1 o2 : Fl σ ρ} {ea : α → T} {eb : β → T} {xs ys : List α} {kd : Nat} {d : List (Int × α)}
/-- the object of a frozen dict, locked -/
theorem ev_lockD {Q : VK} {W : Wd} {H : Hp} {σ : L2.St} (h : Ev X e r L (.v (eD ea d)) L1) (s : SR X.K W H L) (en : EnvR X.K W H r σ)
    (q : ∀ (a : Addr) (od : Obj) (vs : List V) (W' : Wd) (H' : Hp), Step W L H W' L1 H' → SR X.K W' H' L1 → W'.F a → H' a = some (.frz od (.dK ((d.map fun q => (Sum.inl q.1 : Key)).zip vs))) → d.length = vs.length → RpL X.K W' H' (d.map fun q => ea q.2) vs → Q (.ref a) H') : wpE X e σ H Q := by
  refine wpE_lock ?_
  refine h W H σ _ s en fun x W1 H1 st1 s1 r1 => ?_
  cases r1 with
  | dK fa hd hl rr =>
    rename_i a vs
    rw [List.length_map] at hl
    rcases hd with hd | ⟨od, hd⟩
    · refine .inr ⟨a, _, hd, trivial, fun od => ?_⟩
      obtain ⟨st2, s2⟩ := lock_st (od := od) s1 fa hd rfl
      exact q a od vs W1 _ (st1.trans st2) s2 fa upd_same hl (rr.step st2 s1)
    · exact .inl (q a od vs W1 H1 st1 s1 fa hd hl rr)
theorem ti_keys (h : Ev X e r L (.v (eD ea d)) L1) : EvI X tg e r L ((keysD d).map I) L1 := by
  refine ⟨fun W H σ R s en q => ?_⟩
  refine wp_pi (pi_keys pe_wp) ?_
  refine ev_lockD h s en fun a od vs W1 H1 st1 s1 fa hd hl rr => ?_
  have hz : ((d.map fun q => (Sum.inl q.1 : Key)).zip vs).length = d.length := by rw [List.length_zip, List.length_map]; omega
  refine ⟨a, od, rfl, .inl ⟨_, hd, q _ W1 H1 st1 s1 ⟨fun i t hi W2 Lb H2 st s2 => ?_, fun W2 Lb H2 st s2 => ?_⟩⟩⟩
  · have hd2 := st.keep _ _ hd rfl fun n lv z => s1.nf n _ lv z fa
    have hil : i < d.length := by
      have := (List.getElem?_eq_some_iff.mp hi).1
      unfold keysD at this
      rwa [List.length_map, List.length_map] at this
    refine ⟨⟨hd2, by rw [hz]; exact hil⟩, fun y H3 hy => ?_⟩
    obtain ⟨rfl, k', v, hkv, rfl⟩ := hy
    rw [List.getElem?_zip_eq_some] at hkv
    obtain ⟨h1, _⟩ := hkv
    unfold keysD at hi
    rw [List.getElem?_map, List.getElem?_map, List.getElem?_eq_getElem hil] at hi
    rw [List.getElem?_map, List.getElem?_eq_getElem hil] at h1
    cases hi; cases h1
    exact ⟨W2, .refl, s2, .v _⟩
  · have hd2 := st.keep _ _ hd rfl fun n lv z => s1.nf n _ lv z fa
    refine ⟨hd2, ?_⟩
    rw [hz]
    unfold keysD
    rw [List.length_map, List.length_map]
    exact Nat.le_refl _
theorem ti_items {elts : List Expr} {kk : Nat} {tpos apos : Pos} (h : Ev X e r L (.v (eD ea d)) L1) (hbase : attributeBase e "items" X.env (eval e X.env) = eval e X.env := by rfl) (hline : (apos.endLine == pos.line) = true := by rfl) : EvI X (.Tuple elts kk tpos) (.Call (.Attribute e "items" apos) [] [] pos) r L (d.map (e2 I ea)) L1 := by
  refine ⟨fun W H σ R s en q => ?_⟩
  refine wp_pi (pi_items pe_wp hbase hline) ?_
  refine ev_lockD h s en fun a od vs W1 H1 st1 s1 fa hd hl rr => ?_
  have hz : ((d.map fun q => (Sum.inl q.1 : Key)).zip vs).length = d.length := by rw [List.length_zip, List.length_map]; omega
  refine ⟨a, od, _, rfl, hd, q _ W1 H1 st1 s1 ⟨fun i t hi W2 Lb H2 st s2 => ?_, fun W2 Lb H2 st s2 => ?_⟩⟩
  · have hd2 := st.keep _ _ hd rfl fun n lv z => s1.nf n _ lv z fa
    have rr2 := rr.step st s1
    have hil : i < d.length := by
      have := (List.getElem?_eq_some_iff.mp hi).1
      rwa [List.length_map] at this
    refine ⟨⟨hd2, by rw [hz]; exact hil⟩, fun y H3 hy => ?_⟩
    obtain ⟨T0, k', v, hkv, rfl, hn, rfl⟩ := hy
    rw [List.getElem?_zip_eq_some] at hkv
    obtain ⟨h1, h2⟩ := hkv
    rw [List.getElem?_map, List.getElem?_eq_getElem hil] at hi
    rw [List.getElem?_map, List.getElem?_eq_getElem hil] at h1
    cases hi; cases h1
    have rv : Rp X.K W2 H2 (ea d[i].2) v := by
      obtain ⟨x', e1, e2⟩ := rr2.get (i := i) (t := ea d[i].2) (by rw [List.getElem?_map, List.getElem?_eq_getElem hil]; rfl)
      rw [h2] at e1; cases e1
      exact e2
    obtain ⟨st3, s3, r3⟩ := frz_tup s2 hn (RpL.cons (.v (V.int d[i].1)) (RpL.cons rv .nil))
    exact ⟨_, st3, s3, r3⟩
  · have hd2 := st.keep _ _ hd rfl fun n lv z => s1.nf n _ lv z fa
    exact ⟨hd2, by rw [hz, List.length_map]; exact Nat.le_refl _⟩
/-- d[k], k in d -/
theorem dm_at {K : PySem.W.Frag} {W : Wd} {H : Hp} {x : V} (s : SR K W H L) (h : Rp K W H t x) (hd : DM L t (eD ea d)) : ∃ a vs, x = .ref a ∧ Rd H a (.dK ((d.map fun q => (Sum.inl q.1 : Key)).zip vs)) ∧ d.length = vs.length ∧ RpL K W H (d.map fun q => ea q.2) vs := by
  rcases hd with rfl | ⟨n, rfl, hl⟩
  · cases h with
    | dK fa hd hl rr => exact ⟨_, _, rfl, hd, by rwa [List.length_map] at hl, rr⟩
  · cases h with
    | cel hc =>
      obtain ⟨vs, e1, l1, rr⟩ := s.cel n _ _ hl hc
      exact ⟨_, vs, rfl, .inl e1, by rwa [List.length_map] at l1, rr⟩
theorem val_zip : ∀ {d : List (Int × α)} {vs : List V}, d.length = vs.length → ∀ k : Int, valV ((d.map fun q => (Sum.inl q.1 : Key)).zip vs) (Sum.inl k) = ((d.zip vs).find? fun z => decide (z.1.1 = k)).map (·.2)
  | [], [], _, k => rfl
  | q :: d, v :: vs, h, k => by
    have ih := val_zip (Nat.succ.inj h) k
    unfold valV at ih ⊢
    rw [List.map_cons, List.zip_cons_cons, List.zip_cons_cons, List.find?_cons, List.find?_cons]
    by_cases e : q.1 = k
    · simp [e]
    · have : (Sum.inl q.1 : Key) ≠ Sum.inl k := fun z => e (Sum.inl.inj z)
      simp only [decide_eq_false this, decide_eq_false e]
      exact ih
theorem look_zip {K : PySem.W.Frag} {W : Wd} {H : Hp} : ∀ {d : List (Int × α)} {vs : List V} {k : Int}, RpL K W H (d.map fun q => ea q.2) vs → match lookD d k with
    | some y => ∃ v, valV ((d.map fun q => (Sum.inl q.1 : Key)).zip vs) (Sum.inl k) = some v ∧ Rp K W H (ea y) v
    | none => valV ((d.map fun q => (Sum.inl q.1 : Key)).zip vs) (Sum.inl k) = none
  | [], _, k, r => by cases r; rfl
  | q :: d, _, k, r => by
    cases r with
    | cons r rs =>
      have ih := look_zip (k := k) rs
      unfold lookD valV at ih ⊢
      rw [List.map_cons, List.zip_cons_cons, List.find?_cons, List.find?_cons]
      by_cases e : q.1 = k
      · simp only [decide_eq_true e, decide_eq_true (congrArg (Sum.inl (β := Str)) e)]
        exact ⟨_, rfl, r⟩
      · have : (Sum.inl q.1 : Key) ≠ Sum.inl k := fun z => e (Sum.inl.inj z)
        simp only [decide_eq_false this, decide_eq_false e]
        exact ih
theorem tv_look {y : α} (h : lookD d i = some y) (ct : Cq cm CX P w K mg base k N sc fs X) (ha : Ev X a r L (.v t) L1) (hb : Ev X b r L1 (.v (I i)) L1) (hd : DM L1 t (eD ea d)) (hs : NoSl b := by exact fun _ _ => rfl) : Ev X (.Subscript a b pos) r L (.v (ea y)) L1 := by
  refine ⟨fun W H σ Q s en q => ?_⟩
  refine wp_pe (pe_dget ct.u1 pe_wp pe_wp hs) ?_
  refine ha W H σ _ s en fun x W1 H1 st1 s1 r1 => ?_
  refine hb W1 H1 σ _ s1 (en.step st1 s) fun z W2 H2 st2 s2 r2 => ?_
  cases r2
  obtain ⟨ad, vs, rfl, hr, hl, rr⟩ := dm_at s2 (r1.step st2 s1) hd
  have hz := look_zip (k := i) rr
  rw [h] at hz
  obtain ⟨v, e1, e2⟩ := hz
  exact ⟨ad, v, rfl, .inl ⟨_, Sum.inl i, hr, rfl, e1.symm⟩, q v W2 H2 (st1.trans st2) s2 e2⟩
theorem has_look : ∀ {d : List (Int × α)} {k : Int}, hasD d k = (lookD d k).isSome
  | [], _ => rfl
  | q :: d, k => by
    have ih := has_look (d := d) (k := k)
    unfold hasD lookD at ih ⊢
    rw [List.any_cons, List.find?_cons]
    by_cases e : q.1 = k
    · simp [e]
    · simp only [decide_eq_false e, Bool.false_or]; exact ih
theorem in_dict {K : PySem.W.Frag} {W : Wd} {H : Hp} {vs : List V} (rr : RpL K W H (d.map fun q => ea q.2) vs) (k : Int) : (valV ((d.map fun q => (Sum.inl q.1 : Key)).zip vs) (Sum.inl k)).isSome = hasD d k := by
  have hz := look_zip (k := k) rr
  rw [has_look]
  cases q : lookD d k with
  | none => rw [q] at hz; have hz : valV _ _ = none := hz; rw [hz]; rfl
  | some y => rw [q] at hz; obtain ⟨v, e, _⟩ := hz; rw [e]; rfl
theorem tv_inD (ct : Cq cm CX P w K mg base k N sc fs X) (ha : Ev X a r L (.v (I i)) L1) (hb : Ev X b r L1 (.v t) Lb) (hd : DM Lb t (eD ea d)) (h1 : behindInMarks .In b = false := by first | exact nobehind _ (by decide) (by decide) | rfl) : Ev X (.Compare a [.In] [b] pos) r L (.v (B (hasD d i))) Lb := by
  refine ⟨fun W H σ Q s en q => ?_⟩
  refine wp_pe (pe_cmp (pc_din ct.u1 pe_wp pe_wp) h1) ?_
  refine ha W H σ _ s en fun x W1 H1 st1 s1 r1 => ?_
  refine hb W1 H1 σ _ s1 (en.step st1 s) fun z W2 H2 st2 s2 r2 => ?_
  cases r1
  obtain ⟨ad, vs, rfl, hr, hl, rr⟩ := dm_at s2 r2 hd
  exact ⟨ad, _, rfl, .inl ⟨_, Sum.inl i, hr, rfl, rfl⟩, by rw [in_dict rr]; exact q _ W2 H2 (st1.trans st2) s2 (.v _)⟩
theorem tv_ninD (ct : Cq cm CX P w K mg base k N sc fs X) (ha : Ev X a r L (.v (I i)) L1) (hb : Ev X b r L1 (.v t) Lb) (hd : DM Lb t (eD ea d)) (h1 : behindInMarks .NotIn b = false := by first | exact nobehind _ (by decide) (by decide) | rfl) : Ev X (.Compare a [.NotIn] [b] pos) r L (.v (B (!hasD d i))) Lb := by
  refine ⟨fun W H σ Q s en q => ?_⟩
  refine wp_pe (pe_cmp (pc_dnotin ct.u1 pe_wp pe_wp) h1) ?_
  refine ha W H σ _ s en fun x W1 H1 st1 s1 r1 => ?_
  refine hb W1 H1 σ _ s1 (en.step st1 s) fun z W2 H2 st2 s2 r2 => ?_
  cases r1
  obtain ⟨ad, vs, rfl, hr, hl, rr⟩ := dm_at s2 r2 hd
  exact ⟨ad, _, rfl, .inl ⟨_, Sum.inl i, hr, rfl, rfl⟩, by rw [in_dict rr]; exact q _ W2 H2 (st1.trans st2) s2 (.v _)⟩
theorem tb_val {z : Bool} (h : Ev X e r L (.v (B z)) L1) (he : ∀ whole, isTrue e X.env whole = (do let v ← whole; standAt e.pos; holding [v] (truthy v)) := by intro _; rfl) : EvB X e r L z L1 := eb_val h he
theorem tb_inD (ct : Cq cm CX P w K mg base k N sc fs X) (ha : Ev X a r L (.v (I i)) L1) (hb : Ev X b r L1 (.v t) Lb) (hd : DM Lb t (eD ea d)) (h1 : behindInMarks .In b = false := by first | exact nobehind _ (by decide) (by decide) | rfl) : EvB X (.Compare a [.In] [b] pos) r L (hasD d i) Lb := by
  refine ⟨fun W H σ Q s en q => ?_⟩
  refine wp_pt (pt_cmp (pc_din ct.u1 pe_wp pe_wp) h1) ?_
  refine ha W H σ _ s en fun x W1 H1 st1 s1 r1 => ?_
  refine hb W1 H1 σ _ s1 (en.step st1 s) fun z W2 H2 st2 s2 r2 => ?_
  cases r1
  obtain ⟨ad, vs, rfl, hr, hl, rr⟩ := dm_at s2 r2 hd
  exact ⟨ad, _, rfl, .inl ⟨_, Sum.inl i, hr, rfl, rfl⟩, _, rfl, by rw [in_dict rr]; exact q W2 H2 (st1.trans st2) s2⟩
theorem tb_ninD (ct : Cq cm CX P w K mg base k N sc fs X) (ha : Ev X a r L (.v (I i)) L1) (hb : Ev X b r L1 (.v t) Lb) (hd : DM Lb t (eD ea d)) (h1 : behindInMarks .NotIn b = false := by first | exact nobehind _ (by decide) (by decide) | rfl) : EvB X (.Compare a [.NotIn] [b] pos) r L (!hasD d i) Lb := by
  refine ⟨fun W H σ Q s en q => ?_⟩
  refine wp_pt (pt_cmp (pc_dnotin ct.u1 pe_wp pe_wp) h1) ?_
  refine ha W H σ _ s en fun x W1 H1 st1 s1 r1 => ?_
  refine hb W1 H1 σ _ s1 (en.step st1 s) fun z W2 H2 st2 s2 r2 => ?_
  cases r1
  obtain ⟨ad, vs, rfl, hr, hl, rr⟩ := dm_at s2 r2 hd
  exact ⟨ad, _, rfl, .inl ⟨_, Sum.inl i, hr, rfl, rfl⟩, _, rfl, by rw [in_dict rr]; exact q W2 H2 (st1.trans st2) s2⟩
/-- d.setdefault(k, v) as a statement -/
theorem sdf_keys {v : α} {k : Int} (h : hasD d k = false) : putKs (d.map fun q => (Sum.inl q.1 : Key)) (Sum.inl k) = (sdfD d k v).map fun q => Sum.inl q.1 := by
  rw [keys_put (v := v)]
  unfold putD sdfD
  simp [h]
theorem wb_sdf {y : α} {apos : Pos} {Sf : List (Int × α) → Store} {kf : List (Int × α) → Fl σ ρ} (ct : Cq cm CX P w K mg base k N sc fs X) (ho : Ev X o r L (.v (.cel m)) L) (hi : Ev X e r L (.v (I i)) L) (hf : Ev X f r L (.v (ea y)) L) (hl : L m = some (eD ea d)) (hz : d.length ≤ 100000)
    (hst : ∀ z, updS L m (some (eD ea z)) = Sf z) (h : ∀ z, WB X F (rest :: bs) r (Sf z) (kf z))
    (h1 : attributeBase o "setdefault" X.env (eval o X.env) = eval o X.env := by rfl) (h2 : ((backTo pos (starEach [e, f] X.env)).all (fun x => !x.1) && (backToKw pos (keywordEach [] X.env)).all (fun x => x.1.isSome)
    && decide (([e, f] : List Expr).length + ([] : List Keyword).length + (if ([] : List Keyword).isEmpty then 0 else 1) < 30)) = true := by rfl) (h3 : (apos.endLine == pos.line) = true := by rfl) (h4 : backTo pos (starEach [e, f] X.env) = [(false, eval e X.env), (false, eval f X.env)] := by rfl)
    (hsw : swapsWith (.Call (.Attribute o "setdefault" apos) [e, f] [] pos) none p.line X.env = pure false := by rfl) : WB X F ((.Expr (.Call (.Attribute o "setdefault" apos) [e, f] [] pos) p :: rest) :: bs) r L (bdV (sdfD d i y) kf) := by
  refine wb1 fun _ => ws_cons ?_
  refine ⟨fun W H σ D s en dd => ?_⟩
  refine wp_ps (ps_expr (pe_dsetd pe_wp pe_wp pe_wp ⟨h1, h2, h3, h4⟩) hsw) ?_
  have hh := h (sdfD d i y)
  rw [← hst] at hh
  refine ho W H σ _ s en fun x W1 H1 st1 s1 r1 => ?_
  obtain ⟨ad, vs1, rfl, hr1, _, _⟩ := dm_at s1 r1 (.inr ⟨m, rfl, hl⟩)
  refine ⟨ad, rfl, .inl ⟨_, hr1⟩, ?_⟩
  refine hi W1 H1 σ _ s1 (en.step st1 s) fun x2 W2 H2 st2 s2 r2 => ?_
  cases r2
  refine hf W2 H2 σ _ s2 (en.step (st1.trans st2) s) fun z W3 H3 st3 s3 r3 => ?_
  have st13 := (st1.trans st2).trans st3
  cases r1 with
  | cel hc =>
    have hc3 := st3.ad m _ (st2.ad m _ hc)
    obtain ⟨vs, e1, l1, rr⟩ := s3.cel m _ _ hl hc3
    have l2 : d.length = vs.length := by rwa [List.length_map] at l1
    refine ⟨_, Sum.inl i, e1, rfl, ?_, fun v hv => ?_, fun hn => ?_⟩
    · have hsz : (100000 : Nat) < sizeLine := by decide
      rw [List.length_zip, List.length_map]; omega
    · have hd : hasD d i = true := by rw [← in_dict rr, hv]; rfl
      have es : sdfD d i y = d := by unfold sdfD; rw [hd]; rfl
      have hw : updS L m (some (eD ea (sdfD d i y))) = L := by rw [es]; exact updS_self hl
      rw [hw] at hh
      exact dd.nx _ _ W3 H3 _ st13 s3 (en.step st13 s) (ws_nil hh)
    · have hd : hasD d i = false := by rw [← in_dict rr, hn]; rfl
      obtain ⟨z1, z2⟩ := putK_zip (k := Sum.inl i) (v := z) l1
      rw [z1]
      have ek := sdf_keys (v := y) hd
      have ev : putTs (d.map fun q => (Sum.inl q.1 : Key)) (d.map fun q => ea q.2) (Sum.inl i) (ea y) = (sdfD d i y).map fun q => ea q.2 := by
        rw [vals_put]; unfold putD sdfD; simp [hd]
      have st4 := Step.write (t' := eD ea (sdfD d i y)) (o := .dK ((putKs (d.map fun q => (Sum.inl q.1 : Key)) (Sum.inl i)).zip (putTs (d.map fun q => (Sum.inl q.1 : Key)) vs (Sum.inl i) z))) (H := H3) hl hc3
      have rp := (rr.put (ks := d.map fun q => (Sum.inl q.1 : Key)) (k := Sum.inl i) r3).write (o := .dK ((putKs (d.map fun q => (Sum.inl q.1 : Key)) (Sum.inl i)).zip (putTs (d.map fun q => (Sum.inl q.1 : Key)) vs (Sum.inl i) z))) s3 hl hc3
      rw [ev] at rp
      have st14 := st13.trans st4
      refine dd.nx _ _ W3 _ _ st14 (s3.write hl hc3 ⟨_, ?_, ?_, rp⟩) (en.step st14 s) (ws_nil hh)
      · rw [upd_same, ek]
      · rw [← ek]; exact z2
end
end TL


/-! Models: cuts backwards, numbers of lists. -/
namespace TL
open PySem PySem.Spec PyProof.Rows L2
theorem bounds0 (n : Nat) (h : 0 < n) : sliceBounds none (some 0) (some (-1)) n = ((n : Int) - 1, 0, -1) := by
  have e : max (-1 : Int) (min 0 ((n : Int) - 1)) = 0 := by omega
  show ((n : Int) - 1, max (-1 : Int) (min 0 ((n : Int) - 1)), (-1 : Int)) = _
  rw [e]
theorem pick_back1 (items : Array Value) : slicePick items none (some 0) (some (-1)) = (items.toList.drop 1).reverse.toArray := by
  by_cases h : items.size = 0
  · have e : items.toList = [] := List.eq_nil_of_length_eq_zero (by rw [Array.length_toList]; exact h)
    unfold slicePick
    rw [h, e]; rfl
  · unfold slicePick
    rw [bounds0 _ (by omega)]
    have e : sliceRange ((items.size : Int) - 1) 0 (-1) = ((List.range (items.size - 1)).map fun k => 1 + k).reverse := by
      have h2 := PySem.W.krv_range (items.size - 1)
      rw [← List.map_reverse, ← h2, List.map_map]
      unfold sliceRange
      have h1 : ¬ ((-1 : Int) > 0) := by decide
      by_cases h3 : (items.size : Int) - 1 > 0
      · have e : ((items.size : Int) - 1 - 0 - -1 - 1) / (- -1) = ((items.size - 1 : Nat) : Int) := by
          rw [show (- -1 : Int) = 1 by decide, Int.ediv_one]; omega
        simp only [h1, if_false, h3, if_true, e, Int.toNat_natCast]
        apply List.map_congr_left
        intro k hk
        have := List.mem_range.mp hk
        show ((items.size : Int) - 1 + -1 * (k : Int)).toNat = 1 + (items.size - 1 - 1 - k)
        omega
      · have e : items.size - 1 = 0 := by omega
        have h4 : ¬ (1 : Int) < items.size := by omega
        rw [e]; simp [h1, h4]
    show ((sliceRange ((items.size : Int) - 1) 0 (-1)).filterMap (items[·]?)).toArray = _
    rw [e, List.filterMap_reverse, pick_run, List.take_of_length_le (by rw [List.length_drop, Array.length_toList]; exact Nat.le_refl _)]
section
variable {X : Cx} {e ue se : Expr} {te tu ts : TE} {p2 pos : Pos}
def tBack1 (K : PySem.W.Frag) (te tu ts : TE) : TE := fun σ H Q => te σ H fun x H1 => tu σ H1 fun z H2 => ts σ H2 fun y H3 => z = .int 0 ∧ y = .int (-1) ∧ ∃ l xs, x = .ref l ∧ SqL K H3 l xs ∧ ∀ p, H3 p = none → Q (.ref p) (upd H3 p (.lst (xs.drop 1).reverse))
theorem vals_drop {xs : List V} {us : List Value} (r : Vals xs us) : ∀ n, Vals (xs.drop n) (us.drop n)
  | 0 => r
  | n + 1 => by
    cases r with
    | nil => exact .nil
    | cons h r => exact vals_drop r n
theorem pe_back1 (he : PE X e te) (hu : PE X ue tu) (hs : PE X se ts) : PE X (.Subscript e (.Slice none (some ue) (some se) p2) pos) (tBack1 X.K te tu ts) := by
  refine ⟨fun pins s σ H Q Iv h => ?_⟩
  refine Subscript_ (thn (he.run pins s σ H _ Iv h) fun v s1 ⟨x, H1, I1, r1, q1⟩ => wpAny_Slice ?_)
  rw [evalPart_none]
  refine wpAny_pure ?_
  rw [evalPart_some]
  refine thn (hu.run pins s1 σ H1 _ I1 q1) fun u0 s2 ⟨z, H2, I2, r2, q2⟩ => ?_
  rw [evalPart_some]
  refine thn (hs.run pins s2 σ H2 _ I2 q2) fun u s3 ⟨y, H3, I3, r3, ez, ey, l, xs, ex, hx, q⟩ => ?_
  subst ey; subst ez; subst ex
  obtain ⟨tk, rfl⟩ := r3
  obtain ⟨tz, rfl⟩ := r2
  have I4 : Inv X pins σ H3 { s3 with heap := s3.heap.push { cls := .type "slice", data := .fields #[.none, .int 0 tz, .int (-1) tk] } } := I3.kept (t' := s3.toks) fun b ob q => Heap.get?_push_of_some _ q
  have isS : (s3.heap.push { cls := .type "slice", data := .fields #[.none, .int 0 tz, .int (-1) tk] }).IsSliceOf s3.heap.objs.size .none (.int 0 tz) (.int (-1) tk) := Heap.IsSliceOf.new ..
  show wpAny (model X.prog X.w) X.A (subscriptTail e (.Slice none (some ue) (some se) p2) v (.ref s3.heap.objs.size)) (EP X pins σ Q) X.xe { s3 with heap := s3.heap.push { cls := .type "slice", data := .fields #[.none, .int 0 tz, .int (-1) tk] } }
  cases r1
  obtain ⟨its, r, isL, hz⟩ := I4.list hx
  refine tail_any (ops := [.ref l, .ref s3.heap.objs.size]) isL.isList.typeIs slot_list_getitem.lookup (wpAny_getItem_list_slice isL.isList isS .none (.int _ _) (.int _ _) (by decide) ?_ (by rw [List.size_toArray, ← r.length]; exact hz)) (by with_unfolding_all rfl)
  rw [pick_back1]
  refine ⟨.ref _, _, I4.laid (t' := s3.toks) (o := .lst (xs.drop 1).reverse) (fun b ob q => Heap.get?_push_of_some _ q) (Nat.le_refl _) ?_, rfl, q _ (I4.hok.fresh (Nat.le_refl _))⟩
  exact ⟨by rw [List.length_reverse, List.length_drop]; omega, _, 0, vals_rev (vals_drop r 1), Heap.get?_push_size _ rfl⟩
end
section
variable {cm : Bool} {CX : CXT} {P : Program} {w : World} {K : PySem.W.Frag} {mg : Str → Option Value} {base : Heap} {k : Nat} {N : List Str} {sc : Scope} {fs : Str → Bool} {X : Cx}
variable {e a b c : Expr} {es : List Expr} {r : TEnv} {L L1 Lb : Store} {t u : T} {ts : List T} {pos p p2 : Pos} {i j : Int} {α : Type} {ea : α → T} {xs : List α}
theorem tv_back1 {j1 p1 j3 p3 p4} (ha : Ev X a r L (.v t) L1) (hl : LstT L1 t (xs.map ea)) : Ev X (.Subscript a (.Slice none (some (.Constant (.int 0) j1 p1)) (some (.UnaryOp .USub (.Constant (.int 1) j3 p3) p4)) p2) pos) r L (.n (eL ea (xs.drop 1).reverse)) L1 := by
  refine ⟨fun W H σ Q s en q => ?_⟩
  refine wp_pe (pe_back1 pe_wp pe_int (pe_un un_neg pe_int)) ?_
  refine ha W H σ _ s en fun x W1 H1 st1 s1 r1 => ?_
  obtain ⟨l, vs, rfl, hq, rr⟩ := lst_sq s1 r1 hl
  refine ⟨1, rfl, rfl, rfl, l, vs, rfl, hq, fun p hp => ?_⟩
  have e2 : ((xs.drop 1).reverse).map ea = ((xs.map ea).drop 1).reverse := by rw [List.map_reverse, List.map_drop]
  rw [show eL ea (xs.drop 1).reverse = T.lst (((xs.map ea).drop 1).reverse) from congrArg T.lst e2] at q
  exact q _ W1 _ (st1.trans (.newp hp)) (s1.new hp) ((new_n (t := .lst _) s1 hp ⟨_, upd_same, ((rr.drop 1).reverse).newp hp⟩).back st1.dom)
theorem tv_min2 (ct : Cq true CX P w K mg base k N sc fs X) (hm : mg "min" = none) (ha : EvA X [a, b] r L [I i, I j] L1) (hg : glOk sc "min" = true := by decide +kernel) (he : starEach [a, b] X.env = (false, eval a X.env) :: starEach [b] X.env := by rfl) (hpl : (backTo pos (starEach [b] X.env)).any (·.1) = false := by rfl) : Ev X (.Call (.Name "min" p) [a, b] [] pos) r L (.v (I (min i j))) L1 :=
  ev_cb ct (call_min2 (ct.calm rfl)) (by decide +kernel) hm hg ha (fun W H xs Q s r0 q => by
    obtain ⟨x, y, rfl, r1, r2⟩ := rp2 r0
    cases r1; cases r2
    refine ⟨i, j, rfl, ?_⟩
    have : (if j < i then j else i) = min i j := by split <;> omega
    rw [this]
    exact q _ W H .refl s (.v _)) he hpl
theorem tv_max2 (ct : Cq true CX P w K mg base k N sc fs X) (hm : mg "max" = none) (ha : EvA X [a, b] r L [I i, I j] L1) (hg : glOk sc "max" = true := by decide +kernel) (he : starEach [a, b] X.env = (false, eval a X.env) :: starEach [b] X.env := by rfl) (hpl : (backTo pos (starEach [b] X.env)).any (·.1) = false := by rfl) : Ev X (.Call (.Name "max" p) [a, b] [] pos) r L (.v (I (max i j))) L1 :=
  ev_cb ct (call_max2 (ct.calm rfl)) (by decide +kernel) hm hg ha (fun W H xs Q s r0 q => by
    obtain ⟨x, y, rfl, r1, r2⟩ := rp2 r0
    cases r1; cases r2
    refine ⟨i, j, rfl, ?_⟩
    have : (if j > i then j else i) = max i j := by split <;> omega
    rw [this]
    exact q _ W H .refl s (.v _)) he hpl
/-- truth of a dynamic tree -/
def truT : T → Option Bool
  | .tup ts => some (!ts.isEmpty)
  | .lst ts => some (!ts.isEmpty)
  | .v (.bl b) => some b
  | .v (.int i) => some (i != 0)
  | _ => none
end
end TL


/-! Models: dynamic trees, truths, unpacking. -/
namespace TL
open PySem PySem.Spec PyProof.Rows L2
def tup3 : T → Option (T × T × T)
  | .tup [a, b, c] => some (a, b, c)
  | _ => none
def tup4 : T → Option (T × T × T × T)
  | .tup [a, b, c, d] => some (a, b, c, d)
  | _ => none
section
variable {cm : Bool} {CX : CXT} {P : Program} {w : World} {K : PySem.W.Frag} {mg : Str → Option Value} {base : Heap} {k : Nat} {N : List Str} {sc : Scope} {fs : Str → Bool} {X : Cx}
variable {e a b c : Expr} {es : List Expr} {r : TEnv} {L L1 Lb : Store} {t u : T} {ts : List T} {pos p p2 : Pos} {i j : Int} {α β : Type} {ea : α → T} {eb : β → T} {xs ys : List α} {x : Str}
theorem tv_tup2 {q : T × T} (h : tup2 t = some q) (ha : Ev X a r L (.v t) L1) : Ev X a r L (.v (e2 eT eT q)) L1 := by
  unfold tup2 at h
  split at h
  · cases h; exact ha
  · cases h
theorem tv_tup3 {q : T × T × T} (h : tup3 t = some q) (ha : Ev X a r L (.v t) L1) : Ev X a r L (.v (e3 eT eT eT q)) L1 := by
  unfold tup3 at h
  split at h
  · cases h; exact ha
  · cases h
theorem tv_tup4 {q : T × T × T × T} (h : tup4 t = some q) (ha : Ev X a r L (.v t) L1) : Ev X a r L (.v (e4 eT eT eT eT q)) L1 := by
  unfold tup4 at h
  split at h
  · cases h; exact ha
  · cases h
theorem tb_truV (ha : Ev X a r L (.v (eV ea xs)) L1) (he : ∀ whole, isTrue a X.env whole = (do let v ← whole; standAt a.pos; holding [v] (truthy v)) := by intro _; rfl) : EvB X a r L (!xs.isEmpty) L1 := by
  refine ⟨fun W H σ Q s en q pins st Iv => ?_⟩
  refine isTrue_plain (thn (ha W H σ (fun y H1 => ∃ l vs, y = .ref l ∧ H1 l = some (.tup vs) ∧ vs.isEmpty = xs.isEmpty ∧ Q (!xs.isEmpty) H1) s en (fun y W1 H1 st1 s1 r1 => ?_) pins st Iv) fun v s1 ⟨y, H1, I1, rv, l, vs, ey, hl, hm, q1⟩ => ?_) (he _)
  · cases r1 with
    | tup f hl rr =>
      refine ⟨_, _, rfl, hl, ?_, q W1 H1 st1 s1⟩
      have hlen := rr.length
      rw [List.length_map] at hlen
      rename_i vs
      cases vs <;> cases xs <;> simp_all
  · subst ey
    cases rv
    obtain ⟨its, rr, ht, hz⟩ := I1.tuple (.inl (.inl hl))
    have hsz : (sizeLine : Int) < 2 ^ 63 := by decide
    refine truthy_tuple ht (by rw [List.size_toArray, ← rr.length]; omega) ⟨H1, I1.tok _, ?_⟩
    have e1 : its.toArray.isEmpty = vs.isEmpty := by
      have := rr.length
      cases its <;> cases vs <;> simp_all
    rw [e1, hm]
    exact q1
theorem tv_cutV1 {p2 : Pos} {h : Option Int} (hz : 1 < xs.length) (ha : Ev X a r L (.v (eV ea xs)) L1) {lo : Option Expr} (h1 : EvO X lo r L1 (some 1)) : Ev X (.Subscript a (.Slice lo none none p2) pos) r L (.v (eV ea (xs.drop 1))) L1 := by
  have hs : HT.sIx (xs.map ea).length 0 (some 1) = 1 := by
    rw [List.length_map]; unfold HT.sIx; simp; omega
  have hs2 : HT.sIx (xs.map ea).length (xs.map ea).length none = xs.length := by
    rw [List.length_map]; unfold HT.sIx; simp
  have := ev_cutT (pos := pos) (p2 := p2) ha h1 eo_none (fun z => by
    have := z.1
    rw [hs] at this; cases this)
  have e : cutT (xs.map ea) (some 1) none = (xs.drop 1).map ea := by
    unfold cutT
    rw [hs, hs2, List.take_of_length_le (by rw [List.length_drop, List.length_map]; omega), List.map_drop]
  rw [e] at this
  exact this
theorem tv_eqS {y z : Str} (ha : Ev X a r L (.v (S y)) L1) (hb : Ev X b r L1 (.v (S z)) Lb) : Ev X (.Compare a [.Eq] [b] pos) r L (.v (B (decide (y = z)))) Lb :=
  ev_cmp op_eq ha hb (fun W H x' y' Q s r1 r2 q => by
    cases r1; cases r2
    have : decide (y = z) = decide (V.str y = V.str z) := by
      by_cases e : y = z
      · subst e; simp
      · rw [decide_eq_false e, decide_eq_false (fun q => e (V.str.inj q))]
    exact ⟨rfl, by rw [← this]; exact q _ W H .refl s (.v _)⟩) (nomark _)
theorem tv_neS {y z : Str} (ha : Ev X a r L (.v (S y)) L1) (hb : Ev X b r L1 (.v (S z)) Lb) : Ev X (.Compare a [.NotEq] [b] pos) r L (.v (B (!decide (y = z)))) Lb :=
  ev_cmp op_ne ha hb (fun W H x' y' Q s r1 r2 q => by
    cases r1; cases r2
    have : decide (y = z) = decide (V.str y = V.str z) := by
      by_cases e : y = z
      · subst e; simp
      · rw [decide_eq_false e, decide_eq_false (fun q => e (V.str.inj q))]
    exact ⟨rfl, by rw [← this]; exact q _ W H .refl s (.v _)⟩) (nomark _)
theorem tb_eqS {y z : Str} (ha : Ev X a r L (.v (S y)) L1) (hb : Ev X b r L1 (.v (S z)) Lb) : EvB X (.Compare a [.Eq] [b] pos) r L (decide (y = z)) Lb := eb_eqS ha hb
theorem tb_neS {y z : Str} (ha : Ev X a r L (.v (S y)) L1) (hb : Ev X b r L1 (.v (S z)) Lb) : EvB X (.Compare a [.NotEq] [b] pos) r L (!decide (y = z)) Lb :=
  eb_cmp op_ne ha hb (fun W H x' y' Q s r1 r2 q => by
    cases r1; cases r2
    have : decide (y = z) = decide (V.str y = V.str z) := by
      by_cases e : y = z
      · subst e; simp
      · rw [decide_eq_false e, decide_eq_false (fun q => e (V.str.inj q))]
    exact ⟨rfl, by rw [← this]; exact q _ W H .refl s (.v _)⟩) (nomark _)
end
end TL


/-! Models: displays of dicts. -/
namespace TL
open PySem PySem.Spec PyProof.Rows L2
section
variable {W W1 : Wd} {L L1 : Store} {H H1 : Hp}
/-- what is neither frozen nor a cell stays as it is -/
theorem Step.keepN {a : Addr} {o : HO} (st : Step W L H W1 L1 H1) (e : H a = some o) (f : ¬ W.F a) (hn : ∀ n, Live L n → W.ad n ≠ some a) : H1 a = some o := by
  cases q : LkO o with
  | false => exact st.keep a o e q hn
  | true =>
    rcases st.kd a o e q hn with h | ⟨g, _⟩
    · exact h
    · rcases st.F' a g with h | h | ⟨n, l, h⟩
      · exact absurd h f
      · rw [e] at h; cases h
      · exact absurd h (hn n l)
theorem Step.frzN {a : Addr} (st : Step W L H W1 L1 H1) (e : H a ≠ none) (f : ¬ W.F a) (hn : ∀ n, Live L n → W.ad n ≠ some a) : ¬ W1.F a := fun g => by
  rcases st.F' a g with h | h | ⟨n, l, h⟩
  · exact f h
  · exact e h
  · exact hn n l h
theorem Step.adN {a : Addr} (st : Step W L H W1 L1 H1) (e : H a ≠ none) (hn : ∀ n, Live L n → W.ad n ≠ some a) : ∀ n, Live L1 n → W1.ad n ≠ some a := fun n l h => by
  cases q : W.ad n with
  | none => exact e (st.new n a q h)
  | some b =>
    have := st.ad n b q
    rw [h] at this; cases this
    exact hn n (st.live n (by rw [q]; exact fun z => nomatch z) l) q
end
theorem putK_new {kvs : List (Key × V)} {k : Key} {v : V} (h : k ∉ kvs.map (·.1)) : putK kvs k v = kvs ++ [(k, v)] := by
  unfold putK
  rw [if_neg]
  intro z
  rw [List.any_eq_true] at z
  obtain ⟨x, hx, e⟩ := z
  exact h (List.mem_map.mpr ⟨x, hx, of_decide_eq_true e⟩)
theorem mergeK_nodup : ∀ {kvs acc : List (Key × V)}, ((acc ++ kvs).map (·.1)).Nodup → mergeK acc kvs = acc ++ kvs
  | [], acc, _ => by rw [List.append_nil]; rfl
  | q :: kvs, acc, h => by
    show mergeK (putK acc q.1 q.2) kvs = _
    have hq : q.1 ∉ acc.map (·.1) := by
      rw [List.map_append, List.nodup_append] at h
      intro z
      exact h.2.2 q.1 z q.1 (by simp) rfl
    rw [putK_new hq, mergeK_nodup (by rw [List.append_assoc]; exact h), List.append_assoc]; rfl
section
variable {cm : Bool} {CX : CXT} {P : Program} {w : World} {K : PySem.W.Frag} {mg : Str → Option Value} {base : Heap} {k : Nat} {N : List Str} {sc : Scope} {fs : Str → Bool} {X : Cx}
variable {e a b c : Expr} {es : List Expr} {r : TEnv} {L L1 Lb : Store} {t u : T} {ts : List T} {pos p p2 : Pos} {i j : Int} {α β : Type} {ea : α → T} {eb : β → T} {xs ys : List α} {x : Str} {ks : List Key} {keys : List (Option Expr)} {values : List Expr} {key : Key}
def lookK : List Key → List T → Key → Option T
  | k :: ks, t :: ts, q => if k = q then some t else lookK ks ts q
  | _, _, _ => none
theorem lookK_zip {K : PySem.W.Frag} {W : Wd} {H : Hp} {q : Key} {t : T} : ∀ {ks : List Key} {ts : List T} {vs : List V}, RpL K W H ts vs → lookK ks ts q = some t → ∃ v, valV (ks.zip vs) q = some v ∧ Rp K W H t v
  | [], _, _, _, h => by cases h
  | _ :: _, [], _, _, h => by cases h
  | k :: ks, u :: ts, _, rr, h => by
    cases rr with
    | cons r1 rr =>
      unfold lookK at h
      by_cases e : k = q
      · subst e
        rw [if_pos rfl] at h; cases h
        refine ⟨_, ?_, r1⟩
        unfold valV
        rw [List.zip_cons_cons, List.find?_cons]
        simp only [decide_true]; rfl
      · rw [if_neg e] at h
        obtain ⟨v, e1, e2⟩ := lookK_zip rr h
        refine ⟨v, ?_, e2⟩
        unfold valV at e1 ⊢
        rw [List.zip_cons_cons, List.find?_cons]
        simp only [decide_eq_false e]
        exact e1
structure EvPs (X : Cx) (pos : Pos) (keys : List (Option Expr)) (values : List Expr) (r : TEnv) (L : Store) (ks : List Key) (ts : List T) (L1 : Store) : Prop where
  ex : ∃ trs, PPs X pos keys values trs ∧ ∀ (W : Wd) (H : Hp) (σ : L2.St) (Q : List (V × V) → Hp → Prop), SR X.K W H L → EnvR X.K W H r σ → (∀ vs W' H', Step W L H W' L1 H' → SR X.K W' H' L1 → RpL X.K W' H' ts vs → Q ((ks.map kV).zip vs) H') → tPairs trs σ H Q
theorem ed_nil : EvPs X pos [] [] r L [] [] L := ⟨_, pps_nil, fun W H σ Q s en q => q [] W H .refl s .nil⟩
theorem ed_cons (hk : Ev X a r L (.v (.v (kV key))) L) (hv : Ev X b r L (.v t) L1) (h : EvPs X pos keys values r L1 ks ts Lb) : EvPs X pos (some a :: keys) (b :: values) r L (key :: ks) (t :: ts) Lb := by
  obtain ⟨trs, p, q⟩ := h.ex
  refine ⟨_, pps_cons pe_wp pe_wp p, fun W H σ Q s en k => ?_⟩
  refine hk W H σ _ s en fun x W1 H1 st1 s1 r1 => ?_
  cases r1
  refine hv W1 H1 σ _ s1 (en.step st1 s) fun y W2 H2 st2 s2 r2 => ?_
  have st12 := st1.trans st2
  refine q W2 H2 σ _ s2 (en.step st12 s) fun vs W3 H3 st3 s3 r3 => ?_
  exact k _ W3 H3 (st12.trans st3) s3 (.cons (r2.step st3 s2) r3)
theorem ev_disp (h : EvPs X pos keys values r L ks ts L1) (hn : ks.Nodup) (hall : keys.all (·.isSome) = true := by rfl) (hl : keys.length = values.length := by rfl) (h0 : keys ≠ [] := by intro h; cases h) (h15 : keys.length ≤ 15 := by decide) (hk : ks.length ≤ 15 := by decide) (ht : ts.length = ks.length := by rfl) : Ev X (.Dict keys values pos) r L (.n (.dK ks ts)) L1 := by
  obtain ⟨trs, p, q⟩ := h.ex
  refine ⟨fun W H σ Q s en k => ?_⟩
  refine wp_pe (pe_disp p hall hl h0 h15) ?_
  intro d hd
  have st0 : Step W L H W L (upd H d (.dK [])) := .newp hd
  have s0 := s.new (o := .dK []) hd
  have f0 : ¬ W.F d := fun f => s.fh d f hd
  have n0 : ∀ n, Live L n → W.ad n ≠ some d := fun n l z => s.adh n d l z hd
  refine q W _ σ _ s0 (en.step st0 s) fun vs W1 H1 st1 s1 r1 => ?_
  have ee : upd H d (.dK []) d ≠ none := by rw [upd_same]; exact fun z => nomatch z
  have k1 := st1.keepN upd_same f0 n0
  have f1 := st1.frzN ee f0 n0
  have n1 := st1.adN ee n0
  have hlen : ks.length = vs.length := by rw [← ht]; exact r1.length
  refine ⟨k1, ks.zip vs, ?_, by rw [List.length_zip]; omega, ?_⟩
  · rw [show (fun kv : Key × V => (kV kv.1, kv.2)) = Prod.map kV id from rfl, ← List.zip_map_left]
  · have hm : mergeK [] (ks.zip vs) = ks.zip vs := by
      rw [mergeK_nodup]; rfl
      rw [List.nil_append, List.map_fst_zip (by omega)]; exact hn
    rw [hm]
    have st2 : Step W L H W1 L1 (upd H1 d (.dK (ks.zip vs))) := by
      have st01 := st0.trans st1
      refine ⟨st01.F, st01.F', st01.ad, st01.new, st01.live, fun a o e lk hn => ?_, fun a o e lk hn => ?_, fun a h => ?_⟩
      · rw [upd_ne (ne_of_none e hd)]; exact st01.keep a o e lk hn
      · rw [upd_ne (ne_of_none e hd)]; exact st01.kd a o e lk hn
      · by_cases z : a = d
        · subst z; rw [upd_same]; exact fun z => nomatch z
        · rw [upd_ne z]; exact st01.dom a h
    have s2 : SR X.K W1 (upd H1 d (.dK (ks.zip vs))) L1 := s1.loose f1 n1
    exact k _ W1 _ st2 s2 ⟨d, rfl, hd, f1, n1, vs, upd_same, hlen, RpL.loose f1 r1⟩
theorem tv_dict1 {y : α} (ct : Cq cm CX P w K mg base k N sc fs X) (ha : Ev X a r L (.v (I i)) L) (hb : Ev X b r L (.v (ea y)) L1) : Ev X (.Dict [some a] [b] pos) r L (.n (eD ea [(i, y)])) L1 :=
  ev_disp (ks := [Sum.inl i]) (ts := [ea y]) (ed_cons (key := Sum.inl i) ha hb ed_nil) (by simp) (h15 := by simp) (hk := by simp)
/-- an item by a key that is a text -/
theorem tv_rec (ct : Cq cm CX P w K mg base k N sc fs X) {key : Str} (ha : Ev X a r L (.v (.dK ks ts)) L1) (hb : Ev X b r L1 (.v (S key)) L1) (hl : lookK ks ts (Sum.inr key) = some t) (hs : NoSl b := by exact fun _ _ => rfl) : Ev X (.Subscript a b pos) r L (.v t) L1 := by
  refine ⟨fun W H σ Q s en q => ?_⟩
  refine wp_pe (pe_dget ct.u1 pe_wp pe_wp hs) ?_
  refine ha W H σ _ s en fun x W1 H1 st1 s1 r1 => ?_
  refine hb W1 H1 σ _ s1 (en.step st1 s) fun z W2 H2 st2 s2 r2 => ?_
  cases r2
  cases r1.step st2 s1 with
  | dK fa hd hz rr =>
    rename_i ad vs
    obtain ⟨v, e1, e2⟩ := lookK_zip rr hl
    exact ⟨ad, v, rfl, .inl ⟨_, Sum.inr key, hd, rfl, e1.symm⟩, q v W2 H2 (st1.trans st2) s2 e2⟩
end
end TL
namespace TL
open PySem PySem.Spec PyProof.Rows L2
section
variable {X : Cx} {a : Expr} {r : TEnv} {L L1 : Store} {t : T} {α : Type} {ea : α → T} {d : List (Int × α)}
theorem tb_truD (ha : Ev X a r L (.v t) L1) (hd : DM L1 t (eD ea d)) (he : ∀ whole, isTrue a X.env whole = (do let v ← whole; standAt a.pos; holding [v] (truthy v)) := by intro _; rfl) : EvB X a r L (!d.isEmpty) L1 := by
  refine ⟨fun W H σ Q s en q pins st Iv => ?_⟩
  refine isTrue_plain (thn (ha W H σ (fun y H1 => ∃ l kvs, y = .ref l ∧ Rd H1 l (.dK kvs) ∧ kvs.isEmpty = d.isEmpty ∧ Q (!d.isEmpty) H1) s en (fun y W1 H1 st1 s1 r1 => ?_) pins st Iv) fun v s1 ⟨y, H1, I1, rv, l, kvs, ey, hl, hm, q1⟩ => ?_) (he _)
  · obtain ⟨ad, vs, rfl, hr, hl, rr⟩ := dm_at s1 r1 hd
    refine ⟨_, _, rfl, hr, ?_, q W1 H1 st1 s1⟩
    cases d <;> cases vs <;> simp_all
  · subst ey
    cases rv
    refine d_truth I1 hl fun s2 I2 => ⟨H1, I2, ?_⟩
    rw [hm]
    exact q1
end
end TL


/-! Models: ranges of numbers of any size. -/
namespace TL
open PySem PySem.Spec PyProof.Rows L2
theorem turn_lng {P : Program} {w : World} {K : PySem.W.Frag} {tg : Expr} (itA : Addr) (a0 c0 : Int) (m : Nat) : Turn P w K tg (Itc a0 c0 m) [itA] itA (fun j hp => IsLongIter hp itA (a0 + (j : Nat) * c0) ((m : Int) - (j : Nat)) c0) := by
  refine ⟨by simp, fun j hp st b hb => ?_, fun j hp hp' st kp => kp itA (by simp) _ st, ?_, ?_, fun A j s Q E st h => wpAny_pyIter_longiter st h⟩
  · rw [List.mem_singleton.mp hb]
    exact ⟨_, st, fun v z => nomatch z⟩
  · intro Y e1 e2 e3 cm j pins s σ H E Iv hfp st hgo
    subst e1; subst e2; subst e3
    obtain ⟨z0, z1, z2, z3, z4, z5⟩ := hfp itA (by simp)
    have wk := Walks.longrange (prog := Y.prog) (w := Y.w) (A := Y.A) (Iv.ok.hd cm) itA a0 c0 m
    refine wk.item j s _ _ hgo st fun v hp' tk hv st2 kp => ?_
    obtain ⟨tt, rfl⟩ := hv
    have Iw : Inv Y pins σ H { s with heap := hp', toks := tk } := Iv.turned (fun b ob hb eo => kp b ob (by simpa using hb) eo) z0 z1 z3 z4 z5
    refine ⟨_, rfl, ?_⟩
    refine go_of (n := "longrange_iterator") (s := { s with heap := hp', toks := tk }) st2 rfl rfl (by decide) ?_
    exact ⟨V.int (a0 + (j : Nat) * c0), H, Iw, ⟨tt, rfl⟩, ⟨rfl, rfl⟩, st2, fun b hb => (hfp b hb).1⟩
  · intro Y e1 e2 e3 cm j pins s σ H E Iv hfp st hgo
    subst e1; subst e2; subst e3
    obtain ⟨z0, z1, z2, z3, z4, z5⟩ := hfp itA (by simp)
    have hm : m ≤ j := hgo
    refine wpAny_pyNext_long_end (Iv.ok.hd cm) st (by omega) fun hp' eb => ⟨rfl, ?_⟩
    exact Iv.turned (t' := s.toks) (fun b ob hb eo => eb b ob hb eo) z0 z1 z3 z4 z5
/-- a range object just made, whatever its numbers -/
theorem rng_it {X : Cx} {tg : Expr} {pins : List (Addr × Obj)} {σ : L2.St} {H : Hp} {s : Shared} {R : It → Hp → Prop} {E : Value → Shared → Prop} {lo hi c : Int} {m : Nat} {t u v : Tok} {tk : Nat} (Iv : Inv X pins σ H s) (hm : Builtin.Range.rangeSize lo hi c = (m : Int)) (q : R (Itc lo c m) H) :
    wpAny (model X.prog X.w) X.A (pyIter (.ref s.heap.objs.size)) (PIE X pins σ tg R) E { s with heap := s.heap.push { cls := .type "range", data := .fields #[.int lo t, .int hi u, .int c v] }, toks := tk } := by
  have I1 : Inv X pins σ H { s with heap := s.heap.push { cls := .type "range", data := .fields #[.int lo t, .int hi u, .int c v] }, toks := tk } := Iv.kept fun b o e => Heap.get?_push_of_some _ e
  have e1 : lo + ((0 : Nat) : Int) * c = lo := by simp
  have e2 : (m : Int) - ((0 : Nat) : Int) = Builtin.Range.rangeSize lo hi c := by rw [hm]; simp
  cases hs : Builtin.Range.small lo hi c with
  | true =>
    refine wpAny_pyIter_range (IsRange.new ..) hs ?_
    refine pi_one (tk := tk) I1 _ (turn_rangeC _ lo c m) ?_ q
    show IsRangeIter _ _ (lo + ((0 : Nat) : Int) * c) ((m : Int) - ((0 : Nat) : Int)) c
    rw [e1, e2]
    exact Heap.get?_push_size _ rfl
  | false =>
    refine wpAny_pyIter_longrange (IsRange.new ..) hs ?_
    refine pi_one (tk := tk) I1 _ (turn_lng _ lo c m) ?_ q
    show IsLongIter _ _ (lo + ((0 : Nat) : Int) * c) ((m : Int) - ((0 : Nat) : Int)) c
    rw [e1, e2]
    exact Heap.get?_push_size _ rfl
section
variable {cm : Bool} {CX : CXT} {P : Program} {w : World} {K : PySem.W.Frag} {mg : Str → Option Value} {base : Heap} {k : Nat} {N : List Str} {sc : Scope} {fs : Str → Bool} {X : Cx}
variable {a b c tg : Expr} {r : TEnv} {L L1 : Store} {pos p : Pos} {i j : Int}
theorem walk_stp {W : Wd} {H : Hp} {lo c : Int} {m : Nat} {ts : List T} (hl : ts.length = m) (ht : ∀ (n : Nat) (h : n < m), ts[n]? = some (I (lo + (n : Nat) * c))) : WalkT K W L H (Itc lo c m) ts where
  turn := fun n t hn W1 Lb H1 st s1 => by
    have hlt : n < m := by rw [← hl]; exact (List.getElem?_eq_some_iff.mp hn).1
    refine ⟨hlt, fun x H2 hy => ?_⟩
    obtain ⟨rfl, rfl⟩ := hy
    rw [ht n hlt] at hn; cases hn
    exact ⟨W1, .refl, s1, .v _⟩
  stop := fun W1 Lb H1 st s1 => by rw [hl]; exact Nat.le_refl _
theorem pi_rngW (hg : Gl X "range") (hm : X.mg "range" = none) {ta : TA} (ha : PA X [a, b] ta) (hs : starEach [a, b] X.env = [(false, eval a X.env), (false, eval b X.env)] := by rfl) (hs2 : starEach [b] X.env = [(false, eval b X.env)] := by rfl) :
    PI X tg (.Call (.Name "range" p) [a, b] [] pos) (fun σ H R => ta σ H fun vs H1 => ∃ i j : Int, vs = [.int i, .int j] ∧ R (Itc i 1 (j - i).toNat) H1) := by
  refine ⟨fun pins s σ H R Iv h => ?_⟩
  refine Call_ (ld_blt Iv hg hm boot_range (PyProof.Rows.callWith_type1 (thn (ha.run pos pins s σ H _ Iv h) fun us s1 ⟨vs, H1, I1, rv, i, j, ev, q⟩ => ?_) (by rw [hs, hs2]) (by rw [hs2]; rfl)))
  subst ev
  cases rv with
  | cons r1 rv =>
    cases rv with
    | cons r2 rv =>
      cases rv
      obtain ⟨t1, rfl⟩ := r1
      obtain ⟨t2, rfl⟩ := r2
      exact call_range_2 (rng_it I1 (by rw [rangeSize_one]; split <;> omega) q)
theorem pi_rngD (hg : Gl X "range") (hm : X.mg "range" = none) {ta : TA} (ha : PA X [a, b, c] ta) (hs : starEach [a, b, c] X.env = (false, eval a X.env) :: starEach [b, c] X.env := by rfl) (hpl : (backTo pos (starEach [b, c] X.env)).any (·.1) = false := by rfl) :
    PI X tg (.Call (.Name "range" p) [a, b, c] [] pos) (fun σ H R => ta σ H fun vs H1 => ∃ i j : Int, vs = [.int i, .int j, .int (-1)] ∧ R (Itc i (-1) (i - j).toNat) H1) := by
  refine ⟨fun pins s σ H R Iv h => ?_⟩
  refine Call_ (ld_blt Iv hg hm boot_range (PyProof.Rows.callWith_type1 (thn (ha.run pos pins s σ H _ Iv h) fun us s1 ⟨vs, H1, I1, rv, i, j, ev, q⟩ => ?_) hs hpl))
  subst ev
  cases rv with
  | cons r1 rv =>
    cases rv with
    | cons r2 rv =>
      cases rv with
      | cons r3 rv =>
        cases rv
        obtain ⟨t1, rfl⟩ := r1
        obtain ⟨t2, rfl⟩ := r2
        obtain ⟨t3, rfl⟩ := r3
        exact call_range_3 (by decide) (rng_it (tk := s1.toks) I1 (PySem.W.rangeSize_downNat i j) q) (.inl (PyProof.noPylong_small (by decide)))
theorem kr2w (ct : Cq cm CX P w K mg base k N sc fs X) (hm : mg "range" = none) (h : EvA X [a, b] r L [I i, I j] L1) (hg : glOk sc "range" = true := by decide +kernel) (hs : starEach [a, b] X.env = [(false, eval a X.env), (false, eval b X.env)] := by rfl) (hs2 : starEach [b] X.env = [(false, eval b X.env)] := by rfl) :
    EvI X tg (.Call (.Name "range" p) [a, b] [] pos) r L ((TL.rangeT i (j - i).toNat).map I) L1 := by
  refine ⟨fun W H σ R s en q => ?_⟩
  refine wp_pi (pi_rngW (ct.gl hg) (by rw [ct.hmg]; exact hm) pa_wp hs hs2) ?_
  refine h W H σ _ s en fun xs W1 H1 st1 s1 r1 => ?_
  cases r1 with
  | cons r1 rr => cases rr with
    | cons r2 rr =>
      cases rr; cases r1; cases r2
      refine ⟨i, j, rfl, q _ W1 H1 st1 s1 (walk_stp (by rw [List.length_map, length_rangeT]) fun n hn => ?_)⟩
      unfold TL.rangeT
      rw [List.map_map, List.getElem?_map, List.getElem?_range hn]
      simp
theorem tv_rangeD (ct : Cq cm CX P w K mg base k N sc fs X) (hm : mg "range" = none) (h : EvA X [a, b, c] r L [I i, I j, I (-1)] L1) (hg : glOk sc "range" = true := by decide +kernel) (hs : starEach [a, b, c] X.env = (false, eval a X.env) :: starEach [b, c] X.env := by rfl) (hpl : (backTo pos (starEach [b, c] X.env)).any (·.1) = false := by rfl) :
    EvI X tg (.Call (.Name "range" p) [a, b, c] [] pos) r L ((rangeD i (i - j).toNat).map I) L1 := by
  refine ⟨fun W H σ R s en q => ?_⟩
  refine wp_pi (pi_rngD (ct.gl hg) (by rw [ct.hmg]; exact hm) pa_wp hs hpl) ?_
  refine h W H σ _ s en fun xs W1 H1 st1 s1 r1 => ?_
  cases r1 with
  | cons r1 rr => cases rr with
    | cons r2 rr => cases rr with
      | cons r3 rr =>
        cases rr; cases r1; cases r2; cases r3
        refine ⟨i, j, rfl, q _ W1 H1 st1 s1 (walk_stp (by unfold rangeD; rw [List.length_map, List.length_map, List.length_range]) fun n hn => ?_)⟩
        unfold rangeD
        rw [List.map_map, List.getElem?_map, List.getElem?_range hn]
        show some (I (i - (n : Int))) = some (I (i + (n : Int) * -1))
        rw [show i + (n : Int) * -1 = i - n by omega]
end
end TL


/-! Models of the wells' defs of family A (walked by hand in wel.part). -/
namespace TL
open PySem PySem.Spec PyProof.Rows L2
noncomputable section
def m_A_well (c : Int) : Rs W3 := .rt (well0 c)
def m_A_draw (w : W3) (s : Int) : Rs (Int × W3) := bdP (w.Ok 900000 ∧ 0 < s ∧ s < 1000000) (.rt (drV w s, drW w s))
def m_A_one {α : Type} (w : W3) (xs : List α) : Rs (α × W3) := bdP (w.Ok 900000 ∧ 0 < xs.length ∧ xs.length < 1000) (bdO xs[(drV w xs.length).toNat]? fun v => .rt (v, drW w xs.length))
def m_A_parts (w : W3) (n most : Int) (rh : List Int) : Rs (Tw × W3) := bdP (w.Ok 700000 ∧ 1 ≤ n ∧ n ≤ 8 ∧ 0 ≤ most ∧ most ≤ 12 ∧ RhOk rh) (.rt (partsF n most rh w))
def m_A_made (q : Tw) : Rs Tw := bdP (PartsOk q) (.rt q.made)
end
theorem bdP_rt {σ ρ : Type} {p : Prop} {k : Fl σ ρ} {v : ρ} (h : bdP p k = .rt v) : p ∧ k = .rt v := by
  unfold bdP at h
  split at h
  · rename_i hp; exact ⟨hp, h⟩
  · cases h
theorem bdP_yes {σ ρ : Type} {p : Prop} {k : Fl σ ρ} (h : p) : bdP p k = k := by unfold bdP; rw [if_pos h]
theorem obP_yes {β : Type} {p : Prop} {k : Option β} (h : p) : obP p k = k := by unfold obP; rw [if_pos h]
theorem bdO_some {α σ ρ : Type} {v : α} {k : α → Fl σ ρ} : bdO (some v) k = k v := rfl
theorem obd_some {α β : Type} {v : α} {k : α → Option β} : obd (some v) k = k v := rfl
theorem bdF_rt {α σ ρ : Type} {v : α} {k : α → Fl σ ρ} : bdF (.rt v) k = k v := rfl
theorem bdL_nx {σ σ' ρ : Type} {v : σ} {k : σ → Fl σ' ρ} : bdL (.nx v) k = k v := rfl
theorem bdL_rt {σ σ' ρ : Type} {v : ρ} {k : σ → Fl σ' ρ} : bdL (.rt v : Fl σ ρ) k = .rt v := rfl
theorem okO_rt {α : Type} {v : α} : okO (.rt v : Rs α) = some v := rfl
theorem ifF_t {σ ρ : Type} {a b : Fl σ ρ} : ifF true a b = a := rfl
theorem ifF_f {σ ρ : Type} {a b : Fl σ ρ} : ifF false a b = b := rfl
section
variable {P : Program} {w : World} {K : PySem.W.Frag} {mg : Str → Option Value} {base : Heap} {CX : CXT} {j : Nat} {x : Str} {ps : List Str} {R1 R2 : Rel}
theorem famA_draw (D : DefT CX P w K mg base j x ps R_draw) : DefT CX P w K mg base j x ps (fun ts L r L' => ∃ (n : Nat) (q : W3) (s : Int) (B : Store) (v : Int × W3), ts = [.cel n, I s] ∧ L = updS B n (some (tW q)) ∧ m_A_draw q s = .rt v ∧ r = .v (I v.1) ∧ L' = updS B n (some (tW v.2))) :=
  D.imp fun ts L r L' ⟨n, q, s, B, v, h1, h2, h3, h4, h5⟩ => by
    obtain ⟨⟨a1, a2, a3⟩, e⟩ := bdP_rt h3
    cases e
    exact ⟨n, q, s, 900000, h1, by rw [h2, updS_same], a1, by decide, a2, a3, h4, by rw [h5, h2, updS_updS]⟩
theorem famA_one (D : DefT CX P w K mg base j x ps R_one) : DefT CX P w K mg base j x ps (fun ts L r L' => ∃ (α : Type) (ea : α → T) (n : Nat) (q : W3) (xs : List α) (B : Store) (v : α × W3), ts = [.cel n, eL ea xs] ∧ L = updS B n (some (tW q)) ∧ m_A_one q xs = .rt v ∧ r = .v (ea v.1) ∧ L' = updS B n (some (tW v.2))) :=
  D.imp fun ts L r L' ⟨α, ea, n, q, xs, B, v, h1, h2, h3, h4, h5⟩ => by
    obtain ⟨⟨a1, a2, a3⟩, e⟩ := bdP_rt h3
    cases hx : xs[(drV q xs.length).toNat]? with
    | none => rw [hx] at e; cases e
    | some y =>
      rw [hx] at e; cases e
      refine ⟨n, q, xs.map ea, 900000, h1, by rw [h2, updS_same], a1, by decide, by rw [List.length_map]; exact a2, by rw [List.length_map]; exact a3, ?_, ?_⟩
      · rw [h4]
        unfold oneV
        rw [List.length_map, List.getD_eq_getElem?_getD, List.getElem?_map, hx]; rfl
      · rw [h5, h2, updS_updS, List.length_map]
theorem famA_parts (D : DefT CX P w K mg base j x ps R_parts) : DefT CX P w K mg base j x ps (fun ts L r L' => ∃ (n : Nat) (q : W3) (m most : Int) (rh : List Int) (B : Store) (v : Tw × W3), ts = [.cel n, I m, I most, eL I rh] ∧ L = updS B n (some (tW q)) ∧ m_A_parts q m most rh = .rt v ∧ r = .v (tParts v.1) ∧ L' = updS B n (some (tW v.2))) :=
  D.imp fun ts L r L' ⟨n, q, m, most, rh, B, v, h1, h2, h3, h4, h5⟩ => by
    obtain ⟨⟨a1, a2, a3, a4, a5, a6⟩, e⟩ := bdP_rt h3
    cases e
    exact ⟨n, q, 700000, m, most, rh, h1, by rw [h2, updS_same], a1, by decide, a2, a3, a4, a5, a6, h4, by rw [h5, h2, updS_updS]⟩
theorem famA_well (D : DefT CX P w K mg base j x ps R_well) : DefT CX P w K mg base j x ps (fun ts L r L' => ∃ (c : Int) (v : W3), ts = [I c] ∧ m_A_well c = .rt v ∧ r = .n (tW v) ∧ L' = L) :=
  D.imp fun ts L r L' ⟨c, v, h1, h3, h4, h5⟩ => by cases h3; exact ⟨c, h1, h4, h5⟩
theorem famA_made {C : Addr} (D : DefT CX P w K mg base j x ps (R_made C)) : DefT CX P w K mg base j x ps (fun ts L r L' => ∃ (q : Tw) (v : Tw), ts = [tParts q] ∧ m_A_made q = .rt v ∧ r = .n (tTw C v) ∧ L' = L) :=
  D.imp fun ts L r L' ⟨q, v, h1, h3, h4, h5⟩ => by
    obtain ⟨a1, e⟩ := bdP_rt h3
    cases e
    exact ⟨q, h1, a1, h4, h5⟩
end
end TL


/-! Models: texts of data, lent lists, new things or None. -/
namespace TL
open PySem PySem.Spec PyProof.Rows L2
/-- the text of a tree -/
def reprT (t : T) : Str := match pd t with
  | some d => d.shown
  | none => ""
def RepOk (t : T) : Prop := ∃ d, pd t = some d ∧ d.showable = true ∧ d.hasDict = false ∧ d.depth ≤ 60 ∧ d.shown.length ≤ sizeLine ∧ (isDisplay d = true ∨ d = .none ∨ (∃ x, d = .str x) ∨ (∃ i, d = .int i ∧ i.natAbs.log2 < 1920) ∨ ∃ b, d = .bool b)
/-- a new thing, or None -/
def rO {α : Type} (e : α → T) : Option α → R
  | none => .v N0
  | some x => .n (e x)
/-- what is asked of a thing that may be None, both ways -/
def optF {α σ ρ : Type} (o : Option α) (a : Fl σ ρ) (k : α → Fl σ ρ) : Fl σ ρ := match o with
  | none => a
  | some v => k v
section
variable {L L1 : Store} {m n c c1 c2 c3 : Nat} {a a' b d e x y : Option T} {t : T} {ts : List T}
theorem updS_out1 (h : c ≠ c1) : updS (updS L c a) c1 b = updS (updS L c1 b) c a := updS_swp h
theorem updS_out2 (h : c ≠ c1) (h2 : c ≠ c2) : updS (updS (updS L c a) c1 b) c2 d = updS (updS (updS L c1 b) c2 d) c a := by rw [updS_out1 h, updS_out1 h2]
theorem updS_out3 (h : c ≠ c1) (h2 : c ≠ c2) (h3 : c ≠ c3) : updS (updS (updS (updS L c a) c1 b) c2 d) c3 e = updS (updS (updS (updS L c1 b) c2 d) c3 e) c a := by rw [updS_out2 h h2, updS_out1 h3]
theorem LstM.up (h : LstM L t ts) (hm : L m = none) : LstM (updS L m x) t ts := by
  rcases h with h | ⟨n, h, e⟩
  · exact .inl h
  · refine .inr ⟨n, h, ?_⟩
    rw [updS_ne (fun z => by subst z; rw [hm] at e; cases e)]; exact e
theorem LstM.tt (h : LstM L t ts) : LstT L t ts := by
  rcases h with h | h
  · exact .inl h
  · exact .inr (.inr h)
end
section
variable {α : Type}
theorem eqT_N_lst {k : Nat} {e : α → T} (h : Dt (eL e) k) (a : List α) : TL.eqT N0 (eL e a) = false ∧ TL.eqT (eL e a) N0 = false := by
  obtain ⟨d, h1, _⟩ := h.ex
  obtain ⟨ds, e1, _⟩ := pd_lst (h1 a).e
  constructor
  · rw [sh_N.eqT (h1 a), e1]; simp [PyData.eqv]
  · rw [(h1 a).eqT sh_N, e1]; simp [PyData.eqv]
theorem pd_tup_of {ts : List T} {d : PyData} (h : pd (.tup ts) = some d) : ∃ ds, d = .tuple ds := by
  unfold pd at h
  cases q : pdL ts with
  | none => rw [q] at h; cases h
  | some ds => rw [q] at h; cases h; exact ⟨ds, rfl⟩
theorem eqT_N_tup {k : Nat} {e : α → T} (h : Dt e k) (ht : ∀ a, ∃ ts, e a = .tup ts) (a : α) : TL.eqT N0 (e a) = false ∧ TL.eqT (e a) N0 = false := by
  obtain ⟨d, h1, _⟩ := h.ex
  obtain ⟨ts, et⟩ := ht a
  have := (h1 a).e
  rw [et] at this
  obtain ⟨ds, e1⟩ := pd_tup_of this
  constructor
  · rw [sh_N.eqT (h1 a), e1]; simp [PyData.eqv]
  · rw [(h1 a).eqT sh_N, e1]; simp [PyData.eqv]
theorem dtOL {e : α → T} {k : Nat} (h : Dt (eL e) k) : Dt (eO (eL e)) k := dtO h (eqT_N_lst h)
theorem dtOT {e : α → T} {k : Nat} (h : Dt e k) (ht : ∀ a, ∃ ts, e a = .tup ts) : Dt (eO e) k := dtO h (eqT_N_tup h ht)
theorem eM_tup (a : Mv) : ∃ ts, eM a = .tup ts := by cases a <;> exact ⟨_, rfl⟩
end
section
variable {cm : Bool} {CX : CXT} {P : Program} {w : World} {K : PySem.W.Frag} {mg : Str → Option Value} {base : Heap} {k : Nat} {N : List Str} {sc : Scope} {fs : Str → Bool} {X : Cx}
variable {e a b c : Expr} {es : List Expr} {r : TEnv} {L L1 Lb : Store} {t u : T} {ts : List T} {pos p p' : Pos} {i j : Int} {α β σ ρ : Type} {ea : α → T} {x : Str}
variable {rest : List Stmt} {bs : List (List Stmt)} {F : Fm σ ρ}
theorem tv_repr (h : RepOk t) (ct : Cq cm CX P w K mg base k N sc fs X) (hm : mg "repr" = none) (ha : EvA X [e] r L [t] L1) (hg : glOk sc "repr" = true := by decide +kernel)
    (he : starEach [e] X.env = (false, eval e X.env) :: starEach [] X.env := by first | with_reducible exact se1 | with_reducible exact se2 | with_reducible exact se3 | with_reducible exact se4 | with_reducible exact se5 | with_reducible exact se6 | with_reducible exact se7 | with_reducible exact se8 | with_reducible exact se9 | rfl) : Ev X (.Call (.Name "repr" p) [e] [] pos) r L (.v (S (reprT t))) L1 := by
  obtain ⟨d, hd, h1, h2, h3, h4, h5⟩ := h
  have er : reprT t = d.shown := by unfold reprT; rw [hd]
  rw [er]
  rcases h5 with h5 | rfl | ⟨x, rfl⟩ | ⟨i, rfl, hi⟩ | ⟨z, rfl⟩
  · exact ev_repr ct hm hg ha hd h1 h2 h3 h4 h5 he rfl
  · refine ev_cb ct call_repr_none PyProof.Rows.boot_repr hm hg ha (fun W H xs Q s r0 q => ?_) he rfl
    obtain ⟨x, rfl, r1⟩ := rp1 r0
    have hx : x = .non := by
      cases r1 with
      | v => unfold pd at hd; cases x <;> first | rfl | (simp [pdV] at hd)
      | lst _ _ _ => obtain ⟨_, e, _⟩ := pd_lst hd; cases e
      | tup _ _ _ => obtain ⟨_, e⟩ := pd_tup_of hd; cases e
      | _ => unfold pd at hd; cases hd
    subst hx
    refine ⟨rfl, ?_⟩
    have e : (PyData.none).shown = ("None" : Str) := PyData.shown_none
    rw [← e]
    exact q _ W H .refl s (Rp.v _)
  · refine ev_cb ct call_repr_str PyProof.Rows.boot_repr hm hg ha (fun W H xs Q s r0 q => ?_) he rfl
    obtain ⟨y, rfl, r1⟩ := rp1 r0
    have hx : y = .str x := by
      cases r1 with
      | v => unfold pd at hd; cases y <;> first | (simp [pdV] at hd; done) | (simp [pdV] at hd; rw [hd])
      | lst _ _ _ => obtain ⟨_, e, _⟩ := pd_lst hd; cases e
      | tup _ _ _ => obtain ⟨_, e⟩ := pd_tup_of hd; cases e
      | _ => unfold pd at hd; cases hd
    subst hx
    refine ⟨x, rfl, ?_, ?_⟩
    · rw [← PyData.shown_str]; exact h4
    · rw [← PyData.shown_str]
      exact q _ W H .refl s (Rp.v _)
  · refine ev_cb ct SkE.call_repr_int PyProof.Rows.boot_repr hm hg ha (fun W H xs Q s r0 q => ?_) he rfl
    obtain ⟨y, rfl, r1⟩ := rp1 r0
    have hx : y = .int i := by
      cases r1 with
      | v => unfold pd at hd; cases y <;> first | (simp [pdV] at hd; done) | (simp [pdV] at hd; rw [hd])
      | lst _ _ _ => obtain ⟨_, e, _⟩ := pd_lst hd; cases e
      | tup _ _ _ => obtain ⟨_, e⟩ := pd_tup_of hd; cases e
      | _ => unfold pd at hd; cases hd
    subst hx
    refine ⟨i, rfl, hi, ?_⟩
    have e : (PyData.int i).shown = (toString i : Str) := by simp only [PyData.shown]
    rw [← e]
    exact q _ W H .refl s (Rp.v _)
  · refine ev_cb (r := fun xs H Q => xs = [.bl z] ∧ Q (.str (if z then "True" else "False")) H) ct (fun pins s σ H xs us Q Iv rv hh => by
      obtain ⟨rfl, q⟩ := hh
      obtain ⟨u, rfl, ru⟩ := vals1 rv
      cases ru
      exact PySem.P.repr_of_bool ⟨.str _, H, Iv.tok _, ⟨_, rfl⟩, q⟩) PyProof.Rows.boot_repr hm hg ha (fun W H xs Q s r0 q => ?_) he rfl
    obtain ⟨y, rfl, r1⟩ := rp1 r0
    have hx : y = .bl z := by
      cases r1 with
      | v => unfold pd at hd; cases y <;> first | (simp [pdV] at hd; done) | (simp [pdV] at hd; rw [hd])
      | lst _ _ _ => obtain ⟨_, e, _⟩ := pd_lst hd; cases e
      | tup _ _ _ => obtain ⟨_, e⟩ := pd_tup_of hd; cases e
      | _ => unfold pd at hd; cases hd
    subst hx
    refine ⟨rfl, ?_⟩
    have e : (PyData.bool z).shown = (if z then Str.ofString "True" else Str.ofString "False") := by cases z <;> simp [PyData.shown]
    rw [← e]
    exact q _ W H .refl s (Rp.v _)
/-- isinstance of a list, frozen or a cell -/
theorem tv_isiM {n : String} (hl : LstM L1 t ts) (z : Bool) (h2 : kitB "list" n = some z) (ct : Cq cm CX P w K mg base k N sc fs X) (hm : mg "isinstance" = none) (ha : EvA X [a, b] r L [t, .v (.ty n)] L1) (hg : glOk sc "isinstance" = true := by decide +kernel)
    (he : starEach [a, b] X.env = (false, eval a X.env) :: starEach [b] X.env := by first | with_reducible exact se1 | with_reducible exact se2 | with_reducible exact se3 | with_reducible exact se4 | with_reducible exact se5 | with_reducible exact se6 | with_reducible exact se7 | with_reducible exact se8 | with_reducible exact se9 | rfl) (hpl : (backTo pos (starEach [b] X.env)).any (·.1) = false := by rfl) : Ev X (.Call (.Name "isinstance" p) [a, b] [] pos) r L (.v (B z)) L1 :=
  ev_cb ct call_isi PyProof.Rows.boot_isinstance hm hg ha (fun W H xs Q s r0 q => by
    obtain ⟨x, y, rfl, r1, r2⟩ := rp2 r0
    cases r2
    obtain ⟨ad, vs, rfl, e1, _⟩ := lst_m s r1 hl
    exact ⟨.ref ad, .ty n, .type "list", .type n, z, rfl, .ty n, .base (.lst e1), kit_ty h2, q _ W H .refl s (Rp.v _)⟩) he hpl
/-- is None of what is no atom -/
theorem tv_isN0 (h : isN t = false) (ha : Ev X a r L (.v t) L1) {j p} : Ev X (.Compare a [.Is] [.Constant .none j p] pos) r L (.v (B false)) L1 := h ▸ ev_isN ha
theorem tb_isN0 (h : isN t = false) (ha : Ev X a r L (.v t) L1) {j p} : EvB X (.Compare a [.Is] [.Constant .none j p] pos) r L false L1 := h ▸ eb_isN ha
theorem tv_notN0 (h : isN t = false) (ha : Ev X a r L (.v t) L1) {j p} : Ev X (.Compare a [.IsNot] [.Constant .none j p] pos) r L (.v (B true)) L1 := by
  have := ev_notN (pos := pos) (j := j) (p := p) ha
  rw [h] at this; exact this
theorem tb_notN0 (h : isN t = false) (ha : Ev X a r L (.v t) L1) {j p} : EvB X (.Compare a [.IsNot] [.Constant .none j p] pos) r L true L1 := by
  have := eb_notN (pos := pos) (j := j) (p := p) ha
  rw [h] at this; exact this
theorem LstM.isN (h : LstM L t ts) : TL.isN t = false := by
  rcases h with rfl | ⟨n, rfl, _⟩ <;> rfl
theorem wb_appX {o : Expr} {ys : List α} {apos : Pos} {m : Nat} {Sf : List T → Store} {kf : List T → Fl σ ρ} (ho : Ev X o r L (.v (.cel m)) L) (ha : Ev X e r L (.v t) L) (hl : L m = some (eL ea ys)) (hz : ys.length ≤ 100000) (hst : ∀ z, updS L m (some (eL eT z)) = Sf z) (h : ∀ z, WB X F (rest :: bs) r (Sf z) (kf z))
    (hs : starEach [e] X.env = (false, eval e X.env) :: starEach [] X.env := by rfl) (hbase : attributeBase o "append" X.env (eval o X.env) = eval o X.env := by rfl)
    (hfew : ((backTo pos (starEach (e :: []) X.env)).all (fun x => !x.1) && (backToKw pos (keywordEach [] X.env)).all (fun x => x.1.isSome) && decide ((e :: []).length + ([] : List Keyword).length + (if ([] : List Keyword).isEmpty then 0 else 1) < 30)) = true := by rfl) (hline : (apos.endLine == pos.line) = true := by rfl) (hplain : (backTo pos (starEach [] X.env)).any (·.1) = false := by rfl)
    (hsw : swapsWith (.Call (.Attribute o "append" apos) [e] [] pos) none p.line X.env = pure false := by rfl) : WB X F ((.Expr (.Call (.Attribute o "append" apos) [e] [] pos) p :: rest) :: bs) r L (bdV (ys.map ea ++ [t]) kf) := by
  refine wb_expr (eapp ho ha hl hl (by rw [List.length_map]; exact hz) hs hbase hfew hline hplain) ?_ hsw
  have := h (ys.map ea ++ [t])
  rw [← hst] at this
  have e2 : eL eT (ys.map ea ++ [t]) = T.lst (ys.map ea ++ [t]) := congrArg T.lst (List.map_id _)
  rw [e2] at this
  exact this
theorem wb_ifT {yes no : List Stmt} {o : Fl σ ρ} (hc : EvB X c r L true L1) (h : WB X F (yes :: rest :: bs) r L1 o) : WB X F ((.If c yes no pos :: rest) :: bs) r L o := (wb_if (o2 := .bad) hc (fun _ => h) (fun z => nomatch z)).eq rfl
theorem wb_ifN {yes no : List Stmt} {o : Fl σ ρ} (hc : EvB X c r L false L1) (h : WB X F (no :: rest :: bs) r L1 o) : WB X F ((.If c yes no pos :: rest) :: bs) r L o := (wb_if (o1 := .bad) hc (fun z => nomatch z) (fun _ => h)).eq rfl
/-- name = what is a new list or None -/
theorem wb_setO {em : α → T} {o : Option α} {kn : Fl σ ρ} {kf : α → Fl σ ρ} (ct : Cq cm CX P w K mg base k N sc fs X) (n : Nat) (he : Ev X e r L (rO em o) L1) (hN : o = none → WB X F (rest :: bs) (r.set n (some N0)) L1 kn) (h : ∀ y, o = some y → ∀ m, L1 m = none → WB X F (rest :: bs) (r.set n (some (.cel m))) (updS L1 m (some (em y))) (kf y)) (hx : locOk N sc fs n x = true := by decide +kernel)
    (hs : swapsWith e (some (.Name x p')) pos.line X.env = pure false := by rfl) : WB X F ((.Assign [.Name x p'] e pos :: rest) :: bs) r L (optF o kn kf) := by
  cases o with
  | none => exact wb1 fun _ => wset ct n he (ws_nil (hN rfl)) hx hs
  | some v => exact wb1 fun _ => wsetC ct n he (fun m hm => ws_nil (h v rfl m hm)) hx hs
theorem wb_setFO {em : α → T} {o : Rs (Option α)} {kn : Fl σ ρ} {kf : α → Fl σ ρ} {Lf : Option α → Store} (ct : Cq cm CX P w K mg base k N sc fs X) (n : Nat) (he : ∀ y, o = .rt y → Ev X e r L (rO em y) (Lf y)) (hq : ∀ q, o = .er q → EvY X e r L (exF F q)) (hN : o = .rt none → WB X F (rest :: bs) (r.set n (some N0)) (Lf none) kn)
    (h : ∀ y, o = .rt (some y) → ∀ m, Lf (some y) m = none → WB X F (rest :: bs) (r.set n (some (.cel m))) (updS (Lf (some y)) m (some (em y))) (kf y)) (hx : locOk N sc fs n x = true := by decide +kernel)
    (hs : swapsWith e (some (.Name x p')) pos.line X.env = pure false := by rfl) : WB X F ((.Assign [.Name x p'] e pos :: rest) :: bs) r L (bdF o fun y => optF y kn kf) := by
  match o, he, hq, hN, h with
  | .rt none, he, _, hN, _ => exact wb1 fun _ => wset ct n (he none rfl) (ws_nil (hN rfl)) hx hs
  | .rt (some v), he, _, _, h => exact wb1 fun _ => wsetC ct n (he _ rfl) (fun m hm => ws_nil (h v rfl m hm)) hx hs
  | .er q, _, hq, _, _ => exact ⟨fun _ => wy_er (wy_set ct n (hq q rfl) hx hs)⟩
  | .nx _, _, _, _, _ => exact .bad
  | .bk _, _, _, _, _ => exact .bad
  | .bad, _, _, _, _ => exact .bad
/-- a new thing or None is frozen -/
theorem Ev.fzO {o : Option α} (h : Ev X e r L (rO ea o) L1) : Ev X e r L (.v (eO ea o)) L1 := by
  cases o with
  | none => exact h
  | some v => exact Ev.fz h
end
end TL


/-! Models: try. -/
namespace TL
open PySem PySem.Spec PyProof.Rows L2
/-- isinstance between the program's own errors (all stand right below TownError) -/
def subX (c d : Str) : Bool := c == d || d == "TownError"
section
variable {σ ρ : Type}
def catch1 : List (Str × (Exc → Fl σ ρ)) → Exc → Option (Fl σ ρ)
  | [], _ => none
  | (d, m) :: r, q => if subX q.cls d = true then some (m q) else catch1 r q
/-- the first clause that takes it; an error of another class than promised: bad -/
def catchL (owns : List Str) (cl : List (Str × (Exc → Fl σ ρ))) (q : Exc) : Option (Fl σ ρ) := if q.cls ∈ owns then catch1 cl q else some .bad
def tryF (b : Fl σ ρ) (c : Exc → Option (Fl σ ρ)) : Fl σ ρ := match b with
  | .er q => (match c q with | some o => o | none => .er q)
  | .nx s => .nx s
  | .rt v => .rt v
  | _ => .bad
end
structure Xo (K : PySem.W.Frag) (owns dsts : List Str) : Prop where
  ec : ∀ c ∈ owns, ExcC K (He.ga K c)
  xf : ∀ c ∈ owns, XfC K (He.ga K c)
  nf : ∀ c ∈ owns, ∀ f ∈ (["why", "at", "place", "number", "pair", "day", "most"] : List Str), PySem.W.findIn K (.ref (He.ga K c)) f = some none
  kit : ∀ c ∈ owns, ∀ d ∈ dsts, PySem.W.kitOne K (.ref (He.ga K c)) (.ref (He.ga K d)) = some (subX c d)
  exm : ∀ c ∈ owns, ∀ d ∈ dsts, PySem.W.exmOne K (.ref (He.ga K c)) (.ref (He.ga K d)) = some (subX c d)
  kitV : ∀ c ∈ owns, PySem.W.kitOne K (.ref (He.ga K c)) (.type "ValueError") = some true
def xoB (K : PySem.W.Frag) (owns dsts : List Str) : Bool := owns.all (fun c => excB K (He.ga K c) && (xfB K (He.ga K c) && ((["why", "at", "place", "number", "pair", "day", "most"] : List Str).all (fun f => decide (PySem.W.findIn K (.ref (He.ga K c)) f = some none)) &&
  (dsts.all (fun d => decide (PySem.W.kitOne K (.ref (He.ga K c)) (.ref (He.ga K d)) = some (subX c d)) && decide (PySem.W.exmOne K (.ref (He.ga K c)) (.ref (He.ga K d)) = some (subX c d))) && decide (PySem.W.kitOne K (.ref (He.ga K c)) (.type "ValueError") = some true)))))
theorem xo_ok {K : PySem.W.Frag} {owns dsts : List Str} (h : xoB K owns dsts = true) : Xo K owns dsts := by
  have g := List.all_eq_true.mp h
  simp only [Bool.and_eq_true] at g
  refine ⟨fun c hc => excB_ok (g c hc).1, fun c hc => xfB_ok (g c hc).2.1, fun c hc f hf => of_decide_eq_true (List.all_eq_true.mp (g c hc).2.2.1 f hf), fun c hc d hd => ?_, fun c hc d hd => ?_, fun c hc => of_decide_eq_true (g c hc).2.2.2.2⟩
  · have := List.all_eq_true.mp (g c hc).2.2.2.1 d hd
    rw [Bool.and_eq_true] at this
    exact of_decide_eq_true this.1
  · have := List.all_eq_true.mp (g c hc).2.2.2.1 d hd
    rw [Bool.and_eq_true] at this
    exact of_decide_eq_true this.2
/-- the context X handles the exception a, of the class C, its fields at dd -/
structure Su (X : Cx) (a dd C : Addr) : Prop where
  ex : ∃ oe, (a, oe) ∈ X.pn ∧ L2N.Zn (.ref C) (some dd) oe ∧ ∃ vs, oe.data = .fields vs
  hd : X.A.handled = some (.ref a)
/-- the caught one as a tree -/
def excT (a d C : Addr) (fl : List (Str × T)) : T := .exc a d C (fl.map (·.1)) ((fl.map (·.1)).map fun f => (fl.lookup f).getD N0)
theorem lookup_of_key {α : Type} : ∀ {fl : List (Str × α)} {f : Str}, f ∈ fl.map (·.1) → ∃ t, fl.lookup f = some t
  | (g, t) :: r, f, h => by
    by_cases e : f = g
    · subst e; exact ⟨t, by rw [List.lookup_cons, beq_self_eq_true]⟩
    · have : f ∈ r.map (·.1) := by
        rcases List.mem_cons.mp h with z | z
        · exact absurd z e
        · exact z
      obtain ⟨u, hu⟩ := lookup_of_key this
      refine ⟨u, ?_⟩
      rw [List.lookup_cons, beq_eq_false_iff_ne.mpr e]
      exact hu
theorem FldR.rp {K : PySem.W.Frag} {W : Wd} {H : Hp} {fl : List (Str × T)} {ws : List (Str × V)} (h : FldR K W H fl ws) : ∀ ns : List Str, (∀ f ∈ ns, f ∈ fl.map (·.1)) → ∃ vs : List V, ns.map (fun n => ws.lookup n) = vs.map some ∧ RpL K W H (ns.map fun f => (fl.lookup f).getD N0) vs
  | [], _ => ⟨[], rfl, .nil⟩
  | f :: ns, hn => by
    obtain ⟨vs, e, r⟩ := FldR.rp h ns fun g hg => hn g (List.mem_cons_of_mem _ hg)
    obtain ⟨t, ht⟩ := lookup_of_key (hn f List.mem_cons_self)
    obtain ⟨v, hv, rv⟩ := h f t ht
    refine ⟨v :: vs, by rw [List.map_cons, List.map_cons, e, hv], ?_⟩
    rw [List.map_cons, ht]
    exact .cons rv r
def Fm.suite {σ σ' ρ : Type} (F : Fm σ' ρ) (E : σ → TEnv) (S : σ → Store) : Fm σ ρ where
  nx := fun s r L => Sub (E s) r ∧ L = S s
  fn := False
  lp := False
  ret := F.ret
  cls := F.cls
  ex := fun _ _ _ => False
def Fm.tryB {σ σ' ρ : Type} (F : Fm σ' ρ) (E : σ → TEnv) (S : σ → Store) (r0 : TEnv) (L0 : Store) : Fm σ ρ where
  nx := fun s r L => Sub (E s) r ∧ L = S s
  fn := False
  lp := False
  ret := F.ret
  cls := F.cls
  ex := fun _ r L => Sub r0 r ∧ L = L0
section
variable {CX : CXT} {P : Program} {w : World} {K : PySem.W.Frag} {mg : Str → Option Value} {base : Heap} {k : Nat} {N : List Str} {sc : Scope} {fs : Str → Bool} {X : Cx}
theorem Cq.suite {cm : Bool} {a : Addr} {pn : List (Addr × Obj)} (ct : Cq cm CX P w K mg base k N sc fs X) : Cq false CX P w K mg base k N sc fs (X.suite a pn) :=
  ⟨ct.hP, ct.hw, ct.hK, ct.hmg, ct.hb, ct.hN, ct.hsc, (fun z => nomatch z), (fun z => nomatch z), ⟨ct.roomH.dp, ct.roomH.un⟩, ct.gd, ct.nd, ct.kind, ct.fn, ct.cx⟩
inductive WC {σ ρ : Type} (CX : CXT) (P : Program) (w : World) (K : PySem.W.Frag) (mg : Str → Option Value) (base : Heap) (k : Nat) (N : List Str) (sc : Scope) (fs : Str → Bool) (owns dsts : List Str) (F : Fm σ ρ) (r : TEnv) (L : Store) : List ExceptHandler → List (Str × (Exc → Fl σ ρ)) → Prop
  | nil : WC CX P w K mg base k N sc fs owns dsts F r L [] []
  | as {n d : Str} {i : Nat} {ss : List Stmt} {np hp : Pos} {hds : List ExceptHandler} {cl : List (Str × (Exc → Fl σ ρ))} {m : Exc → Fl σ ρ} (hm : mg d = some (.ref (He.ga K d))) (hg : glOk sc d = true) (hs : ss ≠ []) (hi : N[i]? = some n) (hl : sc.names.lookup n = some .local) (hd : d ∈ dsts)
    (hE : ∀ s r' L', F.nx s r' L' → F.nx s (r'.set i none) L')
    (hb : ∀ (q : Exc) (a dd : Addr) (X' : Cx), q.cls ∈ owns → subX q.cls d = true → Cq false CX P w K mg base k N sc fs X' → Su X' a dd (He.ga K q.cls) → WB X' F [ss] (r.set i (some (excT a dd (He.ga K q.cls) q.fl))) L (m q))
    (rest : WC CX P w K mg base k N sc fs owns dsts F r L hds cl) : WC CX P w K mg base k N sc fs owns dsts F r L (.ExceptHandler (some (.Name d np)) (some n) ss hp :: hds) ((d, m) :: cl)
  | one {d : Str} {ss : List Stmt} {np hp : Pos} {hds : List ExceptHandler} {cl : List (Str × (Exc → Fl σ ρ))} {m : Exc → Fl σ ρ} (hm : mg d = some (.ref (He.ga K d))) (hg : glOk sc d = true) (hs : ss ≠ []) (hd : d ∈ dsts)
    (hb : ∀ (q : Exc) (a dd : Addr) (X' : Cx), q.cls ∈ owns → subX q.cls d = true → Cq false CX P w K mg base k N sc fs X' → Su X' a dd (He.ga K q.cls) → WB X' F [ss] r L (m q))
    (rest : WC CX P w K mg base k N sc fs owns dsts F r L hds cl) : WC CX P w K mg base k N sc fs owns dsts F r L (.ExceptHandler (some (.Name d np)) none ss hp :: hds) ((d, m) :: cl)
variable {owns dsts : List Str}
theorem WC.hmix {σ ρ : Type} {F : Fm σ ρ} {r : TEnv} {L : Store} (ct : Cq true CX P w K mg base k N sc fs X) : ∀ {hds : List ExceptHandler} {cl : List (Str × (Exc → Fl σ ρ))}, WC CX P w K mg base k N sc fs owns dsts F r L hds cl →
    ∃ l : Cls3, HMix X hds l ∧ ∀ (Wout : WX) (D D1 : Ends) (q : Exc) (W : Wd) (H : Hp) (σ1 : L2.St) (dd : Addr) (ws : List (Str × V)), Xo K owns dsts → q.cls ∈ owns → F.cls = He.ga K → (∀ q r L, ¬ F.ex q r L) → SR K W H L → EnvR K W H r σ1 → H dd = some (.xd ws) → W.F dd → FldR K W H q.fl ws →
      (∀ o, catch1 cl q = some o → o ≠ .bad ∧ DOk K W H L (F.tk o) D ∧ (∀ r' L', F.fall o r' L' → ∃ s, o = .nx s ∧ F.nx s r' L') ∧ ¬ F.lp) → (catch1 cl q = none → Wout (.ref (He.ga K q.cls)) (some dd) σ1 H) → wMix X Wout D l (.ref (He.ga K q.cls)) (some dd) σ1 H
  | _, _, .nil => ⟨[], .nil, fun Wout D D1 q W H σ1 dd ws xo hq hc hx s en hd hf hw h1 h2 => h2 rfl⟩
  | _, _, .as (n := n) (d := d) (i := i) (ss := ss) (m := m) hm hg hs hi hl hdd hE hb rest => by
    obtain ⟨l, hh, hr⟩ := WC.hmix ct rest
    refine ⟨(.ref (He.ga K d), some i, ss) :: l, .as ⟨ct.gl hg, (glOk_of hg).2.1, .inl (by rw [ct.hmg]; exact hm)⟩ hs (by rw [ct.hN]; exact hi) (by show X.env.scope.names.lookup n = _; rw [ct.hsc]; exact hl) hh, fun Wout D D1 q W H σ1 dd ws xo hq hc hx s en hd hf hw h1 h2 => ?_⟩
    refine ⟨subX q.cls d, by rw [ct.hK]; exact xo.exm _ hq _ hdd, fun e a oe pn ha hz hfl => ?_, fun e => ?_⟩
    · obtain ⟨hnb, dk, hfall, hlp⟩ := h1 (m q) (by show (if subX q.cls d = true then some (m q) else _) = _; rw [if_pos e])
      have hsu : Su (X.suite a ((a, oe) :: pn)) a dd (He.ga K q.cls) := ⟨⟨oe, List.mem_cons_self, hz, hfl⟩, rfl⟩
      have wb := (hb q a dd _ hq e ct.suite hsu).go hnb
      have wsu := ws_of_wy wb fun C fl r' L' ⟨e1, _, _, _, z⟩ => hx e1 r' L' z
      obtain ⟨vs, ev, rv⟩ := hw.rp (q.fl.map (·.1)) fun f hf => hf
      refine wsu.go W H _ _ (by show SR X.K W H L; rw [ct.hK]; exact s) (by show EnvR X.K W H _ _; rw [ct.hK]; exact en.set (.exc hf hd ev rv)) ?_
      show DOk X.K W H L _ _
      rw [ct.hK]
      refine ⟨fun ρ1 L1 W1 H1 σ2 st1 s1 en1 z => ?_, dk.rt, fun ρ1 L1 W1 H1 σ2 st1 s1 en1 z => absurd z.1 hlp, fun ρ1 L1 W1 H1 σ2 st1 s1 en1 z => absurd z.1 hlp⟩
      obtain ⟨s2, e2, z2⟩ := hfall _ _ (z hnb)
      exact dk.nx _ _ W1 H1 _ st1 s1 en1.gone (.inl ⟨s2, e2, hE _ _ _ z2⟩)
    · refine hr Wout D D1 q W H σ1 dd ws xo hq hc hx s en hd hf hw (fun o ho => h1 o ?_) (fun ho => h2 ?_)
      · show (if subX q.cls d = true then some (m q) else _) = _
        rw [if_neg (by rw [e]; exact Bool.false_ne_true)]; exact ho
      · show (if subX q.cls d = true then some (m q) else _) = _
        rw [if_neg (by rw [e]; exact Bool.false_ne_true)]; exact ho
  | _, _, .one (d := d) (ss := ss) (m := m) hm hg hs hdd hb rest => by
    obtain ⟨l, hh, hr⟩ := WC.hmix ct rest
    refine ⟨(.ref (He.ga K d), none, ss) :: l, .one ⟨ct.gl hg, (glOk_of hg).2.1, .inl (by rw [ct.hmg]; exact hm)⟩ hs hh, fun Wout D D1 q W H σ1 dd ws xo hq hc hx s en hd hf hw h1 h2 => ?_⟩
    refine ⟨subX q.cls d, by rw [ct.hK]; exact xo.exm _ hq _ hdd, fun e a oe pn ha hz hfl => ?_, fun e => ?_⟩
    · obtain ⟨hnb, dk, hfall, hlp⟩ := h1 (m q) (by show (if subX q.cls d = true then some (m q) else _) = _; rw [if_pos e])
      have hsu : Su (X.suite a ((a, oe) :: pn)) a dd (He.ga K q.cls) := ⟨⟨oe, List.mem_cons_self, hz, hfl⟩, rfl⟩
      have wb := (hb q a dd _ hq e ct.suite hsu).go hnb
      have wsu := ws_of_wy wb fun C fl r' L' ⟨e1, _, _, _, z⟩ => hx e1 r' L' z
      refine wsu.go W H _ _ (by show SR X.K W H L; rw [ct.hK]; exact s) (by show EnvR X.K W H _ _; rw [ct.hK]; exact en) ?_
      show DOk X.K W H L _ _
      rw [ct.hK]
      refine ⟨fun ρ1 L1 W1 H1 σ2 st1 s1 en1 z => dk.nx _ _ W1 H1 _ st1 s1 en1 (z hnb), dk.rt, fun ρ1 L1 W1 H1 σ2 st1 s1 en1 z => absurd z.1 hlp, fun ρ1 L1 W1 H1 σ2 st1 s1 en1 z => absurd z.1 hlp⟩
    · refine hr Wout D D1 q W H σ1 dd ws xo hq hc hx s en hd hf hw (fun o ho => h1 o ?_) (fun ho => h2 ?_)
      · show (if subX q.cls d = true then some (m q) else _) = _
        rw [if_neg (by rw [e]; exact Bool.false_ne_true)]; exact ho
      · show (if subX q.cls d = true then some (m q) else _) = _
        rw [if_neg (by rw [e]; exact Bool.false_ne_true)]; exact ho
theorem wb_try {σ σ' ρ : Type} {F : Fm σ ρ} {E : σ' → TEnv} {S : σ' → Store} {r : TEnv} {L : Store} {body rest : List Stmt} {bs : List (List Stmt)} {hd : ExceptHandler} {hds : List ExceptHandler} {pos : Pos} {bm : Fl σ' ρ} {cl : List (Str × (Exc → Fl σ' ρ))} {kont : σ' → Fl σ ρ}
    (ct : Cq true CX P w K mg base k N sc fs X) (cf : Cf X) (xo : Xo K owns dsts) (hcls : F.cls = He.ga K)
    (hb : ∀ X' : Cx, Cq true CX P w K mg base k N sc fs X' → Cf X' → PassesOwn (model X'.prog X'.w) X'.A X'.env X'.xe → WB X' (F.tryB E S r L) [body] r L bm)
    (hc : WC CX P w K mg base k N sc fs owns dsts (F.suite E S) r L (hd :: hds) cl) (ho : ∀ q r', Sub r r' → catch1 cl q = none → F.ex q r' L) (hk : ∀ s, WB X F (rest :: bs) (E s) (S s) (kont s)) :
    WB X F ((.Try body (hd :: hds) [] [] pos :: rest) :: bs) r L (bdL (tryF bm (catchL owns cl)) kont) := by
  refine ⟨fun hne => ⟨fun W H σ0 D Wx s en d tk x => ?_⟩⟩
  refine wp_pss (pss_cons ps_wp pss_wp) ?_
  obtain ⟨l, hh, hw⟩ := hc.hmix ct
  have nxt : ∀ (s1 : σ') (ρ1 : TEnv) (L1 : Store) (W1 : Wd) (H1 : Hp) (σ1 : L2.St), bdL (tryF bm (catchL owns cl)) kont = kont s1 → Step W L H W1 L1 H1 → SR X.K W1 H1 L1 → EnvR X.K W1 H1 ρ1 σ1 → Sub (E s1) ρ1 → L1 = S s1 → wpSs X rest σ1 H1 D := by
    rintro s1 ρ1 L1 W1 H1 σ1 eo st1 sr1 en1 sub rfl
    have hk1 := (hk s1).go
    rw [← eo] at hk1
    exact (hk1 hne).go W1 H1 σ1 D Wx sr1 (sub.env en1) (d.step st1) tk (x.step st1)
  have hbn : bm ≠ .bad := fun z => hne (by rw [z]; rfl)
  refine wp_try (l := l) cf.stk cf.frm (by rw [ct.hN]; exact ct.nd) tk hh fun pn xe tkb po => ?_
  refine ((hb (X.tr pn xe) ct.tr cf.tr po).go hbn).go W H σ0 _ _ s en ?_ tkb ?_
  · refine ⟨fun ρ1 L1 W1 H1 σ1 st1 s1 en1 q => ?_, fun r1 L1 W1 H1 y st1 s1 rr q => ?_, fun _ _ _ _ _ _ _ _ q => q.1.elim, fun _ _ _ _ _ _ _ _ q => q.1.elim⟩
    · rcases q hbn with ⟨s2, e2, q1, q2⟩ | ⟨z, _⟩
      · exact nxt s2 ρ1 L1 W1 H1 σ1 (by rw [e2]; rfl) st1 s1 en1 q1 q2
      · exact z.elim
    · obtain ⟨v, e, q⟩ := q
      exact d.rt r1 L1 W1 H1 y st1 s1 rr ⟨v, by rw [e]; rfl, q⟩
  · refine ⟨fun C fl ρ1 L1 W1 H1 σ1 dd ws st1 s1 en1 hn hdd hfl q => ?_⟩
    obtain ⟨e, ebm, rfl, rfl, q1, rfl⟩ := q
    have e0 : bdL (tryF bm (catchL owns cl)) kont = bdL (match catchL owns cl e with | some o => o | none => .er e) kont := by rw [ebm]; rfl
    have hown : e.cls ∈ owns := by
      refine Classical.byContradiction fun z => hne ?_
      rw [e0]
      unfold catchL
      rw [if_neg z]; rfl
    have e1 : catchL owns cl e = catch1 cl e := by unfold catchL; rw [if_pos hown]
    rw [e1] at e0
    have ndd : ∀ n : Nat, Live L1 n → W1.ad n ≠ some dd := fun n ⟨t, hl⟩ z => by
      have c := s1.cel n t dd hl z
      cases t with
      | v x => exact c
      | cel n => exact c
      | tup ts => exact c
      | scr ts => exact c
      | exc a d C ns ts => exact c
      | lst ts => obtain ⟨vs, e, _⟩ := c; rw [hdd] at e; cases e
      | dK ks ts => obtain ⟨vs, e, _⟩ := c; rw [hdd] at e; cases e
      | dT ks ts => obtain ⟨vs, e, _⟩ := c; rw [hdd] at e; cases e
      | set S n => have e : H1 dd = _ := c; rw [hdd] at e; cases e
      | ins C ns ts => obtain ⟨dx, vs, e, _⟩ := c; rw [hdd] at e; cases e
    have st2 := st1.frz (a := dd) (.inl hn)
    have s2 := s1.frz (a := dd) (by rw [hdd]; exact fun z => nomatch z) ndd
    have en2 : EnvR X.K (W1.frz dd) H1 r σ1 := ⟨(q1.env en1).1, fun i t h => by obtain ⟨y, a, b⟩ := (q1.env en1).2 i t h; exact ⟨y, a, b.frz⟩⟩
    have fl2 : FldR X.K (W1.frz dd) H1 e.fl ws := fun f t hf => by
      obtain ⟨v, h1, h2⟩ := hfl f t hf
      exact ⟨v, h1, h2.frz⟩
    show wMix X Wx _ l (.ref (F.cls e.cls)) (some dd) σ1 H1
    rw [hcls]
    rw [ct.hK] at s2 en2 fl2
    refine hw Wx _ D e (W1.frz dd) H1 σ1 dd ws xo hown hcls (fun _ _ _ z => z) s2 en2 hdd (.inr rfl) fl2 (fun o ho1 => ?_) (fun hno => ?_)
    · rw [ho1] at e0
      have hob : o ≠ .bad := fun z => hne (by rw [e0, z]; rfl)
      refine ⟨hob, ?_, fun r' L' z => ?_, fun z => z⟩
      · rw [← ct.hK]
        refine ⟨fun ρ3 L3 W3 H3 σ3 st3 s3 en3 q => ?_, fun r3 L3 W3 H3 y st3 s3 rr q => ?_, fun _ _ _ _ _ _ _ _ q => q.1.elim, fun _ _ _ _ _ _ _ _ q => q.1.elim⟩
        · rcases q with ⟨s4, e4, q3, q4⟩ | ⟨z, _⟩
          · exact nxt s4 ρ3 L3 W3 H3 σ3 (by rw [e0, e4]; rfl) (st2.trans st3) s3 en3 q3 q4
          · exact z.elim
        · obtain ⟨v, e4, q3⟩ := q
          exact d.rt r3 L3 W3 H3 y (st2.trans st3) s3 (rr.back st2.dom) ⟨v, by rw [e0, e4]; rfl, q3⟩
      · rcases z with ⟨s4, e4, q3⟩ | ⟨z, _⟩
        · exact ⟨s4, e4, q3⟩
        · exact z.elim
    · rw [hno] at e0
      rw [← hcls]
      exact x.go _ _ ρ1 L1 W1 H1 σ1 dd ws st1 s1 en1 hn hdd hfl ⟨e, by rw [e0]; rfl, rfl, rfl, ho e ρ1 q1 hno⟩
end
end TL


/-! Models: what except suites say: isinstance of the caught one, its fields, defs that are called with it. -/
namespace TL
open PySem PySem.Spec PyProof.Rows L2
section
variable {cm : Bool} {CX : CXT} {P : Program} {w : World} {K : PySem.W.Frag} {mg : Str → Option Value} {base : Heap} {k : Nat} {N : List Str} {sc : Scope} {fs : Str → Bool} {X : Cx}
variable {e b : Expr} {es : List Expr} {r : TEnv} {L L1 Lb : Store} {t : T} {ts : List T} {pos p : Pos} {x f : Str} {q : Exc} {a dd : Addr} {owns dsts : List Str}
theorem exc_at {W : Wd} {H : Hp} {C : Addr} {fl : List (Str × T)} {u : T} {xs : List V} (h : RpL K W H [excT a dd C fl, u] xs) : ∃ ws y, xs = [.ref a, y] ∧ H dd = some (.xd ws) ∧ Rp K W H u y := by
  obtain ⟨⟩ | ⟨h1, h⟩ := h
  obtain ⟨⟩ | ⟨h2, h⟩ := h
  cases h
  unfold excT at h1
  cases h1 with
  | exc f hd l r => exact ⟨_, _, rfl, hd, h2⟩
theorem tv_isX {D : Str} (xo : Xo K owns dsts) (su : Su X a dd (He.ga K q.cls)) (ho : q.cls ∈ owns) (ct : Cq cm CX P w K mg base k N sc fs X) (hm : mg "isinstance" = none) (ha : EvA X [e, b] r L [excT a dd (He.ga K q.cls) q.fl, .v (.ref (He.ga K D))] L1) (hd : D ∈ dsts := by decide +kernel) (hg : glOk sc "isinstance" = true := by decide +kernel)
    (he : starEach [e, b] X.env = (false, eval e X.env) :: starEach [b] X.env := by first | with_reducible exact se1 | with_reducible exact se2 | with_reducible exact se3 | with_reducible exact se4 | with_reducible exact se5 | with_reducible exact se6 | with_reducible exact se7 | with_reducible exact se8 | with_reducible exact se9 | rfl)
    (hpl : (backTo pos (starEach [b] X.env)).any (·.1) = false := by rfl) : Ev X (.Call (.Name "isinstance" p) [e, b] [] pos) r L (.v (B (subX q.cls D))) L1 := by
  obtain ⟨oe, hp, hz, hf⟩ := su.ex
  refine ev_cb ct (call_isX (X := X) (by rw [ct.hK]; exact xo.ec _ ho) hz.zc hf hp) PyProof.Rows.boot_isinstance hm hg ha (fun W H xs Q s r0 q1 => ?_) he hpl
  obtain ⟨ws, y, rfl, hx, ry⟩ := exc_at r0
  cases ry
  exact ⟨_, .ref (He.ga K D), _, ws, rfl, fun u h => h, by rw [ct.hK]; exact xo.kit _ ho _ hd, hx, q1 _ W H .refl s (.v _)⟩
theorem tv_isXV (xo : Xo K owns dsts) (su : Su X a dd (He.ga K q.cls)) (ho : q.cls ∈ owns) (ct : Cq cm CX P w K mg base k N sc fs X) (hm : mg "isinstance" = none) (ha : EvA X [e, b] r L [excT a dd (He.ga K q.cls) q.fl, .v (.ty "ValueError")] L1) (hg : glOk sc "isinstance" = true := by decide +kernel)
    (he : starEach [e, b] X.env = (false, eval e X.env) :: starEach [b] X.env := by first | with_reducible exact se1 | with_reducible exact se2 | with_reducible exact se3 | with_reducible exact se4 | with_reducible exact se5 | with_reducible exact se6 | with_reducible exact se7 | with_reducible exact se8 | with_reducible exact se9 | rfl)
    (hpl : (backTo pos (starEach [b] X.env)).any (·.1) = false := by rfl) : Ev X (.Call (.Name "isinstance" p) [e, b] [] pos) r L (.v (B true)) L1 := by
  obtain ⟨oe, hp, hz, hf⟩ := su.ex
  refine ev_cb ct (call_isX (X := X) (by rw [ct.hK]; exact xo.ec _ ho) hz.zc hf hp) PyProof.Rows.boot_isinstance hm hg ha (fun W H xs Q s r0 q1 => ?_) he hpl
  obtain ⟨ws, y, rfl, hx, ry⟩ := exc_at r0
  cases ry
  exact ⟨_, .type "ValueError", _, ws, rfl, fun u h => h, by rw [ct.hK]; exact xo.kitV _ ho, hx, q1 _ W H .refl s (.v _)⟩
theorem zip_map_lookup {g : Str → T} : ∀ {ns : List Str} {vs : List V} {ws : List (Str × V)} {K : PySem.W.Frag} {W : Wd} {H : Hp} {f : Str}, ns.map (fun n => ws.lookup n) = vs.map some → RpL K W H (ns.map g) vs → f ∈ ns → ∃ v, ws.lookup f = some v ∧ Rp K W H (g f) v
  | n :: ns, [], ws, K, W, H, f, e, r, h => by cases e
  | n :: ns, v :: vs, ws, K, W, H, f, e, r, h => by
    rw [List.map_cons, List.map_cons] at e
    obtain ⟨e1, e2⟩ := List.cons.inj e
    rw [List.map_cons] at r
    obtain ⟨⟩ | ⟨r1, r2⟩ := r
    rcases List.mem_cons.mp h with rfl | h
    · exact ⟨v, e1, r1⟩
    · exact zip_map_lookup e2 r2 h
theorem key_of_lookup {α : Type} : ∀ {fl : List (Str × α)} {f : Str} {t : α}, fl.lookup f = some t → f ∈ fl.map (·.1)
  | (g, u) :: r, f, t, h => by
    rw [List.lookup_cons] at h
    cases e : f == g with
    | true => rw [beq_iff_eq.mp e]; exact List.mem_cons_self
    | false =>
      rw [e] at h
      exact List.mem_cons_of_mem _ (key_of_lookup h)
/-- e.f of the caught one -/
theorem tv_xfld (hf : q.fl.lookup f = some t) (xo : Xo K owns dsts) (su : Su X a dd (He.ga K q.cls)) (ho : q.cls ∈ owns) (ct : Cq cm CX P w K mg base k N sc fs X) (he : Ev X e r L (.v (excT a dd (He.ga K q.cls) q.fl)) L1) (hk : f ∈ (["why", "at", "place", "number", "pair", "day", "most"] : List Str) := by decide +kernel)
    (hb : attributeBase e f X.env (eval e X.env) = eval e X.env := by rfl) : Ev X (.Attribute e f pos) r L (.v t) L1 := by
  obtain ⟨oe, hp, hz, vs, hd⟩ := su.ex
  have hz := hz.zc
  refine ⟨fun W H σ Q s en q1 pins st Iv => ?_⟩
  refine attr_of hb (thn (he W H σ (fun y H1 => y = .ref a ∧ ∃ ws v, H1 dd = some (.xd ws) ∧ ws.lookup f = some v ∧ Q v H1) s en (fun y W1 H1 st1 s1 rr => ?_) pins st Iv) fun u s1 hh => ?_)
  · have rr : Rp X.K W1 H1 (excT a dd (He.ga K q.cls) q.fl) y := rr
    unfold excT at rr
    cases rr with
    | exc f1 h1 l1 r1 =>
      obtain ⟨v, hv, rv⟩ := zip_map_lookup l1 r1 (key_of_lookup hf)
      rw [hf] at rv
      exact ⟨rfl, _, v, h1, hv, q1 v W1 H1 st1 s1 rv⟩
  · obtain ⟨y, H1, I1, ry, rfl, ws, v, hx, l, q2⟩ := hh
    obtain rfl : u = Value.ref a := ry
    obtain ⟨ga1, _⟩ := I1.pin (a, oe) (List.mem_append_left _ hp)
    have ok : ObjOk X.prog X.w H1 s1.heap dd (.xd ws) := I1.hok dd _ hx
    obtain ⟨mA, hns, hr⟩ := ok
    obtain ⟨od, hod, hl⟩ := lookIn_ns hns
    obtain ⟨u1, hu, ru⟩ := RelO.some_of (v := v) (o := mA f) (by rw [← l]; exact hr f)
    have J : PySem.W.InstAt s1.heap a oe (He.ga K q.cls) (some od) := ⟨ga1, hz.1, by unfold PySem.W.notCls; rw [hd] <;> rfl, by rw [hz.2]; exact hod⟩
    have T0 : XfC X.K (He.ga K q.cls) := by rw [ct.hK]; exact xo.xf _ ho
    have N0 : PySem.W.findIn X.K (.ref (He.ga K q.cls)) f = some none := by rw [ct.hK]; exact xo.nf _ ho f hk
    exact HandSPX.exc_get I1.kIn J T0.ga T0.gg T0.exC (PySem.W.findObj_own T0.hdC N0 rfl (by rw [hl, hu])) (handed_of ru) ⟨v, H1, I1.tok _, ru, q2⟩
end
/-! ### defs that are called with the caught one -/
structure FnTH (P : Program) (w : World) (K : PySem.W.Frag) (mg : Str → Option Value) (base : Heap) (CX : CXT) (k : Nat) (f : Addr) (fd : FuncData) (ps : List Str) (Rl : Addr → Addr → Addr → Rel) : Prop where
  len : ∀ a d C ts L r L', Rl a d C ts L r L' → ts.length = ps.length
  go : ∀ (A : Around) (outer : List Env) (s : Shared) (H : Hp) (args : Args) (us : List Value) (vs : List V) (Q : VK) (a d C : Addr) (oe : Obj), L2H.RoomH k A → A.guards = some [] → A.handled = some (.ref a) → L2N.Zn (.ref C) (some d) oe → (∃ vs, oe.data = .fields vs) → L2H.PinOk outer H s (a, oe) →
    Env0 P w K mg base A outer s H → BindsTo s fd args (ps.zip us) → Vals vs us → spT K (Rl a d C) vs H Q E0 → codeAny (model P w) A (.call (.ref f) args) (CR CX outer P w H s Q E0) s
section
variable {cm : Bool} {CX : CXT} {P : Program} {w : World} {K : PySem.W.Frag} {mg : Str → Option Value} {base : Heap} {k : Nat} {N : List Str} {sc : Scope} {fs : Str → Bool} {X : Cx}
variable {e : Expr} {es : List Expr} {r : TEnv} {L L1 Lb : Store} {ts : List T} {pos p : Pos} {x : Str} {a dd C : Addr}
theorem fn_TH {f : Addr} {name qual : Str} {params : Arguments} {body : List Stmt} {scope : Scope} {dV kV doc pm cdv cty oc : Value} {an od : Option Addr} {osl : Array (Option Value)} {ps : List Str} {Rl : Addr → Addr → Addr → Rel} {j : Nat}
    (lk : K.lookup f = some ⟨oc, od, .func (PySem.W.fnOf name qual params body scope dV kV doc pm an cdv cty), osl⟩) (hcd : PySem.W.codeIn K cdv qual = true) (sco : FnScope N ps scope) (hcx : ∀ (st : List Env) (H : Hp) (s : Shared) (e : Value) (s' : Shared), CX st H s E0 e s' → False) (len : ∀ a d C ts L r L', Rl a d C ts L r L' → ts.length = ps.length)
    (hbody : ∀ (X : Cx) (a d C : Addr), Cq false CX P w K mg base j N scope (fun _ => true) X → Su X a d C → ∀ ts L r L', Rl a d C ts L r L' → WS X body (startT N ts) L (fnK L r L')) :
    FnTH P w K mg base CX (j + 1) f (PySem.W.fnOf name qual params body scope dV kV doc pm an cdv cty) ps Rl := by
  refine ⟨len, fun A outer s H args us vs Q a d C oe rm gd hot zn flds hpin e0 bnd rv hsp => ?_⟩
  obtain ⟨ts, L, r, L', W, s0, rr, hR, q⟩ := hsp
  have lenv : vs.length = ps.length := rr.length.symm.trans (len a d C ts L r L' hR)
  have stays : ∀ b o, base.get? b = some o → s.heap.get? b = some o := fun b o z => (e0.bs b o z).1
  have inK : K.In s.heap := e0.mod.kin.keeps stays
  have lim : s.heap.NoLimit := e0.mod.nolimit.keeps stays
  have knd : ∀ y ∈ ps.zip us, scope.names.lookup y.1 = some .local ∨ (scope.names.lookup y.1 = some .cell ∧ ((cellsFrom (s.heap.objs.size + 1) scope.names []).lookup y.1).isSome = true) := by
    rintro ⟨n, v⟩ hy
    exact (sco.par n (List.of_mem_zip hy).1).imp id fun z => ⟨z, PySem.W.cellsFrom_some _ _ _ (.inl z)⟩
  refine codeAny_call_function rm.depth (inK _ _ lk) rfl sco.co sco.gen rfl (PySem.W.codeRec_of inK hcd) (bnd _ _ _ _ ?_)
  refine wpAny_newFunctionEnv_cells sco.kind knd fun env he s1 x => ?_
  subst he
  refine ⟨lim.keeps x.toInCall.keep, codeAny_func ?_⟩
  have ct : Cq false CX P w K mg base j N scope (fun _ => true) (L2H.cxH CX P w K mg base N qual scope f cdv A outer s H E0 (a, oe)).nox :=
    ⟨rfl, rfl, rfl, rfl, rfl, rfl, rfl, (fun z => nomatch z), (fun z => nomatch z), rm.deeper _, gd, sco.nd, sco.kind, rfl, hcx⟩
  have hsu : Su (L2H.cxH CX P w K mg base N qual scope f cdv A outer s H E0 (a, oe)).nox a d C := ⟨⟨oe, List.mem_cons_self, zn, flds⟩, hot⟩
  have Iv : Inv (L2H.cxH CX P w K mg base N qual scope f cdv A outer s H E0 (a, oe)) [] (L2.start N vs) H s1 := L2H.inv_startH sco hpin e0 lenv rv x
  have run := hbody _ a d C ct hsu ts L r L' hR W H (L2.start N vs) { nx := fun _ H' => Q .non H', rt := Q } s0 (startT_r rr)
    ⟨fun ρ' L1 W1 H1 σ' st1 s1 en1 ex => exit_ok (r1 := .v N0) (y := V.non) q st1 s1 (Rp.v V.non) ex, fun r1 L1 W1 H1 y st1 s1 r2 ex => exit_ok q st1 s1 r2 ex, fun _ _ _ _ _ _ _ _ z => z.elim, fun _ _ _ _ _ _ _ _ z => z.elim⟩
  refine wpAny_mono (run [] s1 (Iv.wish _)) (fun fl s' hs => ?_) fun _ _ z => z.elim
  match fl, hs with
  | .ret u, ⟨v, σ', H', J, rv, q⟩ => exact ⟨_, _, J.os, J.bare, J.base, J.hok, rv, q⟩
  | .next, ⟨σ', H', J, q⟩ => exact ⟨V.non, _, J.os, J.bare, J.base, J.hok, rfl, q⟩
  | .brk, ⟨_, _, _, q⟩ => exact q.elim
  | .cont, ⟨_, _, _, q⟩ => exact q.elim
structure DefH (CX : CXT) (P : Program) (w : World) (K : PySem.W.Frag) (mg : Str → Option Value) (base : Heap) (j : Nat) (x : Str) (ps : List Str) (Rl : Addr → Addr → Addr → Rel) : Prop where
  ex : ∃ f fd, FnTH P w K mg base CX j f fd ps Rl ∧ mg x = some (.ref f) ∧ PySem.W.keepIn K (.ref f) = true ∧ Binds K fd ps []
theorem Fd.defH {st : Stmt} {ps : List Str} {j : Nat} {Rl : Addr → Addr → Addr → Rel} (F : Fd K mg x st []) (S : FnScope N ps (defScope st)) (hcx : Calm0 CX) (hb : Bd0 x st ps) (len : ∀ a d C ts L r L', Rl a d C ts L r L' → ts.length = ps.length)
    (hbody : ∀ (X : Cx) (a d C : Addr), Cq false CX P w K mg base j N (defScope st) (fun _ => true) X → Su X a d C → ∀ ts L r L', Rl a d C ts L r L' → WS X (defBody st) (startT N ts) L (fnK L r L')) : DefH CX P w K mg base (j + 1) x ps Rl := by
  obtain ⟨f, fd, F, hm⟩ := F.ex
  refine ⟨f, fd, ?_, hm, F.kp, F.bindsN hb⟩
  obtain ⟨oc, od, dV, kV, doc, pm, an, cdv, cty, osl, rfl, lk, hcd, _, _⟩ := F.ex
  exact fn_TH lk hcd S hcx len hbody
/-- f(e, ..), f a def that is handed the caught one -/
theorem tv_callH {ps : List Str} {Rl : Addr → Addr → Addr → Rel} {j : Nat} {z : R} (su : Su X a dd C) (ct : Cq cm CX P w K mg base k N sc fs X) (D : DefH CX P w K mg base j x ps Rl) (ha : EvA X (e :: es) r L ts L1) (h : Rl a dd C ts L1 z Lb) (hj : j ≤ k := by decide) (hg : glOk sc x = true := by decide +kernel)
    (he : starEach (e :: es) X.env = (false, eval e X.env) :: starEach es X.env := by first | with_reducible exact se1 | with_reducible exact se2 | with_reducible exact se3 | with_reducible exact se4 | with_reducible exact se5 | with_reducible exact se6 | with_reducible exact se7 | with_reducible exact se8 | with_reducible exact se9 | rfl)
    (hpl : (backTo pos (starEach es X.env)).any (·.1) = false := by rfl) : Ev X (.Call (.Name x p) (e :: es) [] pos) r L z Lb := by
  obtain ⟨f, fd, F, hm, hk, hb⟩ := D.ex
  obtain ⟨oe, hp, hz, hf⟩ := su.ex
  have hot := su.hd
  have hx := ct.pass
  have gl := ct.gl hg
  have hr := ct.roomH.mono hj
  have gd := ct.gd
  obtain ⟨rfl, rfl, rfl, rfl, rfl, _, _, _, _, _, _, _, _, _⟩ := ct
  refine ⟨fun W H σ Q s en q pins st Iv => ?_⟩
  refine wpAny_Call_Name_kw (ld_glob Iv gl hm ?_ (glOk_of hg).2.1)
  refine PySem.W.callWith_K (h₀ := X.base) Iv.ok.mod.kin hk ?_ he hpl
  refine thn (ha W H σ (fun xs H1 => spT X.K (Rl a dd C) xs H1 Q E0) s en (fun xs W1 H1 st1 s1 r1 => ?_) pos pins st Iv) fun us s1 ⟨vs, H1, I1, rv, q1⟩ => ⟨I1.kIn, ?_⟩
  · exact ⟨_, L1, z, Lb, W1, s1, r1, h, fun y W2 H2 st2 s2 r2 => q y W2 H2 (st1.trans st2) s2 (r2.back st1.dom)⟩
  · have hl : us.length = ps.length := by
      rw [← rv.length]
      obtain ⟨ts', L', r', L'', W', _, r1, hR, _⟩ := q1
      rw [← r1.length]
      exact F.len _ _ _ _ _ _ _ hR
    have bd := hb s1 us I1.kIn (by rw [List.append_nil]; exact hl)
    rw [List.append_nil] at bd
    have P1 := I1.pin (a, oe) (List.mem_append_left _ hp)
    have hpin : L2H.PinOk X.stack H1 s1 (a, oe) := ⟨P1.1, P1.2.1, fun hmem => (List.mem_cons.mp (I1.stkSub a hmem)).elim P1.2.2.1 P1.2.2.2.1, P1.2.2.2.2⟩
    refine wpAny_call (codeAny_mono (F.go X.A X.stack s1 H1 ⟨us, []⟩ us vs Q a dd C oe hr gd hot hz hf hpin I1.env0 bd rv q1) fun out s' q2 => ?_)
    match out, q2 with
    | .error e, q2 => exact hx pins σ H1 s1 e s' I1 q2
    | .ok (.ret u), q2 => exact I1.after q2
end
end TL


/-! Models: further rules. -/
namespace TL
open PySem PySem.Spec PyProof.Rows L2
theorem Sub.gone : ∀ {x y : TEnv} {i : Nat}, Sub x y → x[i]? = some none → Sub x (y.set i none)
  | _, _, _, .nil, _ => .nil
  | _, _, 0, .n h, _ => .n h
  | _, _, 0, .s (a := a) h, e => by
    have : a = none := by simpa using e
    subst this
    exact .s h
  | _, _, i + 1, .n h, e => .n (h.gone (by simpa using e))
  | _, _, i + 1, .s h, e => .s (h.gone (by simpa using e))
section
variable {cm : Bool} {CX : CXT} {P : Program} {w : World} {K : PySem.W.Frag} {mg : Str → Option Value} {base : Heap} {k : Nat} {N : List Str} {sc : Scope} {fs : Str → Bool} {X : Cx}
variable {e o : Expr} {es : List Expr} {r : TEnv} {L L1 Lb : Store} {t : T} {ts : List T} {pos p apos : Pos} {α : Type} {ea : α → T} {kd : Nat}
theorem tv_count [DecidableEq α] {xs : List α} {y : α} (hd : Dt ea kd) (ct : Cq cm CX P w K mg base k N sc fs X) (ho : Ev X o r L (.v (eL ea xs)) L1) (ha : Ev X e r L1 (.v (ea y)) Lb) (hk : kd + 1 ≤ 64 := by decide)
    (hs : starEach [e] X.env = (false, eval e X.env) :: starEach [] X.env := by first | with_reducible exact se1 | with_reducible exact se2 | with_reducible exact se3 | with_reducible exact se4 | with_reducible exact se5 | with_reducible exact se6 | with_reducible exact se7 | with_reducible exact se8 | with_reducible exact se9 | rfl) (hbase : attributeBase o "count" X.env (eval o X.env) = eval o X.env := by rfl)
    (hfew : ((backTo pos (starEach (e :: []) X.env)).all (fun x => !x.1) && (backToKw pos (keywordEach [] X.env)).all (fun x => x.1.isSome)
      && decide ((e :: []).length + ([] : List Keyword).length + (if ([] : List Keyword).isEmpty then 0 else 1) < 30)) = true := by rfl)
    (hline : (apos.endLine == pos.line) = true := by rfl) (hplain : (backTo pos (starEach [] X.env)).any (·.1) = false := by rfl) : Ev X (.Call (.Attribute o "count" apos) [e] [] pos) r L (.v (I (countI xs y))) Lb := by
  have h := ev_countD (apos := apos) (pos := pos) ct ho ha (hd.shp y (by omega)) (hd.lst.shp xs hk) hs hbase hfew hline hplain
  have e1 : ((xs.map ea).countP fun z => eqT z (ea y)) = xs.countP fun z => decide (z = y) := by
    rw [List.countP_map]
    congr 1
    funext z
    exact hd.eq z y
  rw [e1] at h
  exact h
end
end TL


/-! Models: what raises at the left of an expression. -/
namespace TL
open PySem PySem.Spec PyProof.Rows L2
def ifR {α : Type} (z : Bool) (o1 o2 : Rs α) : Rs α := if z = true then o1 else o2
section
variable {cm : Bool} {CX : CXT} {P : Program} {w : World} {K : PySem.W.Frag} {mg : Str → Option Value} {base : Heap} {k : Nat} {N : List Str} {sc : Scope} {fs : Str → Bool} {X : Cx}
variable {e a b c tg : Expr} {es : List Expr} {r r1 : TEnv} {L L1 Lb Lc : Store} {t u : T} {ts us : List T} {pos p p' : Pos} {i j : Int} {x : Str}
variable {st : Stmt} {rest : List Stmt} {bs : List (List Stmt)} {α β σ ρ : Type} {F : Fm σ ρ} {o o1 o2 : Rs α} {kf : α → Fl σ ρ} {xr : XR} {kk : TK}
/-- a statement at whose left a call stands that may raise -/
theorem wb_rais (h : ∀ y, o = .rt y → WB X F ((st :: rest) :: bs) r L (kf y)) (hq : ∀ q, o = .er q → ∀ kk, WY X (st :: rest) r L kk (exF F q)) : WB X F ((st :: rest) :: bs) r L (bdF o kf) := by
  match o, h, hq with
  | .rt v, h, _ => exact h v rfl
  | .er q, _, hq => exact ⟨fun _ => wy_er (hq q rfl _)⟩
  | .nx _, _, _ => exact .bad
  | .bk _, _, _ => exact .bad
  | .bad, _, _ => exact .bad
theorem wy_asg (he : EvY X e r L xr) (hs : swapsWithSole [tg] e pos.line X.env = pure false := by rfl) (hw : swappedStores [tg] e X.env = pure none := by rfl)
    (h1 : (assignEach [tg] X.env).map (·.2) = [assign tg X.env] := by rfl) (hg : ∃ g, PG X tg g := by exact ⟨_, pg_wp⟩) : WY X (.Assign [tg] e pos :: rest) r L kk xr := by
  refine ⟨fun W H σ D Wx s en d tk y => ?_⟩
  refine wp_pss (pss_cons ps_wp pss_wp) ?_
  obtain ⟨g, hg⟩ := hg
  exact wp_ps (ps_asg pe_wp hg hs hw h1) (he.go W H σ _ Wx s en tk y)
/-- a[b], a[lo:hi], a == b: a raises -/
theorem ey_ix (he : EvY X a r L xr) (hs : PlainIx b := by exact fun _ _ => rfl) : EvY X (.Subscript a b pos) r L xr := ⟨fun W H σ Q Wx s en tk y => wp_pe (pe_ix ix_tup pe_wp pe_wp hs) (he.go W H σ _ Wx s en tk y)⟩
theorem ey_cut {lo hi : Option Expr} {l h : Option Int} {p2 : Pos} (he : EvY X a r L xr) (h1 : EvO X lo r L l) (h2 : EvO X hi r L h) : EvY X (.Subscript a (.Slice lo hi none p2) pos) r L xr := by
  obtain ⟨t1, p1, _⟩ := h1
  obtain ⟨t2, p2, _⟩ := h2
  exact ⟨fun W H σ Q Wx s en tk y => wp_pe (pe_slice sl_tup pe_wp p1 p2) (he.go W H σ _ Wx s en tk y)⟩
theorem ey_eq (he : EvY X a r L xr) : EvY X (.Compare a [.Eq] [b] pos) r L xr := ⟨fun W H σ Q Wx s en tk y => wp_pe (pe_cmpR op_eq pe_wp pe_wp (nomark _)) (he.go W H σ _ Wx s en tk y)⟩
theorem ey_if {z : Bool} (hc : EvB X c r L z L1) (ha : z = true → EvY X a r L1 xr) (hb : z = false → EvY X b r L1 xr) : EvY X (.IfExp c a b pos) r L xr := by
  refine ⟨fun W H σ Q Wx s en tk y => ?_⟩
  refine wp_pe (pe_ifExp pt_wp pe_wp pe_wp) ?_
  refine hc W H σ _ s en fun W1 H1 st1 s1 => ?_
  cases z with
  | true => exact (ha rfl).go W1 H1 σ Q Wx s1 (en.step st1 s) tk (y.step st1)
  | false => exact (hb rfl).go W1 H1 σ Q Wx s1 (en.step st1 s) tk (y.step st1)
theorem tv_ifR {ea : α → R} {z : Bool} {y : α} (h : ifR z o1 o2 = .rt y) (hc : EvB X c r L z L1) (ha : z = true → o1 = .rt y → Ev X a r L1 (ea y) Lb) (hb : z = false → o2 = .rt y → Ev X b r L1 (ea y) Lb) : Ev X (.IfExp c a b pos) r L (ea y) Lb := by
  cases z with
  | true => exact ev_ifT hc (ha rfl h)
  | false => exact ev_ifF hc (hb rfl h)
theorem ey_ifR {z : Bool} {q : Exc} (h : ifR z o1 o2 = .er q) (hc : EvB X c r L z L1) (ha : z = true → o1 = .er q → EvY X a r L1 xr) (hb : z = false → o2 = .er q → EvY X b r L1 xr) : EvY X (.IfExp c a b pos) r L xr :=
  ey_if hc (fun e => ha e (by subst e; exact h)) (fun e => hb e (by subst e; exact h))
end
end TL


/-! Models: further rules, second part. -/
namespace TL
open PySem PySem.Spec PyProof.Rows L2
/-- a tuple whose second item is a list of streets -/
def PSt (t : T) (ls : List Lane) : Prop := ∃ x rest, t = .tup (x :: eL tLane ls :: rest)
theorem PSt.parts (q : Tw) : PSt (tParts q) q.st := ⟨_, _, rfl⟩
section
variable {cm : Bool} {CX : CXT} {P : Program} {w : World} {K : PySem.W.Frag} {mg : Str → Option Value} {base : Heap} {k : Nat} {N : List Str} {sc : Scope} {fs : Str → Bool} {X : Cx}
variable {e a b : Expr} {r : TEnv} {L L1 Lb : Store} {t : T} {pos p : Pos} {α : Type} {ea : α → T} {ls : List Lane}
theorem tv_ps1 (h : PSt t ls) (ha : Ev X a r L (.v t) L1) (hb : Ev X b r L1 (.v (I 1)) Lb) (hs : PlainIx b := by exact fun _ _ => rfl) : Ev X (.Subscript a b pos) r L (.v (eL tLane ls)) Lb := by
  obtain ⟨x, rest, rfl⟩ := h
  exact ev_ixT ha hb (at1 _ _ _) hs
theorem tv_sortDV {d : List (Int × α)} (ct : Cq true CX P w K mg base k N sc fs X) (hm : mg "sorted" = none) (ha : EvA X [e] r L [eD ea d] L1) (hz : d.length < 64) (hg : glOk sc "sorted" = true := by decide +kernel)
    (he : starEach [e] X.env = (false, eval e X.env) :: starEach [] X.env := by first | with_reducible exact se1 | with_reducible exact se2 | with_reducible exact se3 | with_reducible exact se4 | with_reducible exact se5 | with_reducible exact se6 | with_reducible exact se7 | with_reducible exact se8 | with_reducible exact se9 | rfl) : Ev X (.Call (.Name "sorted" p) [e] [] pos) r L (.n (eL I (sortI (keysD d)))) L1 :=
  ev_cb ct (call_sortedDI (ct.calm rfl)) PyProof.Rows.boot_sorted hm hg ha (fun W H xs Q s r0 q => by
    obtain ⟨x, rfl, r1⟩ := rp1 r0
    have e1 : (d.map fun q => (Sum.inl q.1 : Key)) = (keysD d).map Sum.inl := by unfold keysD; rw [List.map_map]; rfl
    cases r1 with
    | dK fa hd hl rr =>
      rename_i a vs
      rw [e1] at hd hl
      refine ⟨_, _, keysD d, rfl, hd, by rw [List.map_fst_zip]; omega, by unfold keysD; rw [List.length_map]; exact hz, fun ms p h1 h2 hp => ?_⟩
      have e := sortI_uniq h1 h2
      subst e
      exact q _ W _ (.newp hp) (s.new hp) (new_n (t := .lst _) s hp ⟨_, upd_same, RpL.of_atoms V.int _⟩)) he (by rfl)
theorem tv_sortP {ps : List (Int × Int)} (ct : Cq cm CX P w K mg base k N sc fs X) (hm : mg "sorted" = none) (ha : EvA X [e] r L [t] L1) (hl : LstT L1 t (ps.map (e2 I I))) (hg : glOk sc "sorted" = true := by decide +kernel)
    (he : starEach [e] X.env = (false, eval e X.env) :: starEach [] X.env := by first | with_reducible exact se1 | with_reducible exact se2 | with_reducible exact se3 | with_reducible exact se4 | with_reducible exact se5 | with_reducible exact se6 | with_reducible exact se7 | with_reducible exact se8 | with_reducible exact se9 | rfl) : Ev X (.Call (.Name "sorted" p) [e] [] pos) r L (.n (eL (e2 I I) (sortP ps))) L1 := ksortP ct hm ha hl hg he
theorem ev_ext {o : Expr} {apos : Pos} {m : Nat} {ts us : List T} (ho : Ev X o r L (.v (.cel m)) L) (ha : Ev X e r L (.v (.lst us)) L) (hl : L m = some (.lst ts)) (hz : ts.length + us.length ≤ 100000)
    (hs : starEach [e] X.env = (false, eval e X.env) :: starEach [] X.env := by rfl) (hbase : attributeBase o "extend" X.env (eval o X.env) = eval o X.env := by rfl)
    (hfew : ((backTo pos (starEach (e :: []) X.env)).all (fun x => !x.1) && (backToKw pos (keywordEach [] X.env)).all (fun x => x.1.isSome) && decide ((e :: []).length + ([] : List Keyword).length + (if ([] : List Keyword).isEmpty then 0 else 1) < 30)) = true := by rfl)
    (hline : (apos.endLine == pos.line) = true := by rfl) (hplain : (backTo pos (starEach [] X.env)).any (·.1) = false := by rfl) : Ev X (.Call (.Attribute o "extend" apos) [e] [] pos) r L (.v N0) (updS L m (some (.lst (ts ++ us)))) := by
  refine ⟨fun W H σ Q s en q => ?_⟩
  refine wp_pe (pe_bm PySem.F.plainAttrs_list PySem.F.slot_list_extend PySem.F.type_list_extend (fun p s σ H x xs v us Q I r1 r2 h => mt_extend p s σ H x xs v us Q I r1 r2 h) pe_wp (pa_cons pe_wp pa_nil hs) hbase hfew hline hs hplain) ?_
  refine ho W H σ _ s en fun x W1 H1 st1 s1 r1 => ?_
  cases r1 with
  | cel hc =>
    obtain ⟨vs0, e0, _⟩ := s1.cel m _ _ hl hc
    refine ⟨.inl ⟨rfl, _, .inl (.inl e0)⟩, ?_⟩
    refine ha W1 H1 σ _ s1 (en.step st1 s) fun y W2 H2 st2 s2 r2 => ?_
    have hc2 := st2.ad m _ hc
    obtain ⟨vs, e1, r3⟩ := s2.cel m _ _ hl hc2
    cases r2 with
    | lst f hb rb =>
      rename_i b zs
      refine ⟨_, _, vs, _, rfl, rfl, e1, hb, ?_, ?_⟩
      · have : (100000 : Nat) < sizeLine := by decide
        rw [← r3.length, ← rb.length]; omega
      · have st3 := Step.write (t' := .lst (ts ++ us)) (o := .lst (vs ++ zs)) (H := H2) hl hc2
        refine q _ W2 _ ((st1.trans st2).trans st3) (s2.write hl hc2 ⟨_, upd_same, ?_⟩) (.v _)
        exact (r3.append rb).write s2 hl hc2
variable {rest : List Stmt} {bs : List (List Stmt)} {σ ρ : Type} {F : Fm σ ρ} {xs ys : List α} {o : Expr} {m : Nat}
theorem wb_ext {apos : Pos} {Sf : List α → Store} {kf : List α → Fl σ ρ} (ct : Cq cm CX P w K mg base k N sc fs X) (ho : Ev X o r L (.v (.cel m)) L) (ha : Ev X e r L (.v (eL ea ys)) L) (hl : L m = some (eL ea xs)) (hz : xs.length + ys.length ≤ 100000) (hst : ∀ z, updS L m (some (eL ea z)) = Sf z) (h : ∀ z, WB X F (rest :: bs) r (Sf z) (kf z))
    (hs : starEach [e] X.env = (false, eval e X.env) :: starEach [] X.env := by rfl) (hbase : attributeBase o "extend" X.env (eval o X.env) = eval o X.env := by rfl)
    (hfew : ((backTo pos (starEach (e :: []) X.env)).all (fun x => !x.1) && (backToKw pos (keywordEach [] X.env)).all (fun x => x.1.isSome) && decide ((e :: []).length + ([] : List Keyword).length + (if ([] : List Keyword).isEmpty then 0 else 1) < 30)) = true := by rfl) (hline : (apos.endLine == pos.line) = true := by rfl) (hplain : (backTo pos (starEach [] X.env)).any (·.1) = false := by rfl)
    (hsw : swapsWith (.Call (.Attribute o "extend" apos) [e] [] pos) none p.line X.env = pure false := by rfl) : WB X F ((.Expr (.Call (.Attribute o "extend" apos) [e] [] pos) p :: rest) :: bs) r L (bdV (xs ++ ys) kf) := by
  refine wb_expr (ev_ext ho ha hl (by rw [List.length_map, List.length_map]; exact hz) hs hbase hfew hline hplain) ?_ hsw
  have := h (xs ++ ys)
  rw [← hst] at this
  rw [← List.map_append]
  exact this
end
end TL


/-! Models of the program's defs (printed by gmt.py PMA). -/
namespace TL
open PySem PySem.Spec PyProof.Rows L2
noncomputable section
def p_is_any (thing1 : T) : Rs Bool :=
  bdP ((tyN thing1).isSome = true) <|
  bdO (oif (isA "int" thing1) (obP ((tyN thing1).isSome = true) (some (!(isA "bool" thing1)))) (some false)) fun b4 =>
  .rt b4
def p_is_whole (thing1 : T) (least2 : Int) (most3 : Int) : Rs Bool :=
  bdO (okO (p_is_any thing1)) fun r4 =>
  bdO (oif r4 (obd (asI thing1) fun d5 => (some (decide (least2 ≤ d5) && decide (d5 ≤ most3)))) (some false)) fun b6 =>
  .rt b6
def p_check_place (town1 : Tw) (place2 : T) : Rs Unit :=
  bdO (okO (p_is_whole place2 1 town1.n)) fun r3 =>
  ifF (!r3) (
    .er ⟨"NoPlace", [(("place" : Str), eT place2), (("why" : Str), S "no place")]⟩) (
    .rt ())
def p_street_of (town1 : Tw) (number2 : T) : Rs Lane :=
  bdO (okO (p_is_whole number2 0 ((town1.st.length : Int) - 1))) fun r3 =>
  ifF (!r3) (
    .er ⟨"NoStreet", [(("number" : Str), eT number2), (("why" : Str), S "no street")]⟩) (
    bdO (asI number2) fun d4 =>
    bdO (atI town1.st d4) fun x5 =>
    .rt x5)
def p_leads (town1 : Tw) (number2 : T) (day3 : Int) : Rs (Int × Int) :=
  bdF (p_street_of town1 number2) fun (r4 : Lane) =>
  bdV r4 fun (q5 : Lane) =>
  bdP (CDivW (day3 - q5.n) q5.r) <|
  .rt (if (decide ((((day3 - q5.n) / q5.r) % 2) = 0)) = true then (q5.a, q5.b) else (q5.b, q5.a))
def p_open_from (town1 : Tw) (place2 : T) (day3 : Int) : Rs (List Int) :=
  bdF (p_check_place town1 place2) fun _ =>
  bdP (-(2 ^ 62) ≤ (town1.st.length : Int) ∧ (town1.st.length : Int) < 2 ^ 62) <|
  bdP ((TL.rangeT 0 (town1.st.length : Int).toNat).length ≤ 100000) <|
  bdO (mapO (fun number5 => (obd (okO (p_leads town1 (I number5) day3)) fun r7 => (some r7))) (TL.rangeT 0 (town1.st.length : Int).toNat)) fun l9 =>
  bdV l9 fun (pairs10 : (List (Int × Int))) =>
  bdP (pairs10.length ≤ 100000) <|
  bdO (lcO (fun q11 => (obP (shp (I q11.1) = true ∧ shp place2 = true) (some (eqT (I q11.1) place2)))) (fun q11 => (some q11.2)) pairs10) fun l15 =>
  bdV l15 fun (found16 : (List Int)) =>
  bdP (town1.wd.length ≤ 100000) <|
  bdO (lcO (fun pair18 => (obd (asI place2) fun d20 => (some (memB d20 ([pair18.1, pair18.2]))))) (fun pair18 => (obd (asI place2) fun d21 => (some ((pair18.1 + pair18.2) - d21)))) town1.wd) fun l23 =>
  bdP (found16.length + l23.length ≤ 100000) <|
  bdV (found16 ++ l23) fun (found25 : (List Int)) =>
  bdO (asI place2) fun d26 =>
  bdO (asI place2) fun d27 =>
  bdP (-(2 ^ 63) ≤ (if (memB d27 town1.bd) = true then (1 : Int) else 0) ∧ (if (memB d27 town1.bd) = true then (1 : Int) else 0) < 2 ^ 63 ∧ ([d26]).length * (if (memB d27 town1.bd) = true then (1 : Int) else 0).toNat ≤ 100000) <|
  bdP (found25.length + ((List.replicate (if (memB d27 town1.bd) = true then (1 : Int) else 0).toNat ([d26])).flatten).length ≤ 100000) <|
  bdV (found25 ++ (List.replicate (if (memB d27 town1.bd) = true then (1 : Int) else 0).toNat ([d26])).flatten) fun (found30 : (List Int)) =>
  bdP (found30.length < 64) <|
  .rt (sortU found30)
def p_common_part_b1 (s3 : Int × Int) : Fl (Int × Int) Int :=
  bdP (0 < s3.2) <|
  bdV s3.2 fun (one5 : Int) =>
  bdV (s3.1 % s3.2) fun (other6 : Int) =>
  .nx (one5, other6)
def p_common_part_b1c (s3 : Int × Int) : Option Bool := (some (s3.2 != 0))
def p_common_part (one1 : Int) (other2 : Int) : Rs Int :=
  bdL (whileL p_common_part_b1c p_common_part_b1 fuel (one1, other2)) fun (s7 : Int × Int) =>
  .rt s7.1
def p_least_common_b1 (s3 : Int) (y4 : Lane) : Fl (Int) Int :=
  bdP (CMul s3 y4.r) <|
  bdO (okO (p_common_part s3 y4.r)) fun r6 =>
  bdP (CDivW (s3 * y4.r) r6) <|
  bdV ((s3 * y4.r) / r6) fun (found8 : Int) =>
  .nx found8
def p_least_common (town1 : Tw) : Rs Int :=
  bdV 1 fun (found2 : Int) =>
  bdL (forL p_least_common_b1 town1.st found2) fun (s9 : Int) =>
  .rt s9
def p_turn_of (town1 : Tw) : Rs Int :=
  bdO (okO (p_least_common town1)) fun r2 =>
  .rt (2 * r2)
def p_end_of (town1 : Tw) (place2 : Int) (day3 : Int) (move4 : T) : Rs (Option Int) :=
  bdP ((tyN move4).isSome = true) <|
  bdO (oif (!(isA "tuple" move4)) (some true) (obd (asTup move4) fun d6 => (some (!(!d6.isEmpty))))) fun b7 =>
  ifF b7 (
    .rt none) (
    bdP (shp move4 = true ∧ shp (eM Mv.inn) = true) <|
    ifF (eqT move4 (eM Mv.inn)) (
      .rt (if (memB place2 town1.bd) = true then (some place2) else none)) (
      bdO (asTup move4) fun d9 =>
      ifF (!decide ((d9.length : Int) = 2)) (
        .rt none) (
        bdO (tup2 move4) fun d10 =>
        bdV d10 fun (q11 : (T × T)) =>
        bdP (shp q11.1 = true ∧ shp (S ("street" : Str)) = true) <|
        bdO (oif (eqT q11.1 (S ("street" : Str))) (obd (okO (p_is_whole q11.2 0 ((town1.st.length : Int) - 1))) fun r13 => (some r13)) (some false)) fun b14 =>
        ifF b14 (
          bdF (p_leads town1 q11.2 day3) fun (r15 : (Int × Int)) =>
          bdV r15 fun (q16 : (Int × Int)) =>
          .rt (if (decide (q16.1 = place2)) = true then (some q16.2) else none)) (
          bdP (shp q11.1 = true ∧ shp (S ("broad" : Str)) = true) <|
          bdO (oif (eqT q11.1 (S ("broad" : Str))) (obd (okO (p_is_whole q11.2 1 town1.n)) fun r18 => (some r18)) (some false)) fun b19 =>
          ifF b19 (
            bdO (asI q11.2) fun d20 =>
            bdO (asI q11.2) fun d21 =>
            bdO (oif (memB ((min place2 d20), (max place2 d21)) town1.wd) (obd (asI q11.2) fun d22 => (some (some d22))) (some none)) fun c23 =>
            .rt c23) (
            .rt none)))))
def p_some_move_b1 (town1 : Tw) (place2 : T) (other3 : T) (day4 : Int) (s14 : Unit) (y15 : Mv) : Fl (Unit) (Option Mv) :=
  bdO (asI place2) fun d16 =>
  bdO (okO (p_end_of town1 d16 day4 (eM y15))) fun r17 =>
  bdP (shp ((eO I) r17) = true ∧ shp other3 = true) <|
  ifF (eqT ((eO I) r17) other3) (
    .rt (some y15)) (
    .nx ())
def p_some_move (town1 : Tw) (place2 : T) (other3 : T) (day4 : Int) : Rs (Option Mv) :=
  bdF (p_check_place town1 place2) fun _ =>
  bdF (p_check_place town1 other3) fun _ =>
  bdP (-(2 ^ 62) ≤ (town1.st.length : Int) ∧ (town1.st.length : Int) < 2 ^ 62) <|
  bdP ((TL.rangeT 0 (town1.st.length : Int).toNat).length ≤ 100000) <|
  bdV ((TL.rangeT 0 (town1.st.length : Int).toNat).map fun number6 => (Mv.st number6)) fun (moves9 : (List Mv)) =>
  bdO (asI other3) fun d11 =>
  bdP (moves9.length + ([(Mv.br d11), Mv.inn]).length ≤ 100000) <|
  bdV (moves9 ++ [(Mv.br d11), Mv.inn]) fun (moves13 : (List Mv)) =>
  bdL (forL (p_some_move_b1 town1 place2 other3 day4) moves13 ()) fun (s19 : Unit) =>
  .rt none
def p_moves_of (town1 : Tw) (places2 : (List Int)) (day3 : Int) : Rs (List Mv) :=
  bdP (-(2 ^ 62) ≤ ((places2.length : Int) - 1) ∧ ((places2.length : Int) - 1) < 2 ^ 62) <|
  bdP ((TL.rangeT 0 ((places2.length : Int) - 1).toNat).length ≤ 100000) <|
  bdO (mapO (fun at5 => (obd (atI places2 at5) fun x7 => (obd (atI places2 (at5 + 1)) fun x8 => (obd (okO (p_some_move town1 (I x7) (I x8) (day3 + at5))) fun r9 => (obd r9 fun o10 => (some o10)))))) (TL.rangeT 0 ((places2.length : Int) - 1).toNat)) fun l12 =>
  .rt l12
def p_stepped_b1 (y7 : Int) (s9 : (List (Int × Int))) (y10 : Int) : Fl ((List (Int × Int))) (List (Int × Int)) :=
  bdP (s9.length ≤ 100000) <|
  bdV (sdfD s9 y10 y7) fun (found12 : (List (Int × Int))) =>
  .nx found12
def p_stepped_b2 (town1 : Tw) (day3 : Int) (s6 : (List (Int × Int))) (y7 : Int) : Fl ((List (Int × Int))) (List (Int × Int)) :=
  bdO (okO (p_open_from town1 (I y7) day3)) fun r8 =>
  bdL (forL (p_stepped_b1 y7) r8 s6) fun (s13 : (List (Int × Int))) =>
  .nx s13
def p_stepped (town1 : Tw) (layer2 : (List (Int × Int))) (day3 : Int) : Rs (List (Int × Int)) :=
  bdV ([]) fun (found4 : (List (Int × Int))) =>
  bdL (forL (p_stepped_b2 town1 day3) (keysD layer2) found4) fun (s14 : (List (Int × Int))) =>
  .rt s14
def p_traced_b1 (s5 : (List Int)) (y6 : (List (Int × Int))) : Fl ((List Int)) (List Int) :=
  bdO (atI s5 (-1)) fun x7 =>
  bdO (lookD y6 x7) fun x8 =>
  bdP (s5.length ≤ 100000) <|
  bdV (s5 ++ [x8]) fun (found10 : (List Int)) =>
  .nx found10
def p_traced (layers1 : (List (List (Int × Int)))) (place2 : Int) : Rs (List Int) :=
  bdV ([place2]) fun (found3 : (List Int)) =>
  bdL (forL p_traced_b1 ((layers1.drop 1).reverse) found3) fun (s11 : (List Int)) =>
  .rt s11.reverse
def p_home_again_b1 (town1 : Tw) (place2 : T) (day3 : Int) (s10 : (List (List (Int × Int)))) (y11 : Int) : Fl ((List (List (Int × Int)))) (Option (List Mv)) :=
  bdO (atI s10 (-1)) fun x12 =>
  bdO (okO (p_stepped town1 x12 y11)) fun r13 =>
  bdP (s10.length ≤ 100000) <|
  bdV (s10 ++ [r13]) fun (layers15 : (List (List (Int × Int)))) =>
  bdO (atI layers15 (-1)) fun x16 =>
  bdO (asI place2) fun d17 =>
  ifF (hasD x16 d17) (
    bdO (asI place2) fun d18 =>
    bdO (okO (p_traced layers15 d18)) fun r19 =>
    bdO (okO (p_moves_of town1 r19 day3)) fun r20 =>
    .rt (some r20)) (
    bdO (atI layers15 (-1)) fun x21 =>
    ifF (!(!x21.isEmpty)) (
      .rt none) (
      .nx layers15))
def p_home_again (town1 : Tw) (place2 : T) (day3 : Int) : Rs (Option (List Mv)) :=
  bdF (p_check_place town1 place2) fun _ =>
  bdO (asI place2) fun d4 =>
  bdO (asI place2) fun d5 =>
  bdV ([[(d4, d5)]]) fun (layers6 : (List (List (Int × Int)))) =>
  bdO (okO (p_turn_of town1)) fun r8 =>
  bdP (CMul town1.n r8) <|
  bdL (forL (p_home_again_b1 town1 place2 day3) (TL.rangeT day3 (((day3 + (town1.n * r8)) : Int) - day3).toNat) layers6) fun (s22 : (List (List (Int × Int)))) =>
  .rt none
def a_cell_at (script1 : (List Int)) (k2 : Int) : Rs Int :=
  ifF (decide (k2 < (script1.length : Int))) (
    bdO (atI script1 k2) fun x3 =>
    .rt x3) (
    .rt 0)
def a_lead (street1 : Lane) (day2 : Int) : Rs (Int × Int) :=
  bdV street1 fun (q3 : Lane) =>
  bdP (0 < (2 * q3.r)) <|
  ifF (decide (((day2 - q3.n) % (2 * q3.r)) < q3.r)) (
    .rt (q3.a, q3.b)) (
    .rt (q3.b, q3.a))
def a_moves_j1 (z12 : (List (Mv × Int))) : Fl ((List (Mv × Int))) (List (Mv × Int)) :=
  .nx z12
def a_moves_b2 (parts_here1 : Tw) (place2 : Int) (day3 : Int) (s7 : (List (Mv × Int))) (y8 : Int) : Fl ((List (Mv × Int))) (List (Mv × Int)) :=
  bdO (atI parts_here1.st y8) fun x9 =>
  bdO (okO (a_lead x9 day3)) fun r10 =>
  bdV r10 fun (q11 : (Int × Int)) =>
  ifF (decide (q11.1 = place2)) (
    bdP (s7.length ≤ 100000) <|
    bdV (s7 ++ [((Mv.st y8), q11.2)]) fun (found14 : (List (Mv × Int))) =>
    a_moves_j1 found14) (
    a_moves_j1 s7)
def a_moves_j3 (z18 : (List (Mv × Int))) : Fl ((List (Mv × Int))) (List (Mv × Int)) :=
  .nx z18
def a_moves_b4 (place2 : Int) (s16 : (List (Mv × Int))) (y17 : (Int × Int)) : Fl ((List (Mv × Int))) (List (Mv × Int)) :=
  ifF (memB place2 ([y17.1, y17.2])) (
    bdP (s16.length ≤ 100000) <|
    bdV (s16 ++ [((Mv.br ((y17.1 + y17.2) - place2)), ((y17.1 + y17.2) - place2))]) fun (found20 : (List (Mv × Int))) =>
    a_moves_j3 found20) (
    a_moves_j3 s16)
def a_moves_j5 (z22 : (List (Mv × Int))) : Fl (Unit) (List (Mv × Int)) :=
  .rt z22
def a_moves (parts_here1 : Tw) (place2 : Int) (day3 : Int) : Rs (List (Mv × Int)) :=
  bdV ([]) fun (found4 : (List (Mv × Int))) =>
  bdP (-(2 ^ 62) ≤ (parts_here1.st.length : Int) ∧ (parts_here1.st.length : Int) < 2 ^ 62) <|
  bdL (forL (a_moves_b2 parts_here1 place2 day3) (TL.rangeT 0 (parts_here1.st.length : Int).toNat) found4) fun (s15 : (List (Mv × Int))) =>
  bdL (forL (a_moves_b4 place2) parts_here1.wd s15) fun (s21 : (List (Mv × Int))) =>
  ifF (memB place2 parts_here1.bd) (
    bdP (s21.length ≤ 100000) <|
    bdV (s21 ++ [(Mv.inn, place2)]) fun (found24 : (List (Mv × Int))) =>
    a_moves_j5 found24) (
    a_moves_j5 s21)
def a_whole (parts_here1 : Tw) : Rs Int :=
  bdP ((TL.rangeT 1 ((61 : Int) - 1).toNat).length ≤ 100000) <|
  bdO (lcO (fun d2 => (obP (parts_here1.st.length ≤ 100000) (obd (lcO (fun one_here4 => (obP (0 < one_here4.r) (some (!decide ((d2 % one_here4.r) = 0))))) (fun one_here4 => (some one_here4)) parts_here1.st) fun l8 => (some (decide (l8 = [])))))) (fun d2 => (some d2)) (TL.rangeT 1 ((61 : Int) - 1).toNat)) fun l10 =>
  bdO (atI l10 0) fun x11 =>
  .rt x11
def a_next_b1 (s9 : (List (Int × Bool))) (y10 : (Mv × Int)) : Fl ((List (Int × Bool))) (List Int) :=
  bdP (s9.length ≤ 100000) <|
  bdV (putD s9 y10.2 true) fun (found12 : (List (Int × Bool))) =>
  .nx found12
def a_next_b2 (parts_here1 : Tw) (day3 : Int) (s6 : (List (Int × Bool))) (y7 : Int) : Fl ((List (Int × Bool))) (List Int) :=
  bdO (okO (a_moves parts_here1 y7 day3)) fun r8 =>
  bdL (forL a_next_b1 r8 s6) fun (s13 : (List (Int × Bool))) =>
  .nx s13
def a_next (parts_here1 : Tw) (places2 : (List Int)) (day3 : Int) : Rs (List Int) :=
  bdV ([]) fun (found4 : (List (Int × Bool))) =>
  bdL (forL (a_next_b2 parts_here1 day3) places2 found4) fun (s14 : (List (Int × Bool))) =>
  bdP (s14.length < 64) <|
  .rt (sortI (keysD s14))
def a_fewest_b1 (parts_here1 : Tw) (place2 : Int) (day3 : Int) (s8 : (List Int)) (y9 : Int) : Fl ((List Int)) (Option Int) :=
  bdO (okO (a_next parts_here1 s8 (day3 + y9))) fun r10 =>
  bdV r10 fun (some11 : (List Int)) =>
  ifF (memB place2 some11) (
    .rt (some (y9 + 1))) (
    ifF (decide (some11 = [])) (
      .rt none) (
      .nx some11))
def a_fewest (parts_here1 : Tw) (place2 : Int) (day3 : Int) : Rs (Option Int) :=
  bdV ([place2]) fun (some4 : (List Int)) =>
  bdO (okO (a_whole parts_here1)) fun r5 =>
  bdP (CMul (parts_here1.n * 2) r5) <|
  bdP (-(2 ^ 62) ≤ ((parts_here1.n * 2) * r5) ∧ ((parts_here1.n * 2) * r5) < 2 ^ 62) <|
  bdL (forL (a_fewest_b1 parts_here1 place2 day3) (TL.rangeT 0 ((parts_here1.n * 2) * r5).toNat) some4) fun (s12 : (List Int)) =>
  .rt none
def a_gone_b1 (parts_here1 : Tw) (day3 : Int) (walk4 : (List Mv)) (s8 : (List Int)) (y9 : Int) : Fl ((List Int)) (Option (List Int)) :=
  bdO (atI s8 (-1)) fun x10 =>
  bdO (okO (a_moves parts_here1 x10 (day3 + y9))) fun r11 =>
  bdP (r11.length ≤ 100000) <|
  bdO (lcO (fun q12 => (obP (RepOk (eM q12.1)) (obd (atI walk4 y9) fun x15 => (obP (RepOk (eM x15)) (some (decide ((reprT (eM q12.1)) = (reprT (eM x15))))))))) (fun q12 => (some q12.2)) r11) fun l18 =>
  bdV l18 fun (ends19 : (List Int)) =>
  ifF (decide (ends19 = [])) (
    .rt none) (
    bdO (atI ends19 0) fun x20 =>
    bdP (s8.length ≤ 100000) <|
    bdV (s8 ++ [x20]) fun (found22 : (List Int)) =>
    .nx found22)
def a_gone (parts_here1 : Tw) (place2 : Int) (day3 : Int) (walk4 : (List Mv)) : Rs (Option (List Int)) :=
  bdV ([place2]) fun (found5 : (List Int)) =>
  bdP (-(2 ^ 62) ≤ (walk4.length : Int) ∧ (walk4.length : Int) < 2 ^ 62) <|
  bdL (forL (a_gone_b1 parts_here1 day3 walk4) (TL.rangeT 0 (walk4.length : Int).toNat) found5) fun (s23 : (List Int)) =>
  .rt (some s23)
end
end TL


/-! What the models of the program's defs say, in plain terms (family A). -/
namespace TL
open PySem PySem.Spec PyProof.Rows L2
section
variable {α β σ ρ : Type}
theorem mapO_some {g : α → Option β} {f : α → β} : ∀ {xs : List α}, (∀ x ∈ xs, g x = some (f x)) → mapO g xs = some (xs.map f)
  | [], _ => rfl
  | x :: xs, h => by
    unfold mapO
    rw [h x List.mem_cons_self, obd_some, mapO_some fun y hy => h y (List.mem_cons_of_mem _ hy)]; rfl
theorem lcO_some {c : α → Option Bool} {g : α → Option β} {p : α → Bool} {f : α → β} : ∀ {xs : List α}, (∀ x ∈ xs, c x = some (p x)) → (∀ x ∈ xs, p x = true → g x = some (f x)) → lcO c g xs = some ((xs.filter p).map f)
  | [], _, _ => rfl
  | x :: xs, h, h2 => by
    unfold lcO
    rw [h x List.mem_cons_self, obd_some, lcO_some (fun y hy => h y (List.mem_cons_of_mem _ hy)) fun y hy => h2 y (List.mem_cons_of_mem _ hy)]
    cases q : p x with
    | true => rw [List.filter_cons_of_pos q]; show obd (g x) _ = _; rw [h2 x List.mem_cons_self q]; rfl
    | false => rw [List.filter_cons_of_neg (by rw [q]; decide)]
theorem forL_nil {body : σ → α → Fl σ ρ} {s : σ} : forL body [] s = .nx s := rfl
/-- a loop that runs through -/
theorem forL_inv {body : σ → α → Fl σ ρ} {xs : List α} (P : List α → σ → Prop) {s : σ} (h0 : P [] s) (hs : ∀ ys y zs s, xs = ys ++ y :: zs → P ys s → ∃ s', body s y = .nx s' ∧ P (ys ++ [y]) s') : ∃ s', forL body xs s = .nx s' ∧ P xs s' := by
  have key : ∀ (zs ys : List α) (s : σ), xs = ys ++ zs → P ys s → ∃ s', forL body zs s = .nx s' ∧ P xs s' := by
    intro zs
    induction zs with
    | nil => intro ys s e h; rw [List.append_nil] at e; subst e; exact ⟨s, rfl, h⟩
    | cons z zs ih =>
      intro ys s e h
      obtain ⟨s1, e1, h1⟩ := hs ys z zs s e h
      obtain ⟨s2, e2, h2⟩ := ih (ys ++ [z]) s1 (by rw [e, List.append_assoc]; rfl) h1
      refine ⟨s2, ?_, h2⟩
      rw [forL_cons, e1]; exact e2
  exact key xs [] s rfl h0
/-- .. or hands back -/
theorem forL_or {body : σ → α → Fl σ ρ} {xs : List α} (P : List α → σ → Prop) (Q : ρ → Prop) {s : σ} (h0 : P [] s) (hs : ∀ ys y zs s, xs = ys ++ y :: zs → P ys s → (∃ s', body s y = .nx s' ∧ P (ys ++ [y]) s') ∨ ∃ v, body s y = .rt v ∧ Q v) :
    (∃ s', forL body xs s = .nx s' ∧ P xs s') ∨ ∃ v, forL body xs s = .rt v ∧ Q v := by
  have key : ∀ (zs ys : List α) (s : σ), xs = ys ++ zs → P ys s → (∃ s', forL body zs s = .nx s' ∧ P xs s') ∨ ∃ v, forL body zs s = .rt v ∧ Q v := by
    intro zs
    induction zs with
    | nil => intro ys s e h; rw [List.append_nil] at e; subst e; exact .inl ⟨s, rfl, h⟩
    | cons z zs ih =>
      intro ys s e h
      rcases hs ys z zs s e h with ⟨s1, e1, h1⟩ | ⟨v, e1, h1⟩
      · rcases ih (ys ++ [z]) s1 (by rw [e, List.append_assoc]; rfl) h1 with ⟨s2, e2, h2⟩ | ⟨v, e2, h2⟩
        · exact .inl ⟨s2, by rw [forL_cons, e1]; exact e2, h2⟩
        · exact .inr ⟨v, by rw [forL_cons, e1]; exact e2, h2⟩
      · exact .inr ⟨v, by rw [forL_cons, e1], h1⟩
  exact key xs [] s rfl h0
/-- .. with nothing carried on -/
theorem forL_unit {body : Unit → α → Fl Unit ρ} {xs : List α} (h : ∀ y ∈ xs, body () y = .nx ()) : forL body xs () = .nx () := by
  obtain ⟨s, e, _⟩ := forL_inv (body := body) (xs := xs) (fun _ _ => True) (s := ()) trivial (fun ys y zs s e _ => ⟨(), h y (by rw [e]; simp), trivial⟩)
  exact e
theorem atI_nat {xs : List α} {i : Int} (h0 : 0 ≤ i) (h1 : i < xs.length) : atI xs i = xs[i.toNat]? := by
  unfold atI ixN
  rw [if_pos h0, if_pos h1]; rfl
theorem atI_last {xs : List α} {y : α} : atI (xs ++ [y]) (-1) = some y := by
  unfold atI ixN
  rw [if_neg (by decide), if_pos (by rw [List.length_append, List.length_singleton]; omega)]
  show (xs ++ [y])[((-1 : Int) + ((xs ++ [y]).length : Int)).toNat]? = _
  rw [List.length_append, List.length_singleton, show ((-1 : Int) + ((xs.length + 1 : Nat) : Int)).toNat = xs.length by omega]
  simp
theorem okO_some {r : Rs α} {v : α} (h : r = .rt v) : okO r = some v := by rw [h]; rfl
theorem oif_t {a b : Option β} : oif true a b = a := rfl
theorem oif_f {a b : Option β} : oif false a b = b := rfl
theorem bdV_eq {α β : Type} {v : α} {k : α → β} : bdV v k = k v := rfl
theorem whileL_t {c : σ → Option Bool} {body : σ → Fl σ ρ} {n : Nat} {s s' : σ} (h : c s = some true) (h2 : body s = .nx s') : whileL c body (n + 1) s = whileL c body n s' := by rw [whileL_succ, h, h2]
theorem whileL_f {c : σ → Option Bool} {body : σ → Fl σ ρ} {n : Nat} {s : σ} (h : c s = some false) : whileL c body (n + 1) s = .nx s := by rw [whileL_succ, h]
theorem bdF_er {q : Exc} {k : α → Fl σ ρ} : bdF (.er q : Rs α) k = .er q := rfl
end
/-! what is any, what is whole, places, streets -/
theorem p_is_any_eq {t : T} (h : (tyN t).isSome = true) : p_is_any t = .rt (isIntT t) := by
  unfold p_is_any
  rw [bdP_yes h, ← isA_any h]
  cases isA "int" t with
  | true => rw [oif_t, obP_yes h, bdO_some]; rfl
  | false => rfl
theorem p_is_whole_eq {t : T} {lo hi : Int} (h : (tyN t).isSome = true) : p_is_whole t lo hi = .rt (wholeT t lo hi) := by
  unfold p_is_whole
  rw [okO_some (p_is_any_eq h), bdO_some]
  cases t with
  | v x => cases x <;> rfl
  | _ => rfl
theorem tyN_I (i : Int) : (tyN (I i)).isSome = true := rfl
def xPlace (t : T) : Exc := ⟨"NoPlace", [(("place" : Str), t), (("why" : Str), S "no place")]⟩
def xStreet (t : T) : Exc := ⟨"NoStreet", [(("number" : Str), t), (("why" : Str), S "no street")]⟩
theorem wholeI {i lo hi : Int} (h1 : lo ≤ i) (h2 : i ≤ hi) : wholeT (I i) lo hi = true := by
  show (decide (lo ≤ i) && decide (i ≤ hi)) = true
  rw [decide_eq_true h1, decide_eq_true h2]; rfl
theorem p_check_ok {t : Tw} {p : Int} (h1 : 1 ≤ p) (h2 : p ≤ t.n) : p_check_place t (I p) = .rt () := by
  unfold p_check_place
  rw [okO_some (p_is_whole_eq (tyN_I p)), bdO_some, wholeI h1 h2]; rfl
theorem p_check_no {t : Tw} {x : T} (h : (tyN x).isSome = true) (hw : wholeT x 1 t.n = false) : p_check_place t x = .er (xPlace x) := by
  unfold p_check_place
  rw [okO_some (p_is_whole_eq h), bdO_some, hw]; rfl
theorem p_street_ok {t : Tw} {k : Int} {l : Lane} (h0 : 0 ≤ k) (h : t.st[k.toNat]? = some l) : p_street_of t (I k) = .rt l := by
  have hk := (List.getElem?_eq_some_iff.mp h).1
  unfold p_street_of
  rw [okO_some (p_is_whole_eq (tyN_I k)), bdO_some, wholeI h0 (by omega), show (!true) = false from rfl, ifF_f, show asI (I k) = some k from rfl, bdO_some, atI_nat h0 (by omega), h]; rfl
theorem p_street_no {t : Tw} {x : T} (h : (tyN x).isSome = true) (hw : wholeT x 0 ((t.st.length : Int) - 1) = false) : p_street_of t x = .er (xStreet x) := by
  unfold p_street_of
  rw [okO_some (p_is_whole_eq h), bdO_some, hw]; rfl
theorem cdivR {a r : Int} (h1 : 1 ≤ r) (h2 : r ≤ 60) : CDivW a r := by
  refine ⟨by omega, ?_⟩
  have : r.natAbs ≤ 60 := by omega
  have h3 : r.natAbs.log2 < 6 := (Nat.log2_lt (by omega)).mpr (by omega)
  omega
theorem p_leads_ok {t : Tw} {k d : Int} {l : Lane} (h0 : 0 ≤ k) (h : t.st[k.toNat]? = some l) (r1 : 1 ≤ l.r) (r6 : l.r ≤ 6) : p_leads t (I k) d = .rt (leadsL l d) := by
  unfold p_leads
  rw [p_street_ok h0 h, bdF_rt]
  show bdP (CDivW (d - l.n) l.r) _ = _
  rw [bdP_yes (cdivR r1 (by omega))]
  unfold leadsL
  congr 1
  by_cases e : (d - l.n) / l.r % 2 = 0
  · rw [decide_eq_true e, if_pos e]; rfl
  · rw [decide_eq_false e, if_neg e]; rfl
theorem rangeT_small {st : List Lane} (h : st.length ≤ 12) : -(2 ^ 62) ≤ (st.length : Int) ∧ (st.length : Int) < 2 ^ 62 := ⟨by omega, by omega⟩
theorem toNat_len {α : Type} (l : List α) : ((l.length : Int)).toNat = l.length := by omega
theorem mapO_leads {t : Tw} (ok : PartsOk t) (d : Int) : mapO (fun k => obd (okO (p_leads t (I k) d)) fun r => some r) (TL.rangeT 0 (t.st.length : Int).toNat) = some (t.st.map fun l => leadsL l d) := by
  rw [toNat_len]
  rw [mapO_some (f := fun k => leadsL (t.st.getD k.toNat L00) d) fun k hk => ?_]
  · rw [range_at t.st L00 (fun l => leadsL l d)]
  · have hm := mem_rangeT.mp hk
    have h1 := at_num (d := L00) hk
    have ol := ok.st _ (mem_num (d := L00) hk)
    rw [okO_some (p_leads_ok hm.1 h1 ol.r1 ol.r2)]; rfl
theorem shp_I (i : Int) : shp (I i) = true := dtI.shp i
theorem eqT_I' (i j : Int) : eqT (I i) (I j) = decide (i = j) := dtI.eq i j
theorem sum_filter_len {α : Type} (l : List α) (p : α → Bool) : (l.filter p).length ≤ l.length := List.length_filter_le _ _
theorem p_open_ok {t : Tw} (ok : PartsOk t) {p d : Int} (h1 : 1 ≤ p) (h2 : p ≤ t.n) : p_open_from t (I p) d = .rt (openL t p d) := by
  have l12 := ok.s12
  have l28 := pairs_len28 ok.wd ok.n8
  have lb := inns_len ok.bd ok.n8
  have lw := ways_len ok p d
  unfold p_open_from
  rw [p_check_ok h1 h2, bdF_rt, bdP_yes (rangeT_small l12), bdP_yes (by rw [length_rangeT]; omega), mapO_leads ok, bdO_some]
  show bdP ((t.st.map fun l => leadsL l d).length ≤ 100000) _ = _
  rw [bdP_yes (by rw [List.length_map]; omega)]
  rw [lcO_some (p := fun q : Int × Int => decide (q.1 = p)) (f := fun q => q.2) (fun q _ => by rw [obP_yes ⟨shp_I _, shp_I _⟩, eqT_I']) (fun q _ _ => rfl), bdO_some]
  show bdP (t.wd.length ≤ 100000) _ = _
  rw [bdP_yes (by omega)]
  rw [lcO_some (p := fun q : Int × Int => decide (p = q.1 ∨ p = q.2)) (f := fun q => q.1 + q.2 - p) (g := fun q : Int × Int => obd (asI (I p)) fun d => some (q.1 + q.2 - d)) (fun q _ => by
    rw [show asI (I p) = some p from rfl, obd_some]
    congr 1
    unfold memB
    simp only [List.mem_cons, List.not_mem_nil, or_false]) (fun q _ _ => rfl), bdO_some]
  have e3 : (List.replicate (if memB p t.bd = true then (1 : Int) else 0).toNat [p]).flatten = (if p ∈ t.bd then [p] else []) := by
    by_cases hp : p ∈ t.bd
    · rw [if_pos hp, if_pos (memB_iff.mpr hp)]; rfl
    · rw [if_neg hp, if_neg (fun z => hp (memB_iff.mp z))]; rfl
  have lens : ((((t.st.map fun l => leadsL l d).filter fun q => decide (q.1 = p)).map fun q => q.2) ++ ((t.wd.filter fun q => decide (p = q.1 ∨ p = q.2)).map fun q => q.1 + q.2 - p)).length ≤ 40 := by
    have a := sum_filter_len (t.st.map fun l => leadsL l d) (fun q => decide (q.1 = p))
    have b := sum_filter_len t.wd (fun q => decide (p = q.1 ∨ p = q.2))
    rw [List.length_append, List.length_map, List.length_map]
    rw [List.length_map] at a
    omega
  rw [bdP_yes (by rw [← List.length_append]; omega)]
  rw [bdV_eq, show asI (I p) = some p from rfl, bdO_some, bdO_some]
  rw [bdP_yes (by
    by_cases hp : memB p t.bd = true
    · rw [if_pos hp]; exact ⟨by decide, by decide, by simp⟩
    · rw [if_neg hp]; exact ⟨by decide, by decide, by simp⟩)]
  rw [e3]
  have e4 : ((((t.st.map fun l => leadsL l d).filter fun q => decide (q.1 = p)).map fun q => q.2) ++ ((t.wd.filter fun q => decide (p = q.1 ∨ p = q.2)).map fun q => q.1 + q.2 - p)) ++ (if p ∈ t.bd then [p] else []) = waysL t p d := rfl
  have l1 : (if p ∈ t.bd then [p] else [] : List Int).length ≤ 1 := by split <;> simp
  rw [bdP_yes (by omega)]
  show bdP ((waysL t p d).length < 64) _ = _
  rw [bdP_yes (by omega)]; rfl
theorem p_open_no {t : Tw} {x : T} {d : Int} (h : (tyN x).isSome = true) (hw : wholeT x 1 t.n = false) : p_open_from t x d = .er (xPlace x) := by
  unfold p_open_from
  rw [p_check_no h hw]; rfl
/-! common parts -/
theorem gcd_loop : ∀ (n : Nat) (a b : Nat), b < n → whileL p_common_part_b1c p_common_part_b1 n ((a : Int), (b : Int)) = .nx (((Nat.gcd a b : Nat) : Int), 0)
  | 0, a, b, h => by omega
  | n + 1, a, b, h => by
    by_cases hb : b = 0
    · subst hb
      rw [whileL_f (by rfl), Nat.gcd_zero_right]; rfl
    · have e2 : p_common_part_b1 ((a : Int), (b : Int)) = .nx ((b : Int), ((a % b : Nat) : Int)) := by
        unfold p_common_part_b1
        rw [bdP_yes (by show 0 < (b : Int); omega)]
        rfl
      have e1 : p_common_part_b1c ((a : Int), (b : Int)) = some true := by
        unfold p_common_part_b1c
        have : ((b : Int) != 0) = true := by simp; omega
        rw [this]
      rw [whileL_t e1 e2, gcd_loop n b (a % b) (by have := Nat.mod_lt a (Nat.pos_of_ne_zero hb); omega), Nat.gcd_comm b, ← Nat.gcd_rec, Nat.gcd_comm]
theorem p_common_ok {a b : Nat} (h : b < 100000) : p_common_part a b = .rt ((Nat.gcd a b : Nat) : Int) := by
  unfold p_common_part
  rw [show fuel = 100000 from rfl, gcd_loop 100000 a b h]; rfl
theorem p_least_ok {t : Tw} (ok : StOk t.st) : p_least_common t = .rt (lcmL t.st : Int) := by
  unfold p_least_common
  obtain ⟨s, e, h⟩ := forL_inv (body := p_least_common_b1) (xs := t.st) (fun ys s => s = ((lcmL ys : Nat) : Int)) (s := 1) rfl (fun ys y zs s e hs => by
    subst hs
    have hy : y ∈ t.st := by rw [e]; simp
    obtain ⟨r1, r6⟩ := ok.2 y hy
    have hys : StOk ys := ⟨by have := ok.1; rw [e, List.length_append] at this; omega, fun l hl => ok.2 l (by rw [e]; exact List.mem_append_left _ hl)⟩
    have l60 := lcmL_le hys
    have l0 := lcmL_pos hys
    refine ⟨_, ?_, rfl⟩
    unfold p_least_common_b1
    obtain ⟨r, hr⟩ : ∃ r : Nat, y.r = r := ⟨y.r.toNat, by omega⟩
    rw [hr, bdP_yes (.inl ⟨by omega, by omega⟩), okO_some (p_common_ok (by omega)), bdO_some]
    have g0 : 0 < Nat.gcd (lcmL ys) r := Nat.gcd_pos_of_pos_left _ l0
    have g1 : Nat.gcd (lcmL ys) r ≤ lcmL ys := Nat.le_of_dvd l0 (Nat.gcd_dvd_left _ _)
    rw [bdP_yes (cdivR (by omega) (by omega))]
    show Fl.nx _ = _
    congr 1
    rw [lcmL_snoc, hr]
    show ((lcmL ys : Nat) : Int) * (r : Int) / ((Nat.gcd (lcmL ys) r : Nat) : Int) = _
    rw [← Int.natCast_mul, ← Int.natCast_ediv]
    rfl)
  subst h
  show bdL (forL p_least_common_b1 t.st 1) _ = _
  rw [e]; rfl
theorem p_turn_ok {t : Tw} (ok : StOk t.st) : p_turn_of t = .rt (2 * (lcmL t.st : Int)) := by
  unfold p_turn_of
  rw [okO_some (p_least_ok ok)]; rfl
end TL


/-! What the models say: moves, ends, steps, home again (family A). -/
namespace TL
open PySem PySem.Spec PyProof.Rows L2
/-- where a move ends -/
def endO (t : Tw) (p d : Int) : Mv → Option Int
  | .inn => if p ∈ t.bd then some p else none
  | .st k => if 0 ≤ k ∧ k < t.st.length then (if (leadsL (t.st.getD k.toNat L00) d).1 = p then some (leadsL (t.st.getD k.toNat L00) d).2 else none) else none
  | .br q => if 1 ≤ q ∧ q ≤ t.n ∧ (min p q, max p q) ∈ t.wd then some q else none
theorem endO_inn {t : Tw} {p d : Int} : endO t p d .inn = if p ∈ t.bd then some p else none := rfl
theorem endO_st {t : Tw} {p d k : Int} : endO t p d (.st k) = if 0 ≤ k ∧ k < t.st.length then (if (leadsL (t.st.getD k.toNat L00) d).1 = p then some (leadsL (t.st.getD k.toNat L00) d).2 else none) else none := rfl
theorem endO_br {t : Tw} {p d q : Int} : endO t p d (.br q) = if 1 ≤ q ∧ q ≤ t.n ∧ (min p q, max p q) ∈ t.wd then some q else none := rfl
theorem shpS (x : Str) (h : (PyData.str x).canLay0 = true := by decide +kernel) : shp (S x) = true := (sh_S0 x h).shp (by decide)
theorem tyN_M (m : Mv) : (tyN (eM m)).isSome = true := by cases m <;> rfl
theorem isTup_M (m : Mv) : isTupT (eM m) = true := by cases m <;> rfl
theorem p_end_ok {t : Tw} (ok : PartsOk t) (p d : Int) (m : Mv) : p_end_of t p d (eM m) = .rt (endO t p d m) := by
  unfold p_end_of
  rw [bdP_yes (tyN_M m), isA_tup (tyN_M m), isTup_M]
  have e0 : oif (!true) (some true) (obd (asTup (eM m)) fun d6 => some (!!d6.isEmpty)) = some false := by cases m <;> rfl
  rw [e0, bdO_some, ifF_f, bdP_yes ⟨dtM.shp m, dtM.shp .inn⟩, dtM.eq]
  cases m with
  | inn =>
    rw [decide_eq_true rfl, ifF_t]
    rw [endO_inn]
    congr 1
    by_cases h : p ∈ t.bd
    · rw [if_pos h, if_pos (memB_iff.mpr h)]
    · rw [if_neg h, if_neg (fun z => h (memB_iff.mp z))]
  | st k =>
    rw [decide_eq_false (fun z => by cases z), ifF_f]
    rw [show asTup (eM (.st k)) = some [S "street", I k] from rfl, bdO_some, show (!decide ((([S "street", I k] : List T).length : Int) = 2)) = false from rfl, ifF_f]
    rw [show tup2 (eM (.st k)) = some (S "street", I k) from rfl, bdO_some, bdV_eq, bdP_yes ⟨shpS _, shpS _⟩, eqT_S, decide_eq_true rfl, oif_t, okO_some (p_is_whole_eq (tyN_I k)), obd_some, bdO_some]
    rw [endO_st]
    by_cases hk : 0 ≤ k ∧ k < t.st.length
    · have hw : wholeT (I k) 0 ((t.st.length : Int) - 1) = true := wholeI hk.1 (by omega)
      have hm : k ∈ TL.rangeT 0 t.st.length := mem_rangeT.mpr ⟨hk.1, by omega⟩
      have ol := ok.st _ (mem_num (d := L00) hm)
      rw [hw, ifF_t]
      show bdF (p_leads t (I k) d) _ = _
      rw [p_leads_ok hk.1 (at_num (d := L00) hm) ol.r1 ol.r2, bdF_rt, bdV_eq, if_pos hk]
      congr 1
      by_cases e : (leadsL (t.st.getD k.toNat L00) d).1 = p
      · rw [if_pos e, decide_eq_true e]; rfl
      · rw [if_neg e, decide_eq_false e]; rfl
    · have hw : wholeT (I k) 0 ((t.st.length : Int) - 1) = false := by
        show (decide (0 ≤ k) && decide (k ≤ (t.st.length : Int) - 1)) = false
        by_cases a : 0 ≤ k
        · rw [decide_eq_true a, decide_eq_false (by omega)]; rfl
        · rw [decide_eq_false a]; rfl
      rw [hw, ifF_f, if_neg hk, bdP_yes ⟨shpS _, shpS _⟩, eqT_S, decide_eq_false (by decide), oif_f, bdO_some, ifF_f]
  | br q =>
    rw [decide_eq_false (fun z => by cases z), ifF_f]
    rw [show asTup (eM (.br q)) = some [S "broad", I q] from rfl, bdO_some, show (!decide ((([S "broad", I q] : List T).length : Int) = 2)) = false from rfl, ifF_f]
    rw [show tup2 (eM (.br q)) = some (S "broad", I q) from rfl, bdO_some, bdV_eq, bdP_yes ⟨shpS _, shpS _⟩, eqT_S, decide_eq_false (by decide), oif_f, bdO_some, ifF_f]
    rw [bdP_yes ⟨shpS _, shpS _⟩, eqT_S, decide_eq_true rfl, oif_t, okO_some (p_is_whole_eq (tyN_I q)), obd_some, bdO_some]
    rw [endO_br]
    by_cases hq : 1 ≤ q ∧ q ≤ t.n
    · rw [wholeI hq.1 hq.2, ifF_t, show asI (I q) = some q from rfl, bdO_some, bdO_some]
      by_cases e : (min p q, max p q) ∈ t.wd
      · rw [if_pos ⟨hq.1, hq.2, e⟩, memB_iff.mpr e, oif_t, obd_some, bdO_some]
      · rw [if_neg (fun z => e z.2.2)]
        have : memB (min p q, max p q) t.wd = false := Bool.eq_false_iff.mpr fun z => e (memB_iff.mp z)
        rw [this, oif_f, bdO_some]
    · have hw : wholeT (I q) 1 t.n = false := by
        show (decide (1 ≤ q) && decide (q ≤ t.n)) = false
        by_cases a : 1 ≤ q
        · rw [decide_eq_true a, decide_eq_false (by omega)]; rfl
        · rw [decide_eq_false a]; rfl
      rw [hw, ifF_f, if_neg (fun z => hq ⟨z.1, z.2.1⟩)]
/-- the first move from p to o on day d -/
def moveList (t : Tw) (o : Int) : List Mv := ((TL.rangeT 0 t.st.length).map fun k => Mv.st k) ++ [.br o, .inn]
def someMv (t : Tw) (p o d : Int) : Option Mv := (moveList t o).find? fun m => decide (endO t p d m = some o)
theorem eqT_OI (a : Option Int) (j : Int) : eqT (eO I a) (I j) = decide (a = some j) := dtOI.eq a (some j)
theorem shp_OI (a : Option Int) : shp (eO I a) = true := dtOI.shp a
theorem find_loop {t : Tw} (ok : PartsOk t) (p o d : Int) : ∀ ms : List Mv, forL (p_some_move_b1 t (I p) (I o) d) ms () = (match ms.find? fun m => decide (endO t p d m = some o) with | some m => .rt (some m) | none => .nx ())
  | [] => rfl
  | m :: ms => by
    have e : p_some_move_b1 t (I p) (I o) d () m = ifF (decide (endO t p d m = some o)) (.rt (some m)) (.nx ()) := by
      unfold p_some_move_b1
      rw [show asI (I p) = some p from rfl, bdO_some, okO_some (p_end_ok ok p d m), bdO_some, bdP_yes ⟨shp_OI _, shp_I o⟩, eqT_OI]
    rw [forL_cons, e, List.find?_cons]
    cases decide (endO t p d m = some o) with
    | true => rfl
    | false => exact find_loop ok p o d ms
theorem p_some_ok {t : Tw} (ok : PartsOk t) {p o : Int} (d : Int) (p1 : 1 ≤ p) (p2 : p ≤ t.n) (o1 : 1 ≤ o) (o2 : o ≤ t.n) : p_some_move t (I p) (I o) d = .rt (someMv t p o d) := by
  have l12 := ok.s12
  unfold p_some_move
  rw [p_check_ok p1 p2, bdF_rt, p_check_ok o1 o2, bdF_rt, bdP_yes (rangeT_small l12), bdP_yes (by rw [length_rangeT]; omega), bdV_eq, show asI (I o) = some o from rfl, bdO_some, toNat_len]
  rw [bdP_yes (by rw [List.length_map, length_rangeT]; show t.st.length + 2 ≤ 100000; omega), bdV_eq]
  show bdL (forL (p_some_move_b1 t (I p) (I o) d) (moveList t o) ()) _ = _
  rw [find_loop ok]
  unfold someMv
  cases (moveList t o).find? fun m => decide (endO t p d m = some o) with
  | some m => rfl
  | none => rfl
theorem p_some_noP {t : Tw} {x o : T} {d : Int} (h : (tyN x).isSome = true) (hw : wholeT x 1 t.n = false) : p_some_move t x o d = .er (xPlace x) := by
  unfold p_some_move
  rw [p_check_no h hw]; rfl
theorem p_some_noO {t : Tw} {p : Int} {o : T} {d : Int} (p1 : 1 ≤ p) (p2 : p ≤ t.n) (h : (tyN o).isSome = true) (hw : wholeT o 1 t.n = false) : p_some_move t (I p) o d = .er (xPlace o) := by
  unfold p_some_move
  rw [p_check_ok p1 p2, bdF_rt, p_check_no h hw]; rfl
/-- a move's end is open -/
theorem endO_open {t : Tw} (ok : PartsOk t) {p d o : Int} {m : Mv} (h : endO t p d m = some o) : o ∈ openL t p d := by
  rw [mem_openL]
  cases m with
  | inn =>
    rw [endO_inn] at h
    by_cases e : p ∈ t.bd
    · rw [if_pos e] at h; cases h; exact .inr (.inr ⟨e, rfl⟩)
    · rw [if_neg e] at h; cases h
  | st k =>
    rw [endO_st] at h
    by_cases hk : 0 ≤ k ∧ k < t.st.length
    · rw [if_pos hk] at h
      by_cases e : (leadsL (t.st.getD k.toNat L00) d).1 = p
      · rw [if_pos e] at h
        cases h
        refine .inl ⟨t.st.getD k.toNat L00, mem_num (mem_rangeT.mpr ⟨hk.1, by omega⟩), ?_⟩
        rw [← e]
      · rw [if_neg e] at h; cases h
    · rw [if_neg hk] at h; cases h
  | br q =>
    rw [endO_br] at h
    by_cases e : 1 ≤ q ∧ q ≤ t.n ∧ (min p q, max p q) ∈ t.wd
    · rw [if_pos e] at h
      cases h
      have := ok.wd.ok _ e.2.2
      refine .inr (.inl ⟨(min p o, max p o), e.2.2, ?_, ?_⟩)
      · show p = min p o ∨ p = max p o
        omega
      · show o = min p o + max p o - p
        omega
    · rw [if_neg e] at h; cases h
/-- what is open has a move -/
theorem open_some {t : Tw} (ok : PartsOk t) {p d o : Int} (h : o ∈ openL t p d) : ∃ m, someMv t p o d = some m ∧ endO t p d m = some o := by
  have hex : ∃ m ∈ moveList t o, endO t p d m = some o := by
    have ho := open_range ok h
    rcases mem_openL.mp h with ⟨l, hl, e⟩ | ⟨q, hq, e1, e2⟩ | ⟨h1, h2⟩
    · obtain ⟨i, hi⟩ := List.mem_iff_getElem?.mp hl
      have hil := (List.getElem?_eq_some_iff.mp hi).1
      refine ⟨.st (i : Int), List.mem_append_left _ (List.mem_map.mpr ⟨(i : Int), mem_rangeT.mpr ⟨by omega, by omega⟩, rfl⟩), ?_⟩
      have eg : t.st.getD ((i : Int)).toNat L00 = l := by
        rw [List.getD_eq_getElem?_getD, show ((i : Int)).toNat = i by omega, hi]; rfl
      rw [endO_st]
      rw [if_pos ⟨by omega, by omega⟩, eg, e, if_pos rfl]
    · refine ⟨.br o, List.mem_append_right _ (by simp), ?_⟩
      have hlt := ok.wd.ok _ hq
      have hq2 : (min p o, max p o) = q := by
        obtain ⟨a, b⟩ := q
        simp only at e1 e2 hlt
        rw [Prod.mk.injEq]
        omega
      rw [endO_br, if_pos ⟨ho.1, ho.2, hq2 ▸ hq⟩]
    · subst h2
      refine ⟨.inn, List.mem_append_right _ (by simp), ?_⟩
      rw [endO_inn]
      rw [if_pos h1]
  obtain ⟨m, hm, he⟩ := hex
  unfold someMv
  cases q : (moveList t o).find? fun m => decide (endO t p d m = some o) with
  | some m' => exact ⟨m', rfl, of_decide_eq_true (List.find?_some (p := fun m => decide (endO t p d m = some o)) q)⟩
  | none => exact absurd (decide_eq_true he) (List.find?_eq_none.mp q m hm)
theorem someMv_end {t : Tw} {p o d : Int} {m : Mv} (h : someMv t p o d = some m) : endO t p d m = some o := of_decide_eq_true (List.find?_some (p := fun m => decide (endO t p d m = some o)) h)
/-- p leads to no o: none -/
theorem some_none {t : Tw} (ok : PartsOk t) {p d o : Int} (h : o ∉ openL t p d) : someMv t p o d = none := by
  cases q : someMv t p o d with
  | none => rfl
  | some m => exact absurd (endO_open ok (someMv_end q)) h
/-! steps: dicts from places to whence -/
theorem keys_has {α : Type} {D : List (Int × α)} {k : Int} : hasD D k = true ↔ k ∈ keysD D := by
  unfold hasD keysD
  rw [List.any_eq_true, List.mem_map]
  constructor
  · rintro ⟨q, hq, e⟩; exact ⟨q, hq, of_decide_eq_true e⟩
  · rintro ⟨q, hq, e⟩; exact ⟨q, hq, decide_eq_true e⟩
theorem keys_sdf {α : Type} {D : List (Int × α)} {k j : Int} {v : α} : j ∈ keysD (sdfD D k v) ↔ j ∈ keysD D ∨ j = k := by
  unfold sdfD
  by_cases h : hasD D k = true
  · rw [if_pos h]
    constructor
    · exact .inl
    · rintro (h1 | rfl)
      · exact h1
      · exact keys_has.mp h
  · rw [if_neg h]
    unfold keysD
    rw [List.map_append, List.mem_append]
    simp
theorem nodup_sdf {α : Type} {D : List (Int × α)} {k : Int} {v : α} (h : (keysD D).Nodup) : (keysD (sdfD D k v)).Nodup := by
  unfold sdfD
  by_cases e : hasD D k = true
  · rw [if_pos e]; exact h
  · rw [if_neg e]
    unfold keysD at h ⊢
    rw [List.map_append, List.nodup_append]
    refine ⟨h, by simp, fun a ha b hb => ?_⟩
    simp only [List.map_cons, List.map_nil, List.mem_singleton] at hb
    subst hb
    rintro rfl
    exact e (keys_has.mpr ha)
theorem mem_sdf {α : Type} {D : List (Int × α)} {k : Int} {v : α} {q : Int × α} (h : q ∈ sdfD D k v) : q ∈ D ∨ q = (k, v) := by
  unfold sdfD at h
  by_cases e : hasD D k = true
  · rw [if_pos e] at h; exact .inl h
  · rw [if_neg e, List.mem_append, List.mem_singleton] at h; exact h
/-- a step's dict: places that are open from those of the layer, each with whence -/
structure StepOk (t : Tw) (X : List Int) (d : Int) (D : List (Int × Int)) : Prop where
  nd : (keysD D).Nodup
  val : ∀ q ∈ D, q.2 ∈ X ∧ q.1 ∈ openL t q.2 d
  all : ∀ y, (∃ x ∈ X, y ∈ openL t x d) → y ∈ keysD D
theorem StepOk.keys {t : Tw} {X : List Int} {d : Int} {D : List (Int × Int)} (h : StepOk t X d D) {y : Int} : y ∈ keysD D ↔ ∃ x ∈ X, y ∈ openL t x d := by
  constructor
  · intro hy
    unfold keysD at hy
    obtain ⟨q, hq, rfl⟩ := List.mem_map.mp hy
    exact ⟨q.2, (h.val q hq).1, (h.val q hq).2⟩
  · exact h.all y
theorem dict8 {t : Tw} (ok : PartsOk t) {D : List (Int × Int)} (nd : (keysD D).Nodup) (hv : ∀ q ∈ D, 1 ≤ q.1 ∧ q.1 ≤ t.n) : D.length ≤ 8 := by
  have h8 := ok.n8
  have := nodup_len (m := TL.rangeT 1 8) nd fun y hy => by
    unfold keysD at hy
    obtain ⟨q, hq, rfl⟩ := List.mem_map.mp hy
    exact mem_rangeT.mpr ⟨(hv q hq).1, by have := (hv q hq).2; omega⟩
  unfold keysD at this
  rw [List.length_map, length_rangeT] at this
  exact this
theorem p_stepped_ok {t : Tw} (ok : PartsOk t) {layer : List (Int × Int)} (hl : ∀ x ∈ keysD layer, 1 ≤ x ∧ x ≤ t.n) (d : Int) : ∃ D, p_stepped t layer d = .rt D ∧ StepOk t (keysD layer) d D := by
  unfold p_stepped
  obtain ⟨D, e, h1, h2, h3⟩ := forL_inv (body := p_stepped_b2 t d) (xs := keysD layer) (fun ys D => (keysD D).Nodup ∧ (∀ q ∈ D, q.2 ∈ keysD layer ∧ q.1 ∈ openL t q.2 d) ∧ ∀ y, (∃ x ∈ ys, y ∈ openL t x d) → y ∈ keysD D) (s := [])
    ⟨.nil, fun q hq => (by cases hq), fun y ⟨x, hx, _⟩ => (by cases hx)⟩ (fun ys x zs D e0 ⟨g1, g2, g3⟩ => by
      have hx : x ∈ keysD layer := by rw [e0]; simp
      obtain ⟨x1, x2⟩ := hl x hx
      unfold p_stepped_b2
      rw [okO_some (p_open_ok ok x1 x2), bdO_some]
      obtain ⟨D2, e2, k1, k2, k3, k4⟩ := forL_inv (body := p_stepped_b1 x) (xs := openL t x d) (fun us D => (keysD D).Nodup ∧ (∀ q ∈ D, q.2 ∈ keysD layer ∧ q.1 ∈ openL t q.2 d) ∧ (∀ y, (∃ x ∈ ys, y ∈ openL t x d) → y ∈ keysD D) ∧ ∀ y ∈ us, y ∈ keysD D) (s := D)
        ⟨g1, g2, g3, fun y hy => (by cases hy)⟩ (fun us y vs D e1 ⟨f1, f2, f3, f4⟩ => by
          have hy : y ∈ openL t x d := by rw [e1]; simp
          refine ⟨sdfD D y x, ?_, nodup_sdf f1, fun q hq => ?_, fun z hz => keys_sdf.mpr (.inl (f3 z hz)), fun z hz => ?_⟩
          · unfold p_stepped_b1
            rw [bdP_yes (by
              have := dict8 ok f1 fun q hq => open_range ok (f2 q hq).2
              omega)]; rfl
          · rcases mem_sdf hq with hq | rfl
            · exact f2 q hq
            · exact ⟨hx, hy⟩
          · rcases List.mem_append.mp hz with hz | hz
            · exact keys_sdf.mpr (.inl (f4 z hz))
            · rw [List.mem_singleton] at hz; exact keys_sdf.mpr (.inr hz))
      rw [e2]
      refine ⟨D2, rfl, k1, k2, fun y ⟨z, hz, hy⟩ => ?_⟩
      rcases List.mem_append.mp hz with hz | hz
      · exact k3 y ⟨z, hz, hy⟩
      · rw [List.mem_singleton] at hz; subst hz; exact k4 y hy)
  rw [bdV_eq, e]
  exact ⟨D, rfl, h1, h2, h3⟩
end TL


/-! What the models say: ways back to a place (breadth first), traced and told as moves. -/
namespace TL
open PySem PySem.Spec PyProof.Rows L2
/-- a way told backwards: its last place first; from place x0 on day d on -/
def BackW (t : Tw) (x0 d : Int) : List Int → Prop
  | [] => False
  | [y] => y = x0
  | y :: x :: r => y ∈ openL t x (d + (r.length : Int)) ∧ BackW t x0 d (x :: r)
/-- layers told backwards, ahead of {x0: x0} -/
def LayB (t : Tw) (x0 d : Int) : List (List (Int × Int)) → Prop
  | [] => True
  | D :: r => StepOk t (match r with | [] => [x0] | E :: _ => keysD E) (d + (r.length : Int)) D ∧ LayB t x0 d r
def topK (x0 : Int) : List (List (Int × Int)) → List Int
  | [] => [x0]
  | D :: _ => keysD D
theorem LayB.cons {t : Tw} {x0 d : Int} {D : List (Int × Int)} {r : List (List (Int × Int))} : LayB t x0 d (D :: r) ↔ StepOk t (topK x0 r) (d + (r.length : Int)) D ∧ LayB t x0 d r := by
  cases r <;> exact Iff.rfl
theorem look_of {α : Type} {D : List (Int × α)} {k : Int} (h : k ∈ keysD D) : ∃ v, lookD D k = some v ∧ (k, v) ∈ D := by
  have h1 := keys_has.mpr h
  rw [has_look] at h1
  obtain ⟨v, hv⟩ := Option.isSome_iff_exists.mp h1
  refine ⟨v, hv, ?_⟩
  unfold lookD at hv
  cases q : D.find? fun q => decide (q.1 = k) with
  | none => rw [q] at hv; cases hv
  | some z =>
    rw [q] at hv
    have h2 := of_decide_eq_true (List.find?_some (p := fun q : Int × α => decide (q.1 = k)) q)
    have h3 := List.mem_of_find?_eq_some q
    obtain ⟨a, b⟩ := z
    cases hv
    cases h2
    exact h3
theorem traced_loop {t : Tw} {x0 d : Int} : ∀ (rl : List (List (Int × Int))) (acc : List Int) (y : Int), LayB t x0 d rl → y ∈ topK x0 rl → acc.length + rl.length ≤ 90000 →
    ∃ zs, forL p_traced_b1 rl (acc ++ [y]) = .nx (acc ++ y :: zs) ∧ BackW t x0 d (y :: zs) ∧ zs.length = rl.length
  | [], acc, y, _, hy, _ => ⟨[], rfl, show y = x0 from by simpa [topK] using hy, rfl⟩
  | D :: r, acc, y, hl, hy, hn => by
    obtain ⟨hs, hl2⟩ := LayB.cons.mp hl
    obtain ⟨x, hx, hm⟩ := look_of (D := D) (k := y) hy
    have hv := hs.val _ hm
    rw [List.length_cons] at hn
    obtain ⟨zs, e, hb, hz⟩ := traced_loop r (acc ++ [y]) x hl2 hv.1 (by rw [List.length_append, List.length_singleton]; omega)
    refine ⟨x :: zs, ?_, ⟨by rw [hz]; exact hv.2, hb⟩, by rw [List.length_cons, List.length_cons, hz]⟩
    have e1 : p_traced_b1 (acc ++ [y]) D = .nx (acc ++ [y] ++ [x]) := by
      unfold p_traced_b1
      rw [atI_last, bdO_some, hx, bdO_some, bdP_yes (by rw [List.length_append, List.length_singleton]; omega)]; rfl
    rw [forL_cons, e1]
    show forL p_traced_b1 r (acc ++ [y] ++ [x]) = _
    rw [e, List.append_assoc]; rfl
theorem p_traced_ok {t : Tw} {x0 d y : Int} {rl : List (List (Int × Int))} {D0 : List (Int × Int)} (hl : LayB t x0 d rl) (hy : y ∈ topK x0 rl) (hn : rl.length ≤ 80000) :
    ∃ zs, p_traced (D0 :: rl.reverse) y = .rt (y :: zs).reverse ∧ BackW t x0 d (y :: zs) ∧ zs.length = rl.length := by
  obtain ⟨zs, e, hb, hz⟩ := traced_loop rl [] y hl hy (by simp; omega)
  refine ⟨zs, ?_, hb, hz⟩
  unfold p_traced
  rw [bdV_eq, List.drop_succ_cons, List.drop_zero, List.reverse_reverse]
  rw [List.nil_append, List.nil_append] at e
  rw [e]; rfl
/-- places of a way stay in the town -/
theorem BackW.range {t : Tw} (ok : PartsOk t) {x0 d : Int} (h1 : 1 ≤ x0) (h2 : x0 ≤ t.n) : ∀ {ys : List Int}, BackW t x0 d ys → ∀ y ∈ ys, 1 ≤ y ∧ y ≤ t.n
  | [], h, _, _ => h.elim
  | [y], h, z, hz => by
    rw [List.mem_singleton] at hz
    have e : y = x0 := h
    subst hz; subst e; exact ⟨h1, h2⟩
  | y :: x :: r, h, z, hz => by
    rcases List.mem_cons.mp hz with rfl | hz
    · exact open_range ok h.1
    · exact BackW.range ok h1 h2 h.2 z hz
theorem BackW.head {t : Tw} {x0 d : Int} : ∀ {ys : List Int}, BackW t x0 d ys → ys.reverse.head? = some x0
  | [], h => h.elim
  | [y], h => by have e : y = x0 := h; subst e; rfl
  | y :: x :: r, h => by
    have := BackW.head h.2
    rw [List.reverse_cons, List.head?_append, this]; rfl
/-- step by step, forwards -/
theorem BackW.step {t : Tw} {x0 d : Int} : ∀ {ys : List Int}, BackW t x0 d ys → ∀ (k : Nat) (a b : Int), ys.reverse[k]? = some a → ys.reverse[k + 1]? = some b → b ∈ openL t a (d + (k : Int))
  | [], h, _, _, _, _, _ => h.elim
  | [y], h, k, a, b, h1, h2 => by
    rw [List.reverse_singleton] at h2
    rw [List.getElem?_eq_none (by simp)] at h2; cases h2
  | y :: x :: r, h, k, a, b, h1, h2 => by
    have e : (y :: x :: r).reverse = (x :: r).reverse ++ [y] := by rw [List.reverse_cons]
    have hl : (x :: r).reverse.length = r.length + 1 := by rw [List.length_reverse, List.length_cons]
    rw [e] at h1 h2
    by_cases hk : k + 1 < r.length + 1
    · rw [List.getElem?_append_left (by omega)] at h1 h2
      exact BackW.step h.2 k a b h1 h2
    · have hk2 : k + 1 = r.length + 1 := by
        have := (List.getElem?_eq_some_iff.mp h2).1
        rw [List.length_append, hl, List.length_singleton] at this
        omega
      have hk3 : k = r.length := by omega
      subst hk3
      rw [List.getElem?_append_right (by omega), hl] at h2
      simp only [Nat.sub_self, List.getElem?_cons_zero] at h2
      cases h2
      rw [List.getElem?_append_left (by omega), List.reverse_cons, List.getElem?_append_right (by rw [List.length_reverse]; omega), List.length_reverse, Nat.sub_self] at h1
      cases h1
      exact h.1
/-- the moves of a way -/
structure MovesOf (t : Tw) (d : Int) (path : List Int) (ms : List Mv) : Prop where
  len : ms.length + 1 = path.length
  at_ : ∀ (k : Nat) (a b : Int), path[k]? = some a → path[k + 1]? = some b → ms[k]? = someMv t a b (d + (k : Int)) ∧ ∃ m, someMv t a b (d + (k : Int)) = some m
theorem p_moves_ok {t : Tw} (ok : PartsOk t) {d : Int} {path : List Int} (h0 : path ≠ []) (hr : ∀ y ∈ path, 1 ≤ y ∧ y ≤ t.n) (hs : ∀ (k : Nat) (a b : Int), path[k]? = some a → path[k + 1]? = some b → b ∈ openL t a (d + (k : Int))) (hn : path.length ≤ 90000) :
    ∃ ms, p_moves_of t path d = .rt ms ∧ MovesOf t d path ms := by
  have hpos : 0 < path.length := List.length_pos_iff.mpr h0
  unfold p_moves_of
  rw [bdP_yes (by omega), bdP_yes (by rw [length_rangeT]; omega)]
  have eN : ((path.length : Int) - 1).toNat = path.length - 1 := by omega
  rw [eN]
  have key : ∀ k : Nat, k + 1 < path.length → ∃ a b m, path[k]? = some a ∧ path[k + 1]? = some b ∧ someMv t a b (d + (k : Int)) = some m := fun k hk => by
    have e1 : path[k]? = some path[k] := List.getElem?_eq_getElem (by omega)
    have e2 : path[k + 1]? = some path[k + 1] := List.getElem?_eq_getElem hk
    obtain ⟨m, hm, _⟩ := open_some ok (hs k _ _ e1 e2)
    exact ⟨_, _, m, e1, e2, hm⟩
  let f : Int → Mv := fun x => match path[x.toNat]?, path[x.toNat + 1]? with
    | some a, some b => (someMv t a b (d + x)).getD .inn
    | _, _ => .inn
  rw [mapO_some (f := f) fun x hx => ?_, bdO_some]
  · refine ⟨_, rfl, by rw [List.length_map, length_rangeT]; omega, fun k a b ha hb => ?_⟩
    have hk : k + 1 < path.length := (List.getElem?_eq_some_iff.mp hb).1
    obtain ⟨a', b', m, e1, e2, hm⟩ := key k hk
    rw [ha] at e1; rw [hb] at e2
    cases e1; cases e2
    refine ⟨?_, m, hm⟩
    have er : (TL.rangeT 0 (path.length - 1))[k]? = some (k : Int) := by
      unfold TL.rangeT
      rw [List.getElem?_map, List.getElem?_range (by omega)]
      show some (0 + (k : Int)) = _
      rw [Int.zero_add]
    rw [List.getElem?_map, er]
    show some (f (k : Int)) = _
    have : f (k : Int) = m := by
      show (match path[((k : Int)).toNat]?, path[((k : Int)).toNat + 1]? with | some a, some b => (someMv t a b (d + (k : Int))).getD .inn | _, _ => .inn) = m
      rw [show ((k : Int)).toNat = k by omega, ha, hb]
      show (someMv t a b (d + (k : Int))).getD .inn = m
      rw [hm]; rfl
    rw [this, hm]
  · have hm := mem_rangeT.mp hx
    obtain ⟨k, rfl⟩ : ∃ k : Nat, x = k := ⟨x.toNat, by omega⟩
    have hk : k + 1 < path.length := by omega
    obtain ⟨a, b, m, e1, e2, hmv⟩ := key k hk
    have ra := hr a (List.mem_of_getElem? e1)
    have rb := hr b (List.mem_of_getElem? e2)
    rw [atI_nat (by omega) (by omega), show ((k : Int)).toNat = k by omega, e1, obd_some, atI_nat (by omega) (by omega), show ((k : Int) + 1).toNat = k + 1 by omega, e2, obd_some]
    rw [okO_some (p_some_ok ok _ ra.1 ra.2 rb.1 rb.2), obd_some, hmv, obd_some]
    congr 1
    show m = (match path[((k : Int)).toNat]?, path[((k : Int)).toNat + 1]? with | some a, some b => (someMv t a b (d + (k : Int))).getD .inn | _, _ => .inn)
    rw [show ((k : Int)).toNat = k by omega, e1, e2]
    show m = (someMv t a b (d + (k : Int))).getD .inn
    rw [hmv]; rfl
/-! how many nights, breadth first -/
def nextS (t : Tw) (X : List Int) (d : Int) : List Int := sortU (X.flatMap fun x => openL t x d)
theorem mem_nextS {t : Tw} {X : List Int} {d y : Int} : y ∈ nextS t X d ↔ ∃ x ∈ X, y ∈ openL t x d := by
  unfold nextS
  rw [mem_sortU, List.mem_flatMap]
/-- after how many steps p is met again: at most n of them -/
def bfs (t : Tw) (p : Int) : Nat → Int → Nat → List Int → Option Nat
  | 0, _, _, _ => none
  | n + 1, d, k, X => if p ∈ nextS t X d then some (k + 1) else if nextS t X d = [] then none else bfs t p n (d + 1) (k + 1) (nextS t X d)
theorem sortU_same {X Y : List Int} (h : ∀ x, x ∈ X ↔ x ∈ Y) : sortU X = sortU Y := strict_uniq (sortU_strict _) (sortU_strict _) fun y => by rw [mem_sortU, mem_sortU]; exact h y
theorem nextS_congr {t : Tw} {X Y : List Int} {d : Int} (h : ∀ x, x ∈ X ↔ x ∈ Y) : nextS t X d = nextS t Y d := by
  refine sortU_same fun y => ?_
  rw [List.mem_flatMap, List.mem_flatMap]
  exact ⟨fun ⟨x, hx, q⟩ => ⟨x, (h x).mp hx, q⟩, fun ⟨x, hx, q⟩ => ⟨x, (h x).mpr hx, q⟩⟩
theorem bfs_congr {t : Tw} {p : Int} : ∀ (n : Nat) (d : Int) (k : Nat) {X Y : List Int}, (∀ x, x ∈ X ↔ x ∈ Y) → bfs t p n d k X = bfs t p n d k Y
  | 0, _, _, _, _, _ => rfl
  | n + 1, d, k, X, Y, h => by unfold bfs; rw [nextS_congr h]
/-- towns alike in what is open -/
theorem bfs_town {t u : Tw} (h : ∀ x d, openL t x d = openL u x d) {p : Int} : ∀ (n : Nat) (d : Int) (k : Nat) (X : List Int), bfs t p n d k X = bfs u p n d k X
  | 0, _, _, _ => rfl
  | n + 1, d, k, X => by
    have e : nextS t X d = nextS u X d := by
      unfold nextS
      congr 1
      congr 1
      funext x
      exact h x d
    unfold bfs
    rw [e, bfs_town h n]
theorem openL_made (t : Tw) (p d : Int) : openL t.made p d = openL t p d := by
  refine strict_uniq (sortU_strict _) (sortU_strict _) fun y => ?_
  show y ∈ openL t.made p d ↔ y ∈ openL t p d
  rw [mem_openL, mem_openL]
  refine or_congr Iff.rfl (or_congr ?_ ?_)
  · constructor
    · rintro ⟨q, hq, r⟩; exact ⟨q, (sortP_perm t.wd).mem_iff.mp hq, r⟩
    · rintro ⟨q, hq, r⟩; exact ⟨q, (sortP_perm t.wd).mem_iff.mpr hq, r⟩
  · show (p ∈ sortI t.bd ∧ _) ↔ _
    rw [(sortI_perm t.bd).mem_iff]
/-- what home_again tells -/
structure AgainOk (t : Tw) (p d : Int) (k : Nat) (ms : List Mv) : Prop where
  ex : ∃ path : List Int, path.length = k + 1 ∧ path[0]? = some p ∧ path[k]? = some p ∧ (∀ (j : Nat) (a b : Int), path[j]? = some a → path[j + 1]? = some b → b ∈ openL t a (d + (j : Int))) ∧ MovesOf t d path ms
theorem p_home_again_ok {t : Tw} (ok : PartsOk t) {p : Int} (d : Int) (p1 : 1 ≤ p) (p2 : p ≤ t.n) :
    match bfs t p (t.n * (2 * (lcmL t.st : Int))).toNat d 0 [p] with
    | none => p_home_again t (I p) d = .rt none
    | some k => ∃ ms, p_home_again t (I p) d = .rt (some ms) ∧ AgainOk t p d k ms := by
  have n1 := ok.n1
  have n8 := ok.n8
  have l60 := lcmL_le ok.stOk
  have hN : (t.n * (2 * (lcmL t.st : Int))).toNat ≤ 960 := by
    have : t.n * (2 * (lcmL t.st : Int)) ≤ 8 * 120 := Int.mul_le_mul n8 (by omega) (by omega) (by omega)
    omega
  unfold p_home_again
  rw [p_check_ok p1 p2, bdF_rt, show asI (I p) = some p from rfl, bdO_some, bdO_some, bdV_eq, okO_some (p_turn_ok ok.stOk), bdO_some, bdP_yes (.inl ⟨by omega, by omega⟩)]
  have eN : ((d + t.n * (2 * (lcmL t.st : Int))) - d).toNat = (t.n * (2 * (lcmL t.st : Int))).toNat := by omega
  rw [eN]
  generalize (t.n * (2 * (lcmL t.st : Int))).toNat = N at hN
  have key : ∀ (n : Nat) (rl : List (List (Int × Int))), rl.length + n ≤ 1000 → LayB t p d rl →
      match bfs t p n (d + (rl.length : Int)) rl.length (topK p rl) with
      | none => bdL (forL (p_home_again_b1 t (I p) d) (TL.rangeT (d + (rl.length : Int)) n) ([(p, p)] :: rl.reverse)) (fun _ => (.rt none : Rs (Option (List Mv)))) = .rt none
      | some k => ∃ ms, bdL (forL (p_home_again_b1 t (I p) d) (TL.rangeT (d + (rl.length : Int)) n) ([(p, p)] :: rl.reverse)) (fun _ => (.rt none : Rs (Option (List Mv)))) = .rt (some ms) ∧ AgainOk t p d k ms := by
    intro n
    induction n with
    | zero => intro rl _ _; rfl
    | succ n ih =>
      intro rl hn hl
      have htop : ∀ x ∈ topK p rl, 1 ≤ x ∧ x ≤ t.n := fun x hx => by
        cases rl with
        | nil =>
          have : x = p := by simpa [topK] using hx
          subst this; exact ⟨p1, p2⟩
        | cons D r =>
          have hs := (LayB.cons.mp hl).1
          have hx : x ∈ keysD D := hx
          obtain ⟨z, _, hz⟩ := hs.keys.mp hx
          exact open_range ok hz
      obtain ⟨top, etop, hkt⟩ : ∃ top, atI ([(p, p)] :: rl.reverse) (-1) = some top ∧ keysD top = topK p rl := by
        cases rl with
        | nil => exact ⟨[(p, p)], rfl, rfl⟩
        | cons D r =>
          refine ⟨D, ?_, rfl⟩
          rw [List.reverse_cons]
          have := atI_last (xs := [(p, p)] :: r.reverse) (y := D)
          exact this
      obtain ⟨D, eD, hD⟩ := p_stepped_ok ok (layer := top) (by rw [hkt]; exact htop) (d + (rl.length : Int))
      rw [hkt] at hD
      have hl2 : LayB t p d (D :: rl) := LayB.cons.mpr ⟨hD, hl⟩
      have hset : ∀ y, y ∈ nextS t (topK p rl) (d + (rl.length : Int)) ↔ y ∈ keysD D := fun y => by rw [mem_nextS, hD.keys]
      have elay : ([(p, p)] :: rl.reverse) ++ [D] = [(p, p)] :: (D :: rl).reverse := by rw [List.reverse_cons]; rfl
      have elast : atI ([(p, p)] :: (D :: rl).reverse) (-1) = some D := by rw [← elay]; exact atI_last
      have hb : p_home_again_b1 t (I p) d ([(p, p)] :: rl.reverse) (d + (rl.length : Int)) = ifF (hasD D p) (bdO (okO (p_traced ([(p, p)] :: (D :: rl).reverse) p)) fun r19 => bdO (okO (p_moves_of t r19 d)) fun r20 => .rt (some r20))
          (ifF D.isEmpty (.rt none) (.nx ([(p, p)] :: (D :: rl).reverse))) := by
        unfold p_home_again_b1
        rw [etop, bdO_some, okO_some eD, bdO_some, bdP_yes (by rw [List.length_cons, List.length_reverse]; omega), bdV_eq, elay, elast, bdO_some, show asI (I p) = some p from rfl, bdO_some, bdO_some, bdO_some, Bool.not_not]
      rw [rangeT_cons, forL_cons, hb]
      unfold bfs
      by_cases hp : p ∈ keysD D
      · rw [if_pos ((hset p).mpr hp), keys_has.mpr hp, ifF_t]
        obtain ⟨zs, e1, hbk, hz⟩ := p_traced_ok (D0 := [(p, p)]) hl2 (y := p) hp (by rw [List.length_cons]; omega)
        have hlen : (p :: zs).reverse.length = rl.length + 2 := by rw [List.length_reverse, List.length_cons, hz, List.length_cons]
        obtain ⟨ms, e2, hms⟩ := p_moves_ok ok (d := d) (path := (p :: zs).reverse) (by intro z; rw [z] at hlen; simp at hlen) (fun y hy => hbk.range ok p1 p2 y (List.mem_reverse.mp hy)) hbk.step (by rw [hlen]; omega)
        rw [okO_some e1, bdO_some, okO_some e2, bdO_some]
        refine ⟨ms, rfl, (p :: zs).reverse, hlen, ?_, ?_, hbk.step, hms⟩
        · have := hbk.head
          rw [List.head?_eq_getElem?] at this; exact this
        · rw [List.reverse_cons, List.getElem?_append_right (by rw [List.length_reverse, hz, List.length_cons]; omega), List.length_reverse, hz, List.length_cons, Nat.sub_self]; rfl
      · rw [if_neg (fun z => hp ((hset p).mp z)), Bool.eq_false_iff.mpr (fun z => hp (keys_has.mp z)), ifF_f]
        by_cases he : nextS t (topK p rl) (d + (rl.length : Int)) = []
        · have hDe : D = [] := by
            cases D with
            | nil => rfl
            | cons q r =>
              exfalso
              have : q.1 ∈ nextS t (topK p rl) (d + (rl.length : Int)) := (hset _).mpr (by unfold keysD; rw [List.map_cons]; exact List.mem_cons_self)
              rw [he] at this; cases this
          rw [if_pos he, hDe]; rfl
        · have hDe : D.isEmpty = false := by
            cases D with
            | nil =>
              exfalso
              refine he (List.eq_nil_iff_forall_not_mem.mpr fun y hy => ?_)
              have := (hset y).mp hy
              cases this
            | cons q r => rfl
          rw [if_neg he, hDe, ifF_f]
          have h := ih (D :: rl) (by rw [List.length_cons]; omega) hl2
          have e1 : bfs t p n (d + ((D :: rl).length : Int)) (D :: rl).length (topK p (D :: rl)) = bfs t p n (d + (rl.length : Int) + 1) (rl.length + 1) (nextS t (topK p rl) (d + (rl.length : Int))) := by
            rw [List.length_cons, show d + ((rl.length + 1 : Nat) : Int) = d + (rl.length : Int) + 1 by omega]
            exact bfs_congr n _ _ fun x => (hset x).symm
          have e2 : d + ((D :: rl).length : Int) = d + (rl.length : Int) + 1 := by rw [List.length_cons]; omega
          rw [e1, e2] at h
          exact h
  have h := key N [] (by simp; omega) trivial
  rw [show d + (([] : List (List (Int × Int))).length : Int) = d by simp] at h
  exact h
theorem p_home_again_no {t : Tw} {x : T} {d : Int} (h : (tyN x).isSome = true) (hw : wholeT x 1 t.n = false) : p_home_again t x d = .er (xPlace x) := by
  unfold p_home_again
  rw [p_check_no h hw]; rfl
end TL


/-! What the laws' own defs of family A say: leads, moves, next places, fewest nights, ways gone. -/
namespace TL
open PySem PySem.Spec PyProof.Rows L2
/-! moves as texts -/
theorem mv_texts : ((List.range 61).all fun (i : Nat) => ["street", "broad"].all fun s => (PyData.tuple [.str s, .int (i : Int)]).showable && !(PyData.tuple [.str s, .int (i : Int)]).hasDict && decide ((PyData.tuple [.str s, .int (i : Int)]).depth ≤ 60) && decide ((PyData.tuple [.str s, .int (i : Int)]).shown.length ≤ 100)) = true := by decide +kernel
theorem inn_text : ((PyData.tuple [.str "inn"]).showable && !(PyData.tuple [.str "inn"]).hasDict && decide ((PyData.tuple [.str "inn"]).depth ≤ 60) && decide ((PyData.tuple [.str "inn"]).shown.length ≤ 100)) = true := by decide +kernel
def Mv.Small : Mv → Prop
  | .st k => 0 ≤ k ∧ k ≤ 60
  | .br k => 0 ≤ k ∧ k ≤ 60
  | .inn => True
theorem repOk_M {m : Mv} (h : m.Small) : RepOk (eM m) := by
  have e := ((dtM.ex).choose_spec.1 m)
  have big : 100 ≤ sizeLine := by rw [sizeLine_eq]; decide
  have go : ∀ s ∈ ["street", "broad"], ∀ k : Int, 0 ≤ k → k ≤ 60 → pd (.tup [S s, I k]) = some (PyData.tuple [.str s, .int k]) → RepOk (.tup [S s, I k]) := fun s hs k h1 h2 hp => by
    have a := List.all_eq_true.mp (List.all_eq_true.mp mv_texts k.toNat (List.mem_range.mpr (by omega))) s hs
    rw [show (k.toNat : Int) = k by omega] at a
    simp only [Bool.and_eq_true, decide_eq_true_eq, Bool.not_eq_true'] at a
    obtain ⟨⟨⟨a1, a2⟩, a3⟩, a4⟩ := a
    exact ⟨_, hp, a1, a2, a3, by omega, .inl rfl⟩
  have pS : ∀ s : Str, pd (S s) = some (.str s) := fun s => by unfold pd pdV; rfl
  cases m with
  | st k => exact go "street" (by simp) k h.1 h.2 (pd_tup (by unfold pdL; rw [pS]; unfold pdL; rw [pd_I]; unfold pdL; rfl))
  | br k => exact go "broad" (by simp) k h.1 h.2 (pd_tup (by unfold pdL; rw [pS]; unfold pdL; rw [pd_I]; unfold pdL; rfl))
  | inn =>
    have a := inn_text
    simp only [Bool.and_eq_true, decide_eq_true_eq, Bool.not_eq_true'] at a
    obtain ⟨⟨⟨a1, a2⟩, a3⟩, a4⟩ := a
    exact ⟨_, pd_tup (by unfold pdL; rw [pS]; unfold pdL; rfl), a1, a2, a3, by omega, .inl rfl⟩
theorem reprT_M (m : Mv) : reprT (eM m) = m.d.shown := by
  have pS : ∀ s : Str, pd (S s) = some (.str s) := fun s => by unfold pd pdV; rfl
  have e : pd (eM m) = some m.d := by
    cases m with
    | st k => exact pd_tup (by unfold pdL; rw [pS]; unfold pdL; rw [pd_I]; unfold pdL; rfl)
    | br k => exact pd_tup (by unfold pdL; rw [pS]; unfold pdL; rw [pd_I]; unfold pdL; rfl)
    | inn => exact pd_tup (by unfold pdL; rw [pS]; unfold pdL; rfl)
  unfold reprT; rw [e]
theorem nc_words : NoCm (.str "street") ∧ NoCm (.str "broad") ∧ NoCm (.str "inn") := by
  unfold NoCm
  decide +kernel
theorem mvwords_apart : (PyData.str "street").shown.cps.toList ≠ (PyData.str "broad").shown.cps.toList := by decide +kernel
theorem reprT_inj {a b : Mv} (h : reprT (eM a) = reprT (eM b)) : a = b := by
  rw [reprT_M, reprT_M] at h
  obtain ⟨n1, n2, n3⟩ := nc_words
  cases a with
  | st k =>
    cases b with
    | st j => rw [shown_int_inj (shown_tup2 n1 n1 h).2]
    | br j => exact absurd (shown_tup2 n1 n2 h).1 mvwords_apart
    | inn => exact absurd h (shown_21 n1 n3)
  | br k =>
    cases b with
    | st j => exact absurd (shown_tup2 n2 n1 h).1.symm mvwords_apart
    | br j => rw [shown_int_inj (shown_tup2 n2 n2 h).2]
    | inn => exact absurd h (shown_21 n2 n3)
  | inn =>
    cases b with
    | st j => exact absurd h.symm (shown_21 n1 n3)
    | br j => exact absurd h.symm (shown_21 n2 n3)
    | inn => rfl
/-! the law's own moves -/
theorem a_lead_ok {l : Lane} (h : 1 ≤ l.r) (d : Int) : a_lead l d = .rt (leadsL l d) := by
  unfold a_lead
  rw [bdV_eq, bdP_yes (by omega)]
  unfold leadsL
  by_cases e : (d - l.n) % (2 * l.r) < l.r
  · rw [decide_eq_true e, ifF_t, if_pos ((lead_mod (by omega)).mp e)]
  · rw [decide_eq_false e, ifF_f, if_neg (fun z => e ((lead_mod (by omega)).mpr z))]
def movS (t : Tw) (p d : Int) (ks : List Int) : List (Mv × Int) := (ks.filter fun k => decide ((leadsL (t.st.getD k.toNat L00) d).1 = p)).map fun k => (.st k, (leadsL (t.st.getD k.toNat L00) d).2)
def movB (p : Int) (wd : List (Int × Int)) : List (Mv × Int) := (wd.filter fun q => decide (p = q.1 ∨ p = q.2)).map fun q => (.br (q.1 + q.2 - p), q.1 + q.2 - p)
def movM (t : Tw) (p d : Int) : List (Mv × Int) := movS t p d (TL.rangeT 0 t.st.length) ++ movB p t.wd ++ (if p ∈ t.bd then [(.inn, p)] else [])
theorem movS_app (t : Tw) (p d : Int) (ks js : List Int) : movS t p d (ks ++ js) = movS t p d ks ++ movS t p d js := by unfold movS; rw [List.filter_append, List.map_append]
theorem movB_app (p : Int) (ks js : List (Int × Int)) : movB p (ks ++ js) = movB p ks ++ movB p js := by unfold movB; rw [List.filter_append, List.map_append]
theorem filter_one {α : Type} (p : α → Bool) (x : α) : [x].filter p = if p x = true then [x] else [] := by
  cases h : p x <;> simp [List.filter, h]
theorem movS_one (t : Tw) (p d k : Int) : movS t p d [k] = if (leadsL (t.st.getD k.toNat L00) d).1 = p then [(.st k, (leadsL (t.st.getD k.toNat L00) d).2)] else [] := by
  unfold movS
  rw [filter_one]
  by_cases e : (leadsL (t.st.getD k.toNat L00) d).1 = p
  · rw [if_pos e, if_pos (decide_eq_true e)]; rfl
  · rw [if_neg e, if_neg (by rw [decide_eq_false e]; decide)]; rfl
theorem movB_one (p : Int) (q : Int × Int) : movB p [q] = if p = q.1 ∨ p = q.2 then [(.br (q.1 + q.2 - p), q.1 + q.2 - p)] else [] := by
  unfold movB
  by_cases e : p = q.1 ∨ p = q.2
  · rw [if_pos e]; simp [List.filter, e]
  · rw [if_neg e]; simp [List.filter, e]
theorem movS_len (t : Tw) (p d : Int) (ks : List Int) : (movS t p d ks).length ≤ ks.length := by
  unfold movS
  rw [List.length_map]
  exact List.length_filter_le _ _
theorem movB_len (p : Int) (wd : List (Int × Int)) : (movB p wd).length ≤ wd.length := by
  unfold movB
  rw [List.length_map]
  exact List.length_filter_le _ _
theorem movM_len {t : Tw} (ok : PartsOk t) (p d : Int) : (movM t p d).length ≤ 41 := by
  have h1 := movS_len t p d (TL.rangeT 0 t.st.length)
  have h2 := movB_len p t.wd
  have h3 := ok.s12
  have h4 := pairs_len28 ok.wd ok.n8
  rw [length_rangeT] at h1
  unfold movM
  rw [List.length_append, List.length_append]
  have h5 : (if p ∈ t.bd then [((.inn : Mv), p)] else []).length ≤ 1 := by split <;> simp
  omega
theorem a_moves_ok {t : Tw} (ok : PartsOk t) (p d : Int) : a_moves t p d = .rt (movM t p d) := by
  have l12 := ok.s12
  have l28 := pairs_len28 ok.wd ok.n8
  unfold a_moves
  rw [bdV_eq, bdP_yes (rangeT_small l12), toNat_len]
  obtain ⟨s1, e1, h1⟩ := forL_inv (ρ := List (Mv × Int)) (body := a_moves_b2 t p d) (xs := TL.rangeT 0 t.st.length) (fun ys s => s = movS t p d ys) (s := []) rfl (fun ys k zs s e0 hs => by
    subst hs
    have hk : k ∈ TL.rangeT 0 t.st.length := by rw [e0]; simp
    have hm := mem_rangeT.mp hk
    have ol := ok.st _ (mem_num (d := L00) hk)
    have hl : ys.length ≤ 12 := by
      have := congrArg List.length e0
      rw [length_rangeT, List.length_append, List.length_cons] at this
      omega
    have hl2 := movS_len t p d ys
    refine ⟨movS t p d (ys ++ [k]), ?_, rfl⟩
    unfold a_moves_b2
    rw [atI_nat hm.1 (by omega), at_num (d := L00) hk, bdO_some, okO_some (a_lead_ok ol.r1 d), bdO_some, bdV_eq]
    rw [movS_app, movS_one]
    by_cases e : (leadsL (t.st.getD k.toNat L00) d).1 = p
    · rw [decide_eq_true e, ifF_t, bdP_yes (by omega), if_pos e]; rfl
    · rw [decide_eq_false e, ifF_f, if_neg e, List.append_nil]; rfl)
  rw [e1, bdL_nx]
  subst h1
  obtain ⟨s2, e2, h2⟩ := forL_inv (ρ := List (Mv × Int)) (body := a_moves_b4 p) (xs := t.wd) (fun ys s => s = movS t p d (TL.rangeT 0 t.st.length) ++ movB p ys) (s := movS t p d (TL.rangeT 0 t.st.length)) (by show _ = _ ++ []; rw [List.append_nil]) (fun ys q zs s e0 hs => by
    subst hs
    have hl : ys.length ≤ 28 := by
      have := congrArg List.length e0
      rw [List.length_append, List.length_cons] at this
      omega
    have hl2 := movB_len p ys
    have hl3 := movS_len t p d (TL.rangeT 0 t.st.length)
    rw [length_rangeT] at hl3
    refine ⟨_, ?_, rfl⟩
    unfold a_moves_b4
    have em : memB p [q.1, q.2] = decide (p = q.1 ∨ p = q.2) := by
      unfold memB
      simp only [List.mem_cons, List.not_mem_nil, or_false]
    rw [em]
    rw [movB_app, movB_one, ← List.append_assoc]
    by_cases e : p = q.1 ∨ p = q.2
    · rw [decide_eq_true e, ifF_t, bdP_yes (by rw [List.length_append]; omega), if_pos e]; rfl
    · rw [decide_eq_false e, ifF_f, if_neg e, List.append_nil]; rfl)
  rw [e2, bdL_nx]
  subst h2
  have hl2 := movB_len p t.wd
  have hl3 := movS_len t p d (TL.rangeT 0 t.st.length)
  rw [length_rangeT] at hl3
  unfold movM
  by_cases e : p ∈ t.bd
  · rw [memB_iff.mpr e, ifF_t, bdP_yes (by rw [List.length_append]; omega), if_pos e]; rfl
  · rw [Bool.eq_false_iff.mpr (fun z => e (memB_iff.mp z)), ifF_f, if_neg e, List.append_nil]; rfl
/-- a move and its end are among the law's moves exactly where the program's move ends there -/
theorem mem_movM {t : Tw} (ok : PartsOk t) {p d o : Int} {m : Mv} : (m, o) ∈ movM t p d ↔ endO t p d m = some o := by
  unfold movM movS movB
  rw [List.mem_append, List.mem_append, List.mem_map, List.mem_map]
  constructor
  · rintro ((⟨k, hk, e⟩ | ⟨q, hq, e⟩) | h)
    · obtain ⟨h1, h2⟩ := List.mem_filter.mp hk
      have h3 := of_decide_eq_true h2
      have hm := mem_rangeT.mp h1
      cases e
      rw [endO_st, if_pos ⟨hm.1, by omega⟩, if_pos h3]
    · obtain ⟨h1, h2⟩ := List.mem_filter.mp hq
      have h3 := of_decide_eq_true h2
      have hw := ok.wd.ok _ h1
      cases e
      have : (min p (q.1 + q.2 - p), max p (q.1 + q.2 - p)) = q := by
        obtain ⟨a, b⟩ := q
        simp only at h3 hw ⊢
        rw [Prod.mk.injEq]
        omega
      rw [endO_br, if_pos ⟨by omega, by omega, by rw [this]; exact h1⟩]
    · by_cases e : p ∈ t.bd
      · rw [if_pos e, List.mem_singleton] at h
        cases h
        rw [endO_inn, if_pos e]
      · rw [if_neg e] at h; cases h
  · intro h
    cases m with
    | inn =>
      rw [endO_inn] at h
      by_cases e : p ∈ t.bd
      · rw [if_pos e] at h; cases h
        rw [if_pos e]; exact .inr (by simp)
      · rw [if_neg e] at h; cases h
    | st k =>
      rw [endO_st] at h
      by_cases hk : 0 ≤ k ∧ k < t.st.length
      · rw [if_pos hk] at h
        by_cases e : (leadsL (t.st.getD k.toNat L00) d).1 = p
        · rw [if_pos e] at h; cases h
          exact .inl (.inl ⟨k, List.mem_filter.mpr ⟨mem_rangeT.mpr ⟨hk.1, by omega⟩, decide_eq_true e⟩, rfl⟩)
        · rw [if_neg e] at h; cases h
      · rw [if_neg hk] at h; cases h
    | br q =>
      rw [endO_br] at h
      by_cases e : 1 ≤ q ∧ q ≤ t.n ∧ (min p q, max p q) ∈ t.wd
      · rw [if_pos e] at h; cases h
        refine .inl (.inr ⟨(min p o, max p o), List.mem_filter.mpr ⟨e.2.2, decide_eq_true ?_⟩, ?_⟩)
        · show p = min p o ∨ p = max p o
          omega
        · have : min p o + max p o - p = o := by omega
          show (Mv.br (min p o + max p o - p), min p o + max p o - p) = _
          rw [this]
      · rw [if_neg e] at h; cases h
theorem movM_there {t : Tw} (ok : PartsOk t) {p d y : Int} : (∃ m, (m, y) ∈ movM t p d) ↔ y ∈ openL t p d := by
  constructor
  · rintro ⟨m, h⟩; exact endO_open ok ((mem_movM ok).mp h)
  · intro h
    obtain ⟨m, _, e⟩ := open_some ok h
    exact ⟨m, (mem_movM ok).mpr e⟩
theorem endO_made {t : Tw} (p d : Int) (m : Mv) : endO t.made p d m = endO t p d m := by
  cases m with
  | inn =>
    rw [endO_inn, endO_inn]
    have : p ∈ t.made.bd ↔ p ∈ t.bd := (sortI_perm t.bd).mem_iff
    by_cases e : p ∈ t.bd
    · rw [if_pos e, if_pos (this.mpr e)]
    · rw [if_neg e, if_neg (fun z => e (this.mp z))]
  | st k => rfl
  | br q =>
    rw [endO_br, endO_br]
    have : (min p q, max p q) ∈ t.made.wd ↔ (min p q, max p q) ∈ t.wd := (sortP_perm t.wd).mem_iff
    by_cases e : 1 ≤ q ∧ q ≤ t.n ∧ (min p q, max p q) ∈ t.wd
    · rw [if_pos e, if_pos ⟨e.1, e.2.1, this.mpr e.2.2⟩]
    · rw [if_neg e, if_neg (fun z => e ⟨z.1, z.2.1, this.mp z.2.2⟩)]
theorem end_small {t : Tw} (ok : PartsOk t) {p d o : Int} {m : Mv} (h : endO t p d m = some o) : m.Small := by
  have := ok.s12
  have := ok.n8
  cases m with
  | inn => trivial
  | st k =>
    rw [endO_st] at h
    by_cases hk : 0 ≤ k ∧ k < t.st.length
    · exact ⟨hk.1, by omega⟩
    · rw [if_neg hk] at h; cases h
  | br q =>
    rw [endO_br] at h
    by_cases e : 1 ≤ q ∧ q ≤ t.n ∧ (min p q, max p q) ∈ t.wd
    · exact ⟨by omega, by omega⟩
    · rw [if_neg e] at h; cases h
/-! the law's next places -/
theorem keys_putD {α : Type} {D : List (Int × α)} {k j : Int} {v : α} : j ∈ keysD (putD D k v) ↔ j ∈ keysD D ∨ j = k := by
  unfold putD
  by_cases h : hasD D k = true
  · rw [if_pos h]
    have e : keysD (D.map fun q => if q.1 = k then (q.1, v) else q) = keysD D := by
      unfold keysD
      rw [List.map_map]
      refine List.map_congr_left fun q _ => ?_
      show (if q.1 = k then (q.1, v) else q).1 = q.1
      split <;> rfl
    rw [e]
    constructor
    · exact .inl
    · rintro (h1 | rfl)
      · exact h1
      · exact keys_has.mp h
  · rw [if_neg h]
    unfold keysD
    rw [List.map_append, List.mem_append]
    simp
theorem nodup_putD {α : Type} {D : List (Int × α)} {k : Int} {v : α} (h : (keysD D).Nodup) : (keysD (putD D k v)).Nodup := by
  unfold putD
  by_cases e : hasD D k = true
  · rw [if_pos e]
    have e2 : keysD (D.map fun q => if q.1 = k then (q.1, v) else q) = keysD D := by
      unfold keysD
      rw [List.map_map]
      refine List.map_congr_left fun q _ => ?_
      show (if q.1 = k then (q.1, v) else q).1 = q.1
      split <;> rfl
    rw [e2]; exact h
  · rw [if_neg e]
    unfold keysD at h ⊢
    rw [List.map_append, List.nodup_append]
    refine ⟨h, by simp, fun a ha b hb => ?_⟩
    simp only [List.map_cons, List.map_nil, List.mem_singleton] at hb
    subst hb
    rintro rfl
    exact e (keys_has.mpr ha)
theorem keys8 {t : Tw} (ok : PartsOk t) {α : Type} {D : List (Int × α)} (nd : (keysD D).Nodup) (hv : ∀ y ∈ keysD D, 1 ≤ y ∧ y ≤ t.n) : D.length ≤ 8 := by
  have h8 := ok.n8
  have := nodup_len (m := TL.rangeT 1 8) nd fun y hy => mem_rangeT.mpr ⟨(hv y hy).1, by have := (hv y hy).2; omega⟩
  unfold keysD at this
  rw [List.length_map, length_rangeT] at this
  exact this
theorem a_next_ok {t : Tw} (ok : PartsOk t) (X : List Int) (d : Int) : a_next t X d = .rt (nextS t X d) := by
  unfold a_next
  rw [bdV_eq]
  obtain ⟨D, e, h1, h2⟩ := forL_inv (ρ := List Int) (body := a_next_b2 t d) (xs := X) (fun ys D => (keysD D).Nodup ∧ ∀ y, y ∈ keysD D ↔ ∃ x ∈ ys, y ∈ openL t x d) (s := ([] : List (Int × Bool)))
    ⟨.nil, fun y => ⟨fun h => (by cases h), fun ⟨x, hx, _⟩ => (by cases hx)⟩⟩ (fun ys x zs D e0 ⟨g1, g2⟩ => by
      unfold a_next_b2
      rw [okO_some (a_moves_ok ok x d), bdO_some]
      obtain ⟨D2, e2, k1, k2⟩ := forL_inv (ρ := List Int) (body := a_next_b1) (xs := movM t x d) (fun us D => (keysD D).Nodup ∧ ∀ y, y ∈ keysD D ↔ (∃ x ∈ ys, y ∈ openL t x d) ∨ ∃ m, (m, y) ∈ us) (s := D)
        ⟨g1, fun y => by rw [g2 y]; exact ⟨.inl, fun h => h.elim id fun ⟨m, hm⟩ => (by cases hm)⟩⟩ (fun us mo vs D e1 ⟨f1, f2⟩ => by
          have hmo : mo ∈ movM t x d := by rw [e1]; simp
          refine ⟨putD D mo.2 true, ?_, nodup_putD f1, fun y => ?_⟩
          · unfold a_next_b1
            rw [bdP_yes (by
              have := keys8 ok f1 fun y hy => by
                rcases (f2 y).mp hy with ⟨z, _, hz⟩ | ⟨m, hm⟩
                · exact open_range ok hz
                · exact open_range ok ((movM_there ok).mp ⟨m, by rw [e1]; exact List.mem_append_left _ hm⟩)
              omega)]; rfl
          · rw [keys_putD, f2 y, or_assoc]
            refine or_congr Iff.rfl ?_
            constructor
            · rintro (⟨m, hm⟩ | rfl)
              · exact ⟨m, List.mem_append_left _ hm⟩
              · exact ⟨mo.1, List.mem_append_right _ (by simp)⟩
            · rintro ⟨m, hm⟩
              rcases List.mem_append.mp hm with hm | hm
              · exact .inl ⟨m, hm⟩
              · rw [List.mem_singleton] at hm; subst hm; exact .inr rfl)
      rw [e2]
      refine ⟨D2, rfl, k1, fun y => ?_⟩
      rw [k2 y]
      constructor
      · rintro (⟨z, hz, hy⟩ | hm)
        · exact ⟨z, List.mem_append_left _ hz, hy⟩
        · exact ⟨x, List.mem_append_right _ (by simp), (movM_there ok).mp hm⟩
      · rintro ⟨z, hz, hy⟩
        rcases List.mem_append.mp hz with hz | hz
        · exact .inl ⟨z, hz, hy⟩
        · rw [List.mem_singleton] at hz; subst hz; exact .inr ((movM_there ok).mpr hy))
  rw [e, bdL_nx]
  have h8 : D.length ≤ 8 := keys8 ok h1 fun y hy => by
    obtain ⟨z, _, hz⟩ := (h2 y).mp hy
    exact open_range ok hz
  rw [bdP_yes (by omega)]
  congr 1
  unfold nextS
  refine sortU_eq ?_ fun y => by
    rw [List.mem_flatMap, (sortI_perm _).mem_iff, h2 y]
  have h3 : (sortI (keysD D)).Nodup := (sortI_perm _).nodup_iff.mpr h1
  exact (List.Pairwise.and (sortI_sorted (keysD D)) h3).imp fun {a b} h => by have := h.1; have := h.2; omega
end TL


/-! What the laws' own defs of family A say, the rest: wells as models, whole turns, fewest nights, ways gone. -/
namespace TL
open PySem PySem.Spec PyProof.Rows L2
theorem A_draw {w : W3} {s : Int} {b : Nat} (h : w.Ok b) (hs : 0 < s) (hb : b ≤ 900000 := by omega) (h2 : s < 1000000 := by omega) : okO (m_A_draw w s) = some (drV w s, drW w s) := by
  unfold m_A_draw
  rw [bdP_yes ⟨h.mono hb, hs, h2⟩]; rfl
theorem A_one {α : Type} {w : W3} {xs : List α} {b : Nat} (h : w.Ok b) (h0 : 0 < xs.length) (hb : b ≤ 900000 := by omega) (h2 : xs.length < 1000 := by omega) : ∃ v w', okO (m_A_one w xs) = some (v, w') ∧ v ∈ xs ∧ w'.Ok (b + 1) := by
  have g1 := drV_ge (w := w) (s := xs.length) (by omega)
  have g2 := drV_lt (w := w) (s := xs.length) (by omega)
  have hi : (drV w xs.length).toNat < xs.length := by omega
  refine ⟨xs[(drV w xs.length).toNat], drW w xs.length, ?_, List.getElem_mem hi, drW_ok h (by omega)⟩
  unfold m_A_one
  rw [bdP_yes ⟨h.mono hb, h0, h2⟩, List.getElem?_eq_getElem hi]; rfl
theorem A_parts {w : W3} {n most : Int} {rh : List Int} {b : Nat} (h : w.Ok b) (n1 : 1 ≤ n) (n8 : n ≤ 8) (m0 : 0 ≤ most) (m12 : most ≤ 12) (hr : RhOk rh) (hb : b ≤ 700000 := by omega) : ∃ q w', okO (m_A_parts w n most rh) = some (q, w') ∧ PartsOk q ∧ q.n = n ∧ w'.Ok (b + 100) := by
  have := partsF_ok n1 n8 m0 m12 hr h
  refine ⟨(partsF n most rh w).1, (partsF n most rh w).2, ?_, this.1, this.2.1, this.2.2⟩
  unfold m_A_parts
  rw [bdP_yes ⟨h.mono hb, n1, n8, m0, m12, hr⟩]; rfl
theorem A_made {q : Tw} (ok : PartsOk q) : okO (m_A_made q) = some q.made := by
  unfold m_A_made
  rw [bdP_yes ok]; rfl
theorem atI_head {α : Type} (x : α) (xs : List α) : atI (x :: xs) 0 = some x := by
  rw [atI_nat (by decide) (by rw [List.length_cons]; omega)]; rfl
/-! whole turns -/
theorem part_filter (st : List Lane) (d : Int) : decide (((st.filter fun l => !decide (d % l.r = 0)).map fun l => l) = []) = partB st d := by
  rw [List.map_id']
  unfold partB
  apply Bool.eq_iff_iff.mpr
  rw [decide_eq_true_eq, List.filter_eq_nil_iff, List.all_eq_true]
  exact ⟨fun h l hl => by have := h l hl; simpa using this, fun h l hl => by have := h l hl; simpa using this⟩
theorem a_whole_ok {t : Tw} (ok : StOk t.st) : a_whole t = .rt (lcmL t.st : Int) := by
  have l12 := ok.1
  unfold a_whole
  rw [bdP_yes (by rw [length_rangeT]; decide)]
  rw [lcO_some (p := fun d => partB t.st d) (f := fun d => d) (fun d hd => by
    rw [obP_yes (by omega), lcO_some (p := fun l : Lane => !decide (d % l.r = 0)) (f := fun l => l) (g := fun l : Lane => some l) (fun l hl => by rw [obP_yes (by have := ok.2 l hl; omega)]) (fun l _ _ => rfl), obd_some, part_filter]) (fun d _ _ => rfl), bdO_some, List.map_id']
  obtain ⟨ds, e⟩ := whole_first ok
  have e2 : (TL.rangeT 1 ((61 : Int) - 1).toNat).filter (fun d => partB t.st d) = (lcmL t.st : Int) :: ds := e
  rw [e2, atI_head]; rfl
/-! fewest nights -/
theorem fewest_loop {t : Tw} (ok : PartsOk t) (p d : Int) : ∀ (n k : Nat) (X : List Int), bdL (forL (a_fewest_b1 t p d) (TL.rangeT (k : Int) n) X) (fun _ => (.rt none : Rs (Option Int))) = .rt ((bfs t p n (d + (k : Int)) k X).map fun j : Nat => (j : Int))
  | 0, k, X => rfl
  | n + 1, k, X => by
    have e : a_fewest_b1 t p d X (k : Int) = ifF (memB p (nextS t X (d + (k : Int)))) (.rt (some ((k : Int) + 1))) (ifF (decide (nextS t X (d + (k : Int)) = [])) (.rt none) (.nx (nextS t X (d + (k : Int))))) := by
      unfold a_fewest_b1
      rw [okO_some (a_next_ok ok X _), bdO_some, bdV_eq]
    rw [rangeT_cons, forL_cons, e]
    unfold bfs
    by_cases hp : p ∈ nextS t X (d + (k : Int))
    · rw [memB_iff.mpr hp, ifF_t, if_pos hp]; rfl
    · rw [Bool.eq_false_iff.mpr (fun z => hp (memB_iff.mp z)), ifF_f, if_neg hp]
      by_cases he : nextS t X (d + (k : Int)) = []
      · rw [decide_eq_true he, ifF_t, if_pos he]; rfl
      · rw [decide_eq_false he, ifF_f, if_neg he]
        have := fewest_loop ok p d n (k + 1) (nextS t X (d + (k : Int)))
        rw [show (((k + 1 : Nat) : Int)) = (k : Int) + 1 by omega, show d + ((k : Int) + 1) = d + (k : Int) + 1 by omega] at this
        exact this
theorem a_fewest_ok {t : Tw} (ok : PartsOk t) (p d : Int) : a_fewest t p d = .rt ((bfs t p (t.n * (2 * (lcmL t.st : Int))).toNat d 0 [p]).map fun j : Nat => (j : Int)) := by
  have n1 := ok.n1
  have n8 := ok.n8
  have l60 := lcmL_le ok.stOk
  have hN : t.n * (2 * (lcmL t.st : Int)) ≤ 960 := by
    have : t.n * (2 * (lcmL t.st : Int)) ≤ 8 * 120 := Int.mul_le_mul n8 (by omega) (by omega) (by omega)
    omega
  have h0 : 0 ≤ t.n * (2 * (lcmL t.st : Int)) := Int.mul_nonneg (by omega) (by omega)
  have eN : t.n * 2 * (lcmL t.st : Int) = t.n * (2 * (lcmL t.st : Int)) := Int.mul_assoc _ _ _
  unfold a_fewest
  rw [bdV_eq, okO_some (a_whole_ok ok.stOk), bdO_some, bdP_yes (.inl ⟨by omega, by omega⟩), eN, bdP_yes ⟨by omega, by omega⟩]
  have := fewest_loop ok p d (t.n * (2 * (lcmL t.st : Int))).toNat 0 [p]
  rw [show d + ((0 : Nat) : Int) = d by omega] at this
  exact this
/-! ways gone by moves -/
theorem a_gone_ok {t : Tw} (ok : PartsOk t) {p d : Int} {path : List Int} {ms : List Mv} (h0 : path[0]? = some p) (hl : ms.length + 1 = path.length) (hn : ms.length ≤ 90000) (hm : ∀ (k : Nat) (a b : Int), path[k]? = some a → path[k + 1]? = some b → ∃ m, ms[k]? = some m ∧ endO t a (d + (k : Int)) m = some b) :
    a_gone t p d ms = .rt (some path) := by
  unfold a_gone
  rw [bdV_eq, bdP_yes (by omega), toNat_len]
  obtain ⟨s, e, hs⟩ := forL_inv (ρ := Option (List Int)) (body := a_gone_b1 t d ms) (xs := TL.rangeT 0 ms.length) (fun ys s => s = path.take (ys.length + 1)) (s := [p]) (by
    cases path with
    | nil => cases h0
    | cons a r => cases h0; rfl) (fun ys x zs s e0 hs => by
    subst hs
    have hyl : ys.length < ms.length := by
      have := congrArg List.length e0
      rw [length_rangeT, List.length_append, List.length_cons] at this
      omega
    have hx : x = (ys.length : Int) := by
      have : (TL.rangeT 0 ms.length)[ys.length]? = some x := by rw [e0, List.getElem?_append_right (Nat.le_refl _), Nat.sub_self]; rfl
      have := (rangeT_get this).2
      omega
    subst hx
    have ea : path[ys.length]? = some path[ys.length] := List.getElem?_eq_getElem (by omega)
    have eb : path[ys.length + 1]? = some path[ys.length + 1] := List.getElem?_eq_getElem (by omega)
    obtain ⟨m, em, hend⟩ := hm _ _ _ ea eb
    have etk : path.take (ys.length + 1) = path.take ys.length ++ [path[ys.length]] := by rw [List.take_add_one, ea]; rfl
    refine ⟨path.take (ys.length + 1) ++ [path[ys.length + 1]], ?_, by rw [List.length_append, List.length_singleton, List.take_add_one (i := ys.length + 1), eb]; rfl⟩
    unfold a_gone_b1
    rw [show atI (path.take (ys.length + 1)) (-1) = some path[ys.length] by rw [etk]; exact atI_last, bdO_some, okO_some (a_moves_ok ok _ _), bdO_some, bdP_yes (by have := movM_len ok path[ys.length] (d + (ys.length : Int)); omega)]
    rw [lcO_some (p := fun q : Mv × Int => decide (q.1 = m)) (f := fun q => q.2) (fun q hq => by
      have hq2 := (mem_movM ok (m := q.1) (o := q.2)).mp hq
      rw [obP_yes (repOk_M (end_small ok hq2)), atI_nat (by omega) (by omega), show ((ys.length : Int)).toNat = ys.length by omega, em, obd_some, obP_yes (repOk_M (end_small ok hend))]
      congr 1
      by_cases e : q.1 = m
      · rw [decide_eq_true e, e, decide_eq_true rfl]
      · rw [decide_eq_false e, decide_eq_false (fun z => e (reprT_inj z))]) (fun q _ _ => rfl), bdO_some, bdV_eq]
    have hmem : (m, path[ys.length + 1]) ∈ (movM t path[ys.length] (d + (ys.length : Int))).filter fun q => decide (q.1 = m) := List.mem_filter.mpr ⟨(mem_movM ok).mpr hend, decide_eq_true rfl⟩
    obtain ⟨q0, qs, eq0⟩ : ∃ q0 qs, (movM t path[ys.length] (d + (ys.length : Int))).filter (fun q => decide (q.1 = m)) = q0 :: qs := by
      cases hq : (movM t path[ys.length] (d + (ys.length : Int))).filter (fun q => decide (q.1 = m)) with
      | nil => rw [hq] at hmem; cases hmem
      | cons a r => exact ⟨a, r, rfl⟩
    rw [eq0]
    have hq0 : q0.2 = path[ys.length + 1] := by
      have h1 : q0 ∈ (movM t path[ys.length] (d + (ys.length : Int))).filter fun q => decide (q.1 = m) := by rw [eq0]; exact List.mem_cons_self
      obtain ⟨h2, h3⟩ := List.mem_filter.mp h1
      have h4 := of_decide_eq_true h3
      have h5 := (mem_movM ok (m := q0.1) (o := q0.2)).mp h2
      rw [h4, hend] at h5
      exact (Option.some.inj h5).symm
    rw [List.map_cons, decide_eq_false (fun z => by cases z), ifF_f]
    rw [atI_head, bdO_some, bdP_yes (by rw [List.length_take]; omega), hq0]; rfl)
  rw [e, bdL_nx, hs, length_rangeT, hl, List.take_length]
theorem a_cell_ok {ns : List Int} {k : Int} (h : 0 ≤ k) : ∃ c, a_cell_at ns k = .rt c := by
  unfold a_cell_at
  by_cases e : k < (ns.length : Int)
  · rw [decide_eq_true e, ifF_t, atI_nat h e, List.getElem?_eq_getElem (by omega)]
    exact ⟨_, rfl⟩
  · rw [decide_eq_false e, ifF_f]; exact ⟨_, rfl⟩
end TL


/-! Models of the program's defs (printed by gmt.py PMG). -/
namespace TL
open PySem PySem.Spec PyProof.Rows L2
noncomputable section
def p_turns_on (town1 : Tw) (number2 : T) (day3 : Int) : Rs Bool :=
  bdF (p_street_of town1 number2) fun (r4 : Lane) =>
  bdV (r4.r, r4.n) fun (q5 : (Int × Int)) =>
  bdP (0 < q5.1) <|
  .rt (decide (((day3 - q5.2) % q5.1) = 0))
def p_never_both (town1 : Tw) (one2 : Int) (other3 : Int) : Rs Bool :=
  bdO (atI town1.st one2) fun x4 =>
  bdO (atI town1.st other3) fun x5 =>
  bdV x4 fun (here6 : Lane) =>
  bdV x5 fun (there7 : Lane) =>
  bdO (okO (p_common_part here6.r there7.r)) fun r8 =>
  bdP (0 < r8) <|
  .rt (!decide (((here6.n - there7.n) % r8) = 0))
def p_torn_pair_b1 (town1 : Tw) (y4 : Int) (s5 : Unit) (y6 : Int) : Fl (Unit) (Option (Int × Int)) :=
  bdO (okO (p_never_both town1 y4 y6)) fun r7 =>
  ifF r7 (
    .rt (some (y4, y6))) (
    .nx ())
def p_torn_pair_b2 (town1 : Tw) (s3 : Unit) (y4 : Int) : Fl (Unit) (Option (Int × Int)) :=
  bdL (forL (p_torn_pair_b1 town1 y4) (TL.rangeT (y4 + 1) (((town1.st.length : Int) : Int) - (y4 + 1)).toNat) ()) fun (s8 : Unit) =>
  .nx ()
def p_torn_pair (town1 : Tw) : Rs (Option (Int × Int)) :=
  bdP (-(2 ^ 62) ≤ (town1.st.length : Int) ∧ (town1.st.length : Int) < 2 ^ 62) <|
  bdL (forL (p_torn_pair_b2 town1) (TL.rangeT 0 (town1.st.length : Int).toNat) ()) fun (s9 : Unit) =>
  .rt none
def p_is_home (town1 : Tw) (day2 : Int) : Rs Bool :=
  bdP (-(2 ^ 62) ≤ (town1.st.length : Int) ∧ (town1.st.length : Int) < 2 ^ 62) <|
  bdP ((TL.rangeT 0 (town1.st.length : Int).toNat).length ≤ 100000) <|
  bdO (mapO (fun number4 => (obd (okO (p_turns_on town1 (I number4) day2)) fun r6 => (some r6))) (TL.rangeT 0 (town1.st.length : Int).toNat)) fun l8 =>
  .rt (l8.all id)
def p_home (town1 : Tw) : Rs (Str × Int × Int) :=
  bdO (okO (p_torn_pair town1)) fun r2 =>
  bdV r2 fun (pair3 : (Option (Int × Int))) =>
  ifF (!pair3.isNone) (
    bdO pair3 fun o4 =>
    bdO pair3 fun o5 =>
    .rt (("never" : Str), o4.1, o5.2)) (
    bdO (okO (p_least_common town1)) fun r6 =>
    bdV r6 fun (whole7 : Int) =>
    bdP (-(2 ^ 62) ≤ whole7 ∧ whole7 < 2 ^ 62) <|
    bdP ((TL.rangeT 0 whole7.toNat).length ≤ 100000) <|
    bdO (lcO (fun day9 => (obd (okO (p_is_home town1 day9)) fun r11 => (some r11))) (fun day9 => (some day9)) (TL.rangeT 0 whole7.toNat)) fun l13 =>
    bdO (atI l13 0) fun x14 =>
    .rt (("nights" : Str), x14, whole7))
def p_first_and_apart (town1 : Tw) : Rs (Int × Int) :=
  bdO (okO (p_home town1)) fun r2 =>
  bdV r2 fun (told3 : (Str × Int × Int)) =>
  ifF (decide (told3.1 = ("never" : Str))) (
    .er ⟨"NoHome", [(("pair" : Str), (e2 I I) (told3.2.1, told3.2.2)), (("why" : Str), S "no home")]⟩) (
    .rt (told3.2.1, told3.2.2))
def p_next_home (town1 : Tw) (day2 : Int) : Rs Int :=
  bdF (p_first_and_apart town1) fun (r3 : (Int × Int)) =>
  bdV r3 fun (q4 : (Int × Int)) =>
  bdP (0 < q4.2) <|
  .rt (day2 + ((q4.1 - day2) % q4.2))
def p_last_home (town1 : Tw) (day2 : Int) : Rs Int :=
  bdF (p_first_and_apart town1) fun (r3 : (Int × Int)) =>
  bdV r3 fun (q4 : (Int × Int)) =>
  bdP (0 < q4.2) <|
  .rt (day2 - ((day2 - q4.1) % q4.2))
def a_is_home (parts_here1 : (List Lane)) (day2 : Int) : Rs Bool :=
  bdP (parts_here1.length ≤ 100000) <|
  bdO (lcO (fun one_here3 => (obP (0 < one_here3.r) (some (!decide (((day2 - one_here3.n) % one_here3.r) = 0))))) (fun one_here3 => (some one_here3)) parts_here1) fun l7 =>
  .rt (decide (l7 = []))
def a_torn_b1 (parts_here1 : Tw) (y4 : Int) (s5 : Unit) (y6 : Int) : Fl (Unit) (Option (Int × Int)) :=
  bdO (atI parts_here1.st y4) fun x7 =>
  bdO (atI parts_here1.st y6) fun x8 =>
  bdV (parts_here1.n, [x7, x8]) fun (two9 : (Int × (List Lane))) =>
  bdO (lcO (fun day10 => (obd (okO (a_is_home two9.2 day10)) fun r12 => (some r12))) (fun day10 => (some day10)) (TL.rangeT 0 (60 : Int).toNat)) fun l13 =>
  ifF (decide (l13 = [])) (
    .rt (some (y4, y6))) (
    .nx ())
def a_torn_b2 (parts_here1 : Tw) (s3 : Unit) (y4 : Int) : Fl (Unit) (Option (Int × Int)) :=
  bdL (forL (a_torn_b1 parts_here1 y4) (TL.rangeT (y4 + 1) (((parts_here1.st.length : Int) : Int) - (y4 + 1)).toNat) ()) fun (s14 : Unit) =>
  .nx ()
def a_torn (parts_here1 : Tw) : Rs (Option (Int × Int)) :=
  bdP (-(2 ^ 62) ≤ (parts_here1.st.length : Int) ∧ (parts_here1.st.length : Int) < 2 ^ 62) <|
  bdL (forL (a_torn_b2 parts_here1) (TL.rangeT 0 (parts_here1.st.length : Int).toNat) ()) fun (s15 : Unit) =>
  .rt none
end
end TL


/-! What the models of home, of the next and the last home day say. -/
namespace TL
open PySem PySem.Spec PyProof.Rows L2
theorem forL_hit {α ρ : Type} {body : Unit → α → Fl Unit ρ} {xs ys zs : List α} {y : α} {v : ρ} (e : xs = ys ++ y :: zs) (h : ∀ x ∈ ys, body () x = .nx ()) (h2 : body () y = .rt v) : forL body xs () = .rt v := by
  subst e
  induction ys with
  | nil => rw [List.nil_append, forL_cons, h2]
  | cons x ys ih =>
    rw [List.cons_append, forL_cons, h x List.mem_cons_self]
    exact ih fun z hz => h z (List.mem_cons_of_mem _ hz)
theorem rangeT_app (lo : Int) : ∀ (k m : Nat), TL.rangeT lo (k + m) = TL.rangeT lo k ++ TL.rangeT (lo + k) m
  | 0, m => by rw [Nat.zero_add, show lo + ((0 : Nat) : Int) = lo by omega]; rfl
  | k + 1, m => by
    rw [show k + 1 + m = (k + m) + 1 by omega, rangeT_cons, rangeT_app (lo + 1) k m, rangeT_cons lo k, List.cons_append, show lo + 1 + (k : Int) = lo + ((k + 1 : Nat) : Int) by omega]
theorem rangeT_split {lo : Int} {n k : Nat} (h : k < n) : TL.rangeT lo n = TL.rangeT lo k ++ (lo + k) :: TL.rangeT (lo + k + 1) (n - k - 1) := by
  rw [show n = k + ((n - k - 1) + 1) by omega, rangeT_app, rangeT_cons, show k + (n - k - 1 + 1) - k - 1 = n - k - 1 by omega]
/-- the first pair of numbers, one after the other -/
theorem pair_loop {b : Nat → Nat → Bool} {n : Nat} {body1 : Int → Unit → Int → Fl Unit (Option (Int × Int))} {body2 : Unit → Int → Fl Unit (Option (Int × Int))}
    (h2 : ∀ i : Nat, i < n → body2 () (i : Int) = bdL (forL (body1 (i : Int)) (TL.rangeT ((i : Int) + 1) ((n : Int) - ((i : Int) + 1)).toNat) ()) fun _ => .nx ())
    (h1 : ∀ i j : Nat, i < j → j < n → body1 (i : Int) () (j : Int) = ifF (b i j) (.rt (some ((i : Int), (j : Int)))) (.nx ())) {o : Option (Nat × Nat)} (ho : FirstO b n o) :
    bdL (forL body2 (TL.rangeT 0 n) ()) (fun _ => (.rt none : Rs (Option (Int × Int)))) = .rt (o.map fun q => ((q.1 : Int), (q.2 : Int))) := by
  have thru : ∀ i : Nat, i < n → (∀ j, i < j → j < n → b i j = false) → body2 () (i : Int) = .nx () := fun i hi hf => by
    rw [h2 i hi, forL_unit fun x hx => ?_]
    · rfl
    · have hm := mem_rangeT.mp hx
      obtain ⟨j, rfl⟩ : ∃ j : Nat, x = j := ⟨x.toNat, by omega⟩
      rw [h1 i j (by omega) (by omega), hf j (by omega) (by omega)]; rfl
  match o, ho with
  | none, ho =>
    rw [forL_unit fun x hx => ?_]
    · rfl
    · have hm := mem_rangeT.mp hx
      obtain ⟨i, rfl⟩ : ∃ i : Nat, x = i := ⟨x.toNat, by omega⟩
      exact thru i (by omega) fun j h3 h4 => ho i j h3 h4
  | some (i, j), ⟨a1, a2, a3, a4, a5⟩ =>
    have hit : body2 () (0 + (i : Int)) = .rt (some ((i : Int), (j : Int))) := by
      rw [show 0 + (i : Int) = i by omega, h2 i (by omega)]
      have e : TL.rangeT ((i : Int) + 1) ((n : Int) - ((i : Int) + 1)).toNat = _ := rangeT_split (k := j - i - 1) (by omega)
      have g1 : ∀ x ∈ TL.rangeT ((i : Int) + 1) (j - i - 1), body1 (i : Int) () x = .nx () := fun x hx => by
        have hm := mem_rangeT.mp hx
        obtain ⟨k, rfl⟩ : ∃ k : Nat, x = k := ⟨x.toNat, by omega⟩
        rw [h1 i k (by omega) (by omega), a4 k (by omega) (by omega)]; rfl
      have g2 : body1 (i : Int) () ((i : Int) + 1 + ((j - i - 1 : Nat) : Int)) = .rt (some ((i : Int), (j : Int))) := by
        rw [show (i : Int) + 1 + ((j - i - 1 : Nat) : Int) = (j : Int) by omega, h1 i j a1 a2, a3]; rfl
      rw [forL_hit e g1 g2]; rfl
    have g3 : ∀ x ∈ TL.rangeT 0 i, body2 () x = .nx () := fun x hx => by
      have hm := mem_rangeT.mp hx
      obtain ⟨k, rfl⟩ : ∃ k : Nat, x = k := ⟨x.toNat, by omega⟩
      exact thru k (by omega) fun m h3 h4 => a5 k m (by omega) h3 h4
    rw [forL_hit (rangeT_split (lo := 0) (k := i) (n := n) (by omega)) g3 hit]; rfl
theorem p_turns_ok {t : Tw} {k d : Int} {l : Lane} (h0 : 0 ≤ k) (h : t.st[k.toNat]? = some l) (r1 : 1 ≤ l.r) : p_turns_on t (I k) d = .rt (turnsB l d) := by
  unfold p_turns_on
  rw [p_street_ok h0 h, bdF_rt, bdV_eq]
  show bdP (0 < l.r) _ = _
  rw [bdP_yes (by omega)]; rfl
theorem p_never_ok {t : Tw} (ok : StOk t.st) {i j : Nat} {h l : Lane} (hi : t.st[i]? = some h) (hj : t.st[j]? = some l) : p_never_both t (i : Int) (j : Int) = .rt (nvB h l) := by
  have li := (List.getElem?_eq_some_iff.mp hi).1
  have lj := (List.getElem?_eq_some_iff.mp hj).1
  obtain ⟨a1, a2⟩ := ok.2 h (List.mem_of_getElem? hi)
  obtain ⟨b1, b2⟩ := ok.2 l (List.mem_of_getElem? hj)
  unfold p_never_both
  rw [atI_nat (by omega) (by omega), show ((i : Int)).toNat = i by omega, hi, bdO_some, atI_nat (by omega) (by omega), show ((j : Int)).toNat = j by omega, hj, bdO_some, bdV_eq, bdV_eq]
  have e1 : ((h.r.toNat : Nat) : Int) = h.r := by omega
  have e2 : ((l.r.toNat : Nat) : Int) = l.r := by omega
  have hg := p_common_ok (a := h.r.toNat) (b := l.r.toNat) (by omega)
  rw [e1, e2] at hg
  have g0 : 0 < Nat.gcd h.r.toNat l.r.toNat := Nat.gcd_pos_of_pos_left _ (by omega)
  rw [okO_some hg, bdO_some, bdP_yes (by omega)]; rfl
/-- a pair of numbers, as whole numbers -/
def prI (o : Option (Nat × Nat)) : Option (Int × Int) := o.map fun q => ((q.1 : Int), (q.2 : Int))
theorem p_torn_ok {t : Tw} (ok : StOk t.st) : p_torn_pair t = .rt (prI (tornF t.st)) := by
  unfold p_torn_pair
  rw [bdP_yes (rangeT_small ok.1), toNat_len]
  refine pair_loop (b := tornB t.st) (body1 := p_torn_pair_b1 t) (fun i hi => rfl) (fun i j hij hj => ?_) (tornF_ok t.st)
  unfold p_torn_pair_b1
  rw [okO_some (p_never_ok ok (List.getElem?_eq_getElem (by omega)) (List.getElem?_eq_getElem hj)), bdO_some]
  have e : nvB t.st[i] t.st[j] = tornB t.st i j := by
    unfold tornB
    rw [List.getD_eq_getElem?_getD, List.getD_eq_getElem?_getD, List.getElem?_eq_getElem (by omega : i < t.st.length), List.getElem?_eq_getElem hj]; rfl
  rw [e]
theorem p_ishome_ok {t : Tw} (ok : StOk t.st) (d : Int) : p_is_home t d = .rt (homeB t.st d) := by
  have l12 := ok.1
  unfold p_is_home
  rw [bdP_yes (rangeT_small ok.1), bdP_yes (by rw [length_rangeT]; omega), toNat_len]
  rw [mapO_some (f := fun k => turnsB (t.st.getD k.toNat L00) d) fun k hk => ?_, bdO_some]
  · rw [range_at t.st L00 (fun l => turnsB l d), List.all_map]; rfl
  · have hm := mem_rangeT.mp hk
    have ol := ok.2 _ (mem_num (d := L00) hk)
    rw [okO_some (p_turns_ok hm.1 (at_num (d := L00) hk) ol.1)]; rfl
theorem p_home_ok {t : Tw} (ok : StOk t.st) : p_home t = .rt (homeP t.st) := by
  have l60 := lcmL_le ok
  unfold p_home
  rw [okO_some (p_torn_ok ok), bdO_some, bdV_eq]
  cases e : tornF t.st with
  | some q => obtain ⟨i, j⟩ := q; rw [homeP_some e]; rfl
  | none =>
    rw [homeP_none e]
    show bdO (okO (p_least_common t)) _ = _
    rw [okO_some (p_least_ok ok), bdO_some, bdV_eq, bdP_yes ⟨by omega, by omega⟩, bdP_yes (by rw [length_rangeT]; omega)]
    rw [lcO_some (p := homeB t.st) (f := fun d => d) (fun d _ => by rw [okO_some (p_ishome_ok ok d)]; rfl) (fun d _ _ => rfl), bdO_some, List.map_id', show ((lcmL t.st : Nat) : Int).toNat = lcmL t.st by omega]
    have hF := tornF_ok t.st
    rw [e] at hF
    obtain ⟨d, ds, hd⟩ := homes_some ok hF
    have e1 : firstD t.st = d := by unfold firstD; rw [hd]; rfl
    have e2 : (TL.rangeT 0 (lcmL t.st)).filter (homeB t.st) = d :: ds := hd
    rw [e2, atI_head, e1]; rfl
def xHome (i j : Int) : Exc := ⟨"NoHome", [(("pair" : Str), (e2 I I) (i, j)), (("why" : Str), S "no home")]⟩
theorem p_first_ok {t : Tw} (ok : StOk t.st) (h : tornF t.st = none) : p_first_and_apart t = .rt (firstD t.st, (lcmL t.st : Int)) := by
  unfold p_first_and_apart
  rw [okO_some (p_home_ok ok), bdO_some, homeP_none h, bdV_eq]; rfl
theorem p_first_no {t : Tw} (ok : StOk t.st) {i j : Nat} (h : tornF t.st = some (i, j)) : p_first_and_apart t = .er (xHome i j) := by
  unfold p_first_and_apart
  rw [okO_some (p_home_ok ok), bdO_some, homeP_some h, bdV_eq]; rfl
theorem p_next_ok {t : Tw} (ok : StOk t.st) (h : tornF t.st = none) (d : Int) : p_next_home t d = .rt (nextD t.st d) := by
  have l0 := lcmL_pos ok
  unfold p_next_home
  rw [p_first_ok ok h, bdF_rt, bdV_eq, bdP_yes (by show 0 < (lcmL t.st : Int); omega)]; rfl
theorem p_next_no {t : Tw} (ok : StOk t.st) {i j : Nat} (h : tornF t.st = some (i, j)) (d : Int) : p_next_home t d = .er (xHome i j) := by
  unfold p_next_home
  rw [p_first_no ok h]; rfl
theorem p_last_ok {t : Tw} (ok : StOk t.st) (h : tornF t.st = none) (d : Int) : p_last_home t d = .rt (lastD t.st d) := by
  have l0 := lcmL_pos ok
  unfold p_last_home
  rw [p_first_ok ok h, bdF_rt, bdV_eq, bdP_yes (by show 0 < (lcmL t.st : Int); omega)]; rfl
theorem p_last_no {t : Tw} (ok : StOk t.st) {i j : Nat} (h : tornF t.st = some (i, j)) (d : Int) : p_last_home t d = .er (xHome i j) := by
  unfold p_last_home
  rw [p_first_no ok h]; rfl
/-! the laws' own -/
theorem a_ishome_ok {ls : List Lane} (ok : StOk ls) (d : Int) : a_is_home ls d = .rt (homeB ls d) := by
  have l12 := ok.1
  unfold a_is_home
  rw [bdP_yes (by omega), lcO_some (p := fun l : Lane => !decide ((d - l.n) % l.r = 0)) (f := fun l => l) (g := fun l : Lane => some l) (fun l hl => by rw [obP_yes (by have := ok.2 l hl; omega)]) (fun l _ _ => rfl), bdO_some]
  congr 1
  rw [List.map_id']
  unfold homeB turnsB
  apply Bool.eq_iff_iff.mpr
  rw [decide_eq_true_eq, List.filter_eq_nil_iff, List.all_eq_true]
  exact ⟨fun h l hl => by have := h l hl; simpa using this, fun h l hl => by have := h l hl; simpa using this⟩
theorem a_torn_ok {t : Tw} (ok : StOk t.st) : a_torn t = .rt (prI (tornF t.st)) := by
  unfold a_torn
  rw [bdP_yes (rangeT_small ok.1), toNat_len]
  refine pair_loop (b := tornB t.st) (body1 := a_torn_b1 t) (fun i hi => rfl) (fun i j hij hj => ?_) (tornF_ok t.st)
  have hi : i < t.st.length := by omega
  unfold a_torn_b1
  rw [atI_nat (by omega) (by omega), show ((i : Int)).toNat = i by omega, List.getElem?_eq_getElem hi, bdO_some, atI_nat (by omega) (by omega), show ((j : Int)).toNat = j by omega, List.getElem?_eq_getElem hj, bdO_some, bdV_eq]
  have ok2 : StOk [t.st[i], t.st[j]] := ⟨by simp, fun l hl => by
    simp only [List.mem_cons, List.not_mem_nil, or_false] at hl
    rcases hl with rfl | rfl
    · exact ok.2 _ (List.getElem_mem hi)
    · exact ok.2 _ (List.getElem_mem hj)⟩
  rw [lcO_some (p := homeB [t.st[i], t.st[j]]) (f := fun d => d) (fun d _ => by rw [okO_some (a_ishome_ok ok2 d)]; rfl) (fun d _ _ => rfl), bdO_some, List.map_id']
  have e : decide ((TL.rangeT 0 (60 : Int).toNat).filter (homeB [t.st[i], t.st[j]]) = []) = tornB t.st i j := by
    rw [torn_b2 ok i j hij hj]
    unfold b2 bothB
    rw [List.getD_eq_getElem?_getD, List.getD_eq_getElem?_getD, List.getElem?_eq_getElem hi, List.getElem?_eq_getElem hj]
    show decide ((TL.rangeT 0 60).filter (homeB [t.st[i], t.st[j]]) = []) = ((TL.rangeT 0 60).filter (homeB [t.st[i], t.st[j]])).isEmpty
    cases (TL.rangeT 0 60).filter (homeB [t.st[i], t.st[j]]) with
    | nil => rfl
    | cons a l => rfl
  rw [e]
/-- home days lie whole turns apart -/
theorem home_apart {st : List Lane} (ok : StOk st) {x y : Int} (hx : homeB st x = true) (hy : homeB st y = true) : (lcmL st : Int) ∣ x - y := by
  have h : lcmL st ∣ (x - y).natAbs := lcmL_least fun l hl => by
    unfold homeB at hx hy
    rw [List.all_eq_true] at hx hy
    have h1 := Int.dvd_of_emod_eq_zero (of_decide_eq_true (hx l hl))
    have h2 := Int.dvd_of_emod_eq_zero (of_decide_eq_true (hy l hl))
    have h3 := Int.dvd_sub h1 h2
    rw [show x - l.n - (y - l.n) = x - y by omega] at h3
    have r1 := (ok.2 l hl).1
    rw [← Int.natAbs_dvd_natAbs] at h3
    rw [show l.r.toNat = l.r.natAbs by omega]
    exact h3
  exact Int.ofNat_dvd_left.mpr h
end TL


/-! Texts of what the laws ask the text of; errors that are caught; days told. -/
namespace TL
open PySem PySem.Spec PyProof.Rows L2
theorem shown_len {i : Int} {k : Nat} (hk : 0 < k) (h : i.natAbs < 10 ^ k) : (PyData.int i).shown.length ≤ k + 1 := by
  have e1 : (PyData.int i).shown.length = (toString i).toList.length := by
    show (PyData.int i).shown.cps.size = _
    rw [← Array.length_toList, PyData.shown_int, signs_ofString, List.length_map]
  rw [e1, Int.toString_eq_repr, Int.repr_eq_if]
  split
  · have h2 : i.toNat < 10 ^ k := by omega
    rw [Nat.toList_repr]
    exact Nat.le_succ_of_le ((Nat.length_toDigits_le_iff (by decide) hk).mpr h2)
  · rw [String.toList_append, List.length_append, Nat.toList_repr]
    have h2 : (-i).toNat < 10 ^ k := by omega
    have := (Nat.length_toDigits_le_iff (b := 10) (by decide) hk).mpr h2
    have e : ("-" : String).toList.length = 1 := rfl
    omega
theorem repI {i : Int} (h : i.natAbs < 10 ^ 80) : RepOk (I i) := by
  have a := shown_len (by decide) h
  have big : 100 ≤ sizeLine := by rw [sizeLine_eq]; decide
  have hl : i.natAbs.log2 < 1920 := by
    by_cases e : i.natAbs = 0
    · rw [e]; decide
    · exact (Nat.log2_lt e).mpr (Nat.lt_of_lt_of_le h (by decide))
  exact ⟨.int i, pd_I i, by simp [PyData.showable]; exact hl, by simp [PyData.hasDict], by simp [PyData.depth], by omega, .inr (.inr (.inr (.inl ⟨i, rfl, hl⟩)))⟩
theorem repB (b : Bool) : RepOk (B b) := by
  have big : 100 ≤ sizeLine := by rw [sizeLine_eq]; decide
  refine ⟨.bool b, by unfold pd pdV; rfl, by simp [PyData.showable], by simp [PyData.hasDict], by simp [PyData.depth], ?_, .inr (.inr (.inr (.inr ⟨b, rfl⟩)))⟩
  cases b with
  | true => exact Nat.le_trans (show (PyData.bool true).shown.length ≤ 100 by decide +kernel) big
  | false => exact Nat.le_trans (show (PyData.bool false).shown.length ≤ 100 by decide +kernel) big
theorem repN : RepOk N0 := by
  have big : 100 ≤ sizeLine := by rw [sizeLine_eq]; decide
  exact ⟨.none, by unfold pd pdV; rfl, rfl, rfl, by decide, Nat.le_trans (show (PyData.none).shown.length ≤ 100 by decide +kernel) big, .inr (.inl rfl)⟩
theorem repS {x : Str} (h : ((PyData.str x).showable && !(PyData.str x).hasDict && decide ((PyData.str x).depth ≤ 60) && decide ((PyData.str x).shown.length ≤ 100)) = true := by decide +kernel) : RepOk (S x) := by
  have big : 100 ≤ sizeLine := by rw [sizeLine_eq]; decide
  simp only [Bool.and_eq_true, decide_eq_true_eq, Bool.not_eq_true'] at h
  obtain ⟨⟨⟨a1, a2⟩, a3⟩, a4⟩ := h
  exact ⟨.str x, by unfold pd pdV; rfl, a1, a2, a3, by omega, .inr (.inr (.inl ⟨_, rfl⟩))⟩
theorem pair_texts : ((List.range 13).all fun (i : Nat) => (List.range 13).all fun (j : Nat) => (PyData.tuple [.int (i : Int), .int (j : Int)]).showable && !(PyData.tuple [.int (i : Int), .int (j : Int)]).hasDict && decide ((PyData.tuple [.int (i : Int), .int (j : Int)]).depth ≤ 60) && decide ((PyData.tuple [.int (i : Int), .int (j : Int)]).shown.length ≤ 100)) = true := by decide +kernel
theorem repP {i j : Nat} (hi : i < 13) (hj : j < 13) : RepOk ((e2 I I) ((i : Int), (j : Int))) := by
  have big : 100 ≤ sizeLine := by rw [sizeLine_eq]; decide
  have a := List.all_eq_true.mp (List.all_eq_true.mp pair_texts i (List.mem_range.mpr hi)) j (List.mem_range.mpr hj)
  simp only [Bool.and_eq_true, decide_eq_true_eq, Bool.not_eq_true'] at a
  obtain ⟨⟨⟨a1, a2⟩, a3⟩, a4⟩ := a
  exact ⟨_, pd_tup (by unfold pdL; rw [pd_I]; unfold pdL; rw [pd_I]; unfold pdL; rfl), a1, a2, a3, by omega, .inl rfl⟩
theorem tryF_some {σ ρ : Type} {q : Exc} {c : Exc → Option (Fl σ ρ)} {o : Fl σ ρ} (h : c q = some o) : tryF (.er q) c = o := by
  show (match c q with | some o => o | none => .er q) = o
  rw [h]
theorem catchL_one {σ ρ : Type} {owns : List Str} {d : Str} {m : Exc → Fl σ ρ} {r : List (Str × (Exc → Fl σ ρ))} {q : Exc} (h1 : q.cls ∈ owns) (h2 : subX q.cls d = true) : catchL owns ((d, m) :: r) q = some (m q) := by
  unfold catchL catch1
  rw [if_pos h1, if_pos h2]
theorem tryF_rt {σ ρ : Type} {v : ρ} {c : Exc → Option (Fl σ ρ)} : tryF (.rt v) c = .rt v := rfl
theorem tryF_nx {σ ρ : Type} {v : σ} {c : Exc → Option (Fl σ ρ)} : tryF (.nx v) c = .nx v := rfl
theorem ifR_t {α : Type} {a b : Rs α} : ifR true a b = a := rfl
theorem ifR_f {α : Type} {a b : Rs α} : ifR false a b = b := rfl
/-! the next home day, the last one: the first that one meets -/
theorem nextD_first {st : List Lane} (ok : StOk st) (h : tornF st = none) (d : Int) : d ≤ nextD st d ∧ nextD st d < d + lcmL st ∧ homeB st (nextD st d) = true ∧ ∀ x, d ≤ x → x < nextD st d → homeB st x = false := by
  have l0 := lcmL_pos ok
  have h1 := Int.emod_nonneg (firstD st - d) (show (lcmL st : Int) ≠ 0 by omega)
  have h2 := Int.emod_lt_of_pos (firstD st - d) (show 0 < (lcmL st : Int) by omega)
  have hn := next_ok ok h d
  have e : nextD st d = d + (firstD st - d) % (lcmL st : Int) := rfl
  refine ⟨by omega, by omega, hn, fun x h3 h4 => ?_⟩
  cases hx : homeB st x with
  | false => rfl
  | true =>
    obtain ⟨c, hc⟩ := home_apart ok hn hx
    exfalso
    have : 0 < (lcmL st : Int) * c := by omega
    have c1 : 0 < c := by
      rcases Int.lt_or_le 0 c with z | z
      · exact z
      · have := Int.mul_nonpos_of_nonneg_of_nonpos (show 0 ≤ (lcmL st : Int) by omega) z
        omega
    have : (lcmL st : Int) * 1 ≤ (lcmL st : Int) * c := Int.mul_le_mul_of_nonneg_left (by omega) (by omega)
    omega
theorem lastD_first {st : List Lane} (ok : StOk st) (h : tornF st = none) (d : Int) : lastD st d ≤ d ∧ d - lcmL st < lastD st d ∧ homeB st (lastD st d) = true ∧ ∀ x, lastD st d < x → x ≤ d → homeB st x = false := by
  have l0 := lcmL_pos ok
  have h1 := Int.emod_nonneg (d - firstD st) (show (lcmL st : Int) ≠ 0 by omega)
  have h2 := Int.emod_lt_of_pos (d - firstD st) (show 0 < (lcmL st : Int) by omega)
  have hn := last_ok ok h d
  have e : lastD st d = d - (d - firstD st) % (lcmL st : Int) := rfl
  refine ⟨by omega, by omega, hn, fun x h3 h4 => ?_⟩
  cases hx : homeB st x with
  | false => rfl
  | true =>
    obtain ⟨c, hc⟩ := home_apart ok hx hn
    exfalso
    have : 0 < (lcmL st : Int) * c := by omega
    have c1 : 0 < c := by
      rcases Int.lt_or_le 0 c with z | z
      · exact z
      · have := Int.mul_nonpos_of_nonneg_of_nonpos (show 0 ≤ (lcmL st : Int) by omega) z
        omega
    have : (lcmL st : Int) * 1 ≤ (lcmL st : Int) * c := Int.mul_le_mul_of_nonneg_left (by omega) (by omega)
    omega
/-- a pair that is torn: its numbers -/
theorem torn_lt {st : List Lane} (ok : StOk st) {i j : Nat} (h : tornF st = some (i, j)) : i < j ∧ j < st.length := by
  have := tornF_ok st
  rw [h] at this
  exact ⟨this.1, this.2.1⟩
end TL

namespace Law
open PySem PySem.Spec PyProof.Rows L2 TL
def topS (i : Nat) : Stmt := PySem.Challenge.pw_nightturn_k12_home_days_near_and_far.main.body.getD i (.Pass ⟨0, 0, 0, 0⟩)
def inC (i j : Nat) : Stmt := match topS i with
  | .ClassDef (body := b) .. => b.getD j (.Pass ⟨0, 0, 0, 0⟩)
  | _ => .Pass ⟨0, 0, 0, 0⟩
abbrev s_is_any : Stmt := topS 18
theorem sc_is_any : FnScope ["thing"] ["thing"] (defScope s_is_any) := ⟨rfl, rfl, rfl, by decide +kernel, rfl, by decide +kernel, by decide +kernel⟩
theorem b0_is_any : Bd0 "is_any" s_is_any ["thing"] := fun _ _ _ _ _ _ us h => match us, h with | [_], _ => rfl
abbrev s_is_whole : Stmt := topS 19
theorem sc_is_whole : FnScope ["thing", "least", "most"] ["thing", "least", "most"] (defScope s_is_whole) := ⟨rfl, rfl, rfl, by decide +kernel, rfl, by decide +kernel, by decide +kernel⟩
theorem bk_is_whole : BdK "is_whole" s_is_whole ["thing", "least", "most"] 1 ["least", "most"] := fun _ _ _ _ _ _ us ws h1 h2 => match us, ws, h1, h2 with | [_], [_, _], _, _ => rfl
abbrev s_is_street : Stmt := topS 20
theorem sc_is_street : FnScope ["thing", "places", "here", "there", "rhythm", "night"] ["thing", "places"] (defScope s_is_street) := ⟨rfl, rfl, rfl, by decide +kernel, rfl, by decide +kernel, by decide +kernel⟩
theorem b0_is_street : Bd0 "is_street" s_is_street ["thing", "places"] := fun _ _ _ _ _ _ us h => match us, h with | [_, _], _ => rfl
abbrev s_is_pair : Stmt := topS 21
theorem sc_is_pair : FnScope ["thing", "places", "one"] ["thing", "places"] (defScope s_is_pair) := ⟨rfl, rfl, rfl, by decide +kernel, rfl, by decide +kernel, by decide +kernel⟩
theorem b0_is_pair : Bd0 "is_pair" s_is_pair ["thing", "places"] := fun _ _ _ _ _ _ us h => match us, h with | [_, _], _ => rfl
abbrev s_check_streets : Stmt := topS 22
theorem sc_check_streets : FnScope ["streets", "places", "at", "street"] ["streets", "places"] (defScope s_check_streets) := ⟨rfl, rfl, rfl, by decide +kernel, rfl, by decide +kernel, by decide +kernel⟩
theorem b0_check_streets : Bd0 "check_streets" s_check_streets ["streets", "places"] := fun _ _ _ _ _ _ us h => match us, h with | [_, _], _ => rfl
abbrev s_check_broad : Stmt := topS 23
theorem sc_check_broad : FnScope ["broad", "places", "at", "pair"] ["broad", "places"] (defScope s_check_broad) := ⟨rfl, rfl, rfl, by decide +kernel, rfl, by decide +kernel, by decide +kernel⟩
theorem b0_check_broad : Bd0 "check_broad" s_check_broad ["broad", "places"] := fun _ _ _ _ _ _ us h => match us, h with | [_, _], _ => rfl
abbrev s_check_inns : Stmt := topS 24
theorem sc_check_inns : FnScope ["inns", "places", "at", "place"] ["inns", "places"] (defScope s_check_inns) := ⟨rfl, rfl, rfl, by decide +kernel, rfl, by decide +kernel, by decide +kernel⟩
theorem b0_check_inns : Bd0 "check_inns" s_check_inns ["inns", "places"] := fun _ _ _ _ _ _ us h => match us, h with | [_, _], _ => rfl
abbrev s_street_of : Stmt := topS 26
theorem sc_street_of : FnScope ["town", "number"] ["town", "number"] (defScope s_street_of) := ⟨rfl, rfl, rfl, by decide +kernel, rfl, by decide +kernel, by decide +kernel⟩
theorem b0_street_of : Bd0 "street_of" s_street_of ["town", "number"] := fun _ _ _ _ _ _ us h => match us, h with | [_, _], _ => rfl
abbrev s_turns_on : Stmt := topS 27
theorem sc_turns_on : FnScope ["town", "number", "day", "rhythm", "night"] ["town", "number", "day"] (defScope s_turns_on) := ⟨rfl, rfl, rfl, by decide +kernel, rfl, by decide +kernel, by decide +kernel⟩
theorem b0_turns_on : Bd0 "turns_on" s_turns_on ["town", "number", "day"] := fun _ _ _ _ _ _ us h => match us, h with | [_, _, _], _ => rfl
abbrev s_common_part : Stmt := topS 29
theorem sc_common_part : FnScope ["one", "other"] ["one", "other"] (defScope s_common_part) := ⟨rfl, rfl, rfl, by decide +kernel, rfl, by decide +kernel, by decide +kernel⟩
theorem b0_common_part : Bd0 "common_part" s_common_part ["one", "other"] := fun _ _ _ _ _ _ us h => match us, h with | [_, _], _ => rfl
abbrev s_least_common : Stmt := topS 30
theorem sc_least_common : FnScope ["town", "found", "street"] ["town"] (defScope s_least_common) := ⟨rfl, rfl, rfl, by decide +kernel, rfl, by decide +kernel, by decide +kernel⟩
theorem b0_least_common : Bd0 "least_common" s_least_common ["town"] := fun _ _ _ _ _ _ us h => match us, h with | [_], _ => rfl
abbrev s_turn_of : Stmt := topS 31
theorem sc_turn_of : FnScope ["town"] ["town"] (defScope s_turn_of) := ⟨rfl, rfl, rfl, by decide +kernel, rfl, by decide +kernel, by decide +kernel⟩
theorem b0_turn_of : Bd0 "turn_of" s_turn_of ["town"] := fun _ _ _ _ _ _ us h => match us, h with | [_], _ => rfl
abbrev s_never_both : Stmt := topS 32
theorem sc_never_both : FnScope ["town", "one", "other", "here", "there"] ["town", "one", "other"] (defScope s_never_both) := ⟨rfl, rfl, rfl, by decide +kernel, rfl, by decide +kernel, by decide +kernel⟩
theorem b0_never_both : Bd0 "never_both" s_never_both ["town", "one", "other"] := fun _ _ _ _ _ _ us h => match us, h with | [_, _, _], _ => rfl
abbrev s_torn_pair : Stmt := topS 33
theorem sc_torn_pair : FnScope ["town", "one", "other"] ["town"] (defScope s_torn_pair) := ⟨rfl, rfl, rfl, by decide +kernel, rfl, by decide +kernel, by decide +kernel⟩
theorem b0_torn_pair : Bd0 "torn_pair" s_torn_pair ["town"] := fun _ _ _ _ _ _ us h => match us, h with | [_], _ => rfl
abbrev s_is_home : Stmt := topS 34
theorem sc_is_home : FnScope ["town", "day", "number"] ["town", "day"] (defScope s_is_home) := ⟨rfl, rfl, rfl, by decide +kernel, rfl, by decide +kernel, by decide +kernel⟩
theorem b0_is_home : Bd0 "is_home" s_is_home ["town", "day"] := fun _ _ _ _ _ _ us h => match us, h with | [_, _], _ => rfl
abbrev s_home : Stmt := topS 35
theorem sc_home : FnScope ["town", "pair", "whole", "day"] ["town"] (defScope s_home) := ⟨rfl, rfl, rfl, by decide +kernel, rfl, by decide +kernel, by decide +kernel⟩
theorem b0_home : Bd0 "home" s_home ["town"] := fun _ _ _ _ _ _ us h => match us, h with | [_], _ => rfl
abbrev s_first_and_apart : Stmt := topS 36
theorem sc_first_and_apart : FnScope ["town", "told"] ["town"] (defScope s_first_and_apart) := ⟨rfl, rfl, rfl, by decide +kernel, rfl, by decide +kernel, by decide +kernel⟩
theorem b0_first_and_apart : Bd0 "first_and_apart" s_first_and_apart ["town"] := fun _ _ _ _ _ _ us h => match us, h with | [_], _ => rfl
abbrev s_next_home : Stmt := topS 37
theorem sc_next_home : FnScope ["town", "day", "first", "apart"] ["town", "day"] (defScope s_next_home) := ⟨rfl, rfl, rfl, by decide +kernel, rfl, by decide +kernel, by decide +kernel⟩
theorem b0_next_home : Bd0 "next_home" s_next_home ["town", "day"] := fun _ _ _ _ _ _ us h => match us, h with | [_, _], _ => rfl
abbrev s_last_home : Stmt := topS 38
theorem sc_last_home : FnScope ["town", "day", "first", "apart"] ["town", "day"] (defScope s_last_home) := ⟨rfl, rfl, rfl, by decide +kernel, rfl, by decide +kernel, by decide +kernel⟩
theorem b0_last_home : Bd0 "last_home" s_last_home ["town", "day"] := fun _ _ _ _ _ _ us h => match us, h with | [_, _], _ => rfl
abbrev s__law_cell_at : Stmt := topS 40
theorem sc__law_cell_at : FnScope ["_law_script", "_law_k"] ["_law_script", "_law_k"] (defScope s__law_cell_at) := ⟨rfl, rfl, rfl, by decide +kernel, rfl, by decide +kernel, by decide +kernel⟩
theorem b0__law_cell_at : Bd0 "_law_cell_at" s__law_cell_at ["_law_script", "_law_k"] := fun _ _ _ _ _ _ us h => match us, h with | [_, _], _ => rfl
abbrev s__law_well : Stmt := topS 41
theorem sc__law_well : FnScope ["_law_cell"] ["_law_cell"] (defScope s__law_well) := ⟨rfl, rfl, rfl, by decide +kernel, rfl, by decide +kernel, by decide +kernel⟩
theorem b0__law_well : Bd0 "_law_well" s__law_well ["_law_cell"] := fun _ _ _ _ _ _ us h => match us, h with | [_], _ => rfl
abbrev s__law_draw : Stmt := topS 42
theorem sc__law_draw : FnScope ["_law_well_here", "_law_size", "_law_found", "_law_salt", "_law_number"] ["_law_well_here", "_law_size"] (defScope s__law_draw) := ⟨rfl, rfl, rfl, by decide +kernel, rfl, by decide +kernel, by decide +kernel⟩
theorem b0__law_draw : Bd0 "_law_draw" s__law_draw ["_law_well_here", "_law_size"] := fun _ _ _ _ _ _ us h => match us, h with | [_, _], _ => rfl
abbrev s__law_one : Stmt := topS 43
theorem sc__law_one : FnScope ["_law_well_here", "_law_some"] ["_law_well_here", "_law_some"] (defScope s__law_one) := ⟨rfl, rfl, rfl, by decide +kernel, rfl, by decide +kernel, by decide +kernel⟩
theorem b0__law_one : Bd0 "_law_one" s__law_one ["_law_well_here", "_law_some"] := fun _ _ _ _ _ _ us h => match us, h with | [_, _], _ => rfl
abbrev s__law_streets : Stmt := topS 44
theorem sc__law_streets : FnScope ["_law_well_here", "_law_n", "_law_most", "_law_rhythms", "_law_at_once", "_law_found", "_law_base", "_law_k", "_law_here", "_law_there", "_law_rhythm", "_law_far", "_law_night"] ["_law_well_here", "_law_n", "_law_most", "_law_rhythms", "_law_at_once"] (defScope s__law_streets) := ⟨rfl, rfl, rfl, by decide +kernel, rfl, by decide +kernel, by decide +kernel⟩
theorem b0__law_streets : Bd0 "_law_streets" s__law_streets ["_law_well_here", "_law_n", "_law_most", "_law_rhythms", "_law_at_once"] := fun _ _ _ _ _ _ us h => match us, h with | [_, _, _, _, _], _ => rfl
abbrev s__law_parts : Stmt := topS 45
theorem sc__law_parts : FnScope ["_law_well_here", "_law_n", "_law_most", "_law_rhythms", "_law_streets_here", "_law_pairs", "_law_q", "_law_p", "_law_often", "_law_wide", "_law_pair", "_law_beds", "_law_place"] ["_law_well_here", "_law_n", "_law_most", "_law_rhythms"] (defScope s__law_parts) := ⟨rfl, rfl, rfl, by decide +kernel, rfl, by decide +kernel, by decide +kernel⟩
theorem b0__law_parts : Bd0 "_law_parts" s__law_parts ["_law_well_here", "_law_n", "_law_most", "_law_rhythms"] := fun _ _ _ _ _ _ us h => match us, h with | [_, _, _, _], _ => rfl
abbrev s__law_made : Stmt := topS 46
theorem sc__law_made : FnScope ["_law_parts_here"] ["_law_parts_here"] (defScope s__law_made) := ⟨rfl, rfl, rfl, by decide +kernel, rfl, by decide +kernel, by decide +kernel⟩
theorem b0__law_made : Bd0 "_law_made" s__law_made ["_law_parts_here"] := fun _ _ _ _ _ _ us h => match us, h with | [_], _ => rfl
abbrev s__law_whole : Stmt := topS 47
theorem sc__law_whole : FnScope ["_law_parts_here", "_law_d", "_law_one_here"] ["_law_parts_here"] (defScope s__law_whole) := ⟨rfl, rfl, rfl, by decide +kernel, rfl, by decide +kernel, by decide +kernel⟩
theorem b0__law_whole : Bd0 "_law_whole" s__law_whole ["_law_parts_here"] := fun _ _ _ _ _ _ us h => match us, h with | [_], _ => rfl
abbrev s__law_is_home : Stmt := topS 48
theorem sc__law_is_home : FnScope ["_law_parts_here", "_law_day", "_law_one_here"] ["_law_parts_here", "_law_day"] (defScope s__law_is_home) := ⟨rfl, rfl, rfl, by decide +kernel, rfl, by decide +kernel, by decide +kernel⟩
theorem b0__law_is_home : Bd0 "_law_is_home" s__law_is_home ["_law_parts_here", "_law_day"] := fun _ _ _ _ _ _ us h => match us, h with | [_, _], _ => rfl
abbrev s__law_torn : Stmt := topS 49
theorem sc__law_torn : FnScope ["_law_parts_here", "_law_i", "_law_j", "_law_two", "_law_day"] ["_law_parts_here"] (defScope s__law_torn) := ⟨rfl, rfl, rfl, by decide +kernel, rfl, by decide +kernel, by decide +kernel⟩
theorem b0__law_torn : Bd0 "_law_torn" s__law_torn ["_law_parts_here"] := fun _ _ _ _ _ _ us h => match us, h with | [_], _ => rfl
abbrev s__law_is_alone : Stmt := topS 50
theorem sc__law_is_alone : FnScope ["_law_e", "_law_kinds"] ["_law_e"] (defScope s__law_is_alone) := ⟨rfl, rfl, rfl, by decide +kernel, rfl, by decide +kernel, by decide +kernel⟩
theorem b0__law_is_alone : Bd0 "_law_is_alone" s__law_is_alone ["_law_e"] := fun _ _ _ _ _ _ us h => match us, h with | [_], _ => rfl
abbrev s__law_told : Stmt := topS 51
theorem sc__law_told : FnScope ["_law_way", "_law_town", "_law_day", "_law_e"] ["_law_way", "_law_town", "_law_day"] (defScope s__law_told) := ⟨rfl, rfl, rfl, by decide +kernel, rfl, by decide +kernel, by decide +kernel⟩
theorem b0__law_told : Bd0 "_law_told" s__law_told ["_law_way", "_law_town", "_law_day"] := fun _ _ _ _ _ _ us h => match us, h with | [_, _, _], _ => rfl
abbrev s__law_due : Stmt := topS 52
theorem sc__law_due : FnScope ["_law_way", "_law_parts_here", "_law_day", "_law_pair", "_law_k", "_law_here"] ["_law_way", "_law_parts_here", "_law_day"] (defScope s__law_due) := ⟨rfl, rfl, rfl, by decide +kernel, rfl, by decide +kernel, by decide +kernel⟩
theorem b0__law_due : Bd0 "_law_due" s__law_due ["_law_way", "_law_parts_here", "_law_day"] := fun _ _ _ _ _ _ us h => match us, h with | [_, _, _], _ => rfl
abbrev s_law : Stmt := topS 53
theorem sc_law : FnScope ["_law_script", "_law_cell", "_law_well_here", "_law_n", "_law_parts_here", "_law_town", "_law_k", "_law_near", "_law_day", "_law_way"] ["_law_script"] (defScope s_law) := ⟨rfl, rfl, rfl, by decide +kernel, rfl, by decide +kernel, by decide +kernel⟩
theorem b0_law : Bd0 "law" s_law ["_law_script"] := fun _ _ _ _ _ _ us h => match us, h with | [_], _ => rfl
abbrev s_Town___init__ : Stmt := inC 25 0
theorem sc_Town___init__ : FnScope ["self", "places", "streets", "broad", "inns", "wide", "beds"] ["self", "places", "streets", "broad", "inns"] (defScope s_Town___init__) := ⟨rfl, rfl, rfl, by decide +kernel, rfl, by decide +kernel, by decide +kernel⟩
theorem bk_Town___init__ : BmK "__init__" "Town.__init__" s_Town___init__ ["self", "places", "streets", "broad", "inns"] 3 ["broad", "inns"] := fun _ _ _ _ _ _ us ws h1 h2 => match us, ws, h1, h2 with | [_, _, _], [_, _], _, _ => rfl
abbrev s_Town_count : Stmt := inC 25 1
theorem sc_Town_count : FnScope ["self"] ["self"] (defScope s_Town_count) := ⟨rfl, rfl, rfl, by decide +kernel, rfl, by decide +kernel, by decide +kernel⟩
theorem b0_Town_count : Bm0 "count" "Town.count" s_Town_count ["self"] := fun _ _ _ _ _ _ us h => match us, h with | [_], _ => rfl
abbrev s_Town_streets : Stmt := inC 25 2
theorem sc_Town_streets : FnScope ["self"] ["self"] (defScope s_Town_streets) := ⟨rfl, rfl, rfl, by decide +kernel, rfl, by decide +kernel, by decide +kernel⟩
theorem b0_Town_streets : Bm0 "streets" "Town.streets" s_Town_streets ["self"] := fun _ _ _ _ _ _ us h => match us, h with | [_], _ => rfl
abbrev s_Town_broad : Stmt := inC 25 3
theorem sc_Town_broad : FnScope ["self"] ["self"] (defScope s_Town_broad) := ⟨rfl, rfl, rfl, by decide +kernel, rfl, by decide +kernel, by decide +kernel⟩
theorem b0_Town_broad : Bm0 "broad" "Town.broad" s_Town_broad ["self"] := fun _ _ _ _ _ _ us h => match us, h with | [_], _ => rfl
abbrev s_Town_inns : Stmt := inC 25 4
theorem sc_Town_inns : FnScope ["self"] ["self"] (defScope s_Town_inns) := ⟨rfl, rfl, rfl, by decide +kernel, rfl, by decide +kernel, by decide +kernel⟩
theorem b0_Town_inns : Bm0 "inns" "Town.inns" s_Town_inns ["self"] := fun _ _ _ _ _ _ us h => match us, h with | [_], _ => rfl
abbrev s_Town___eq__ : Stmt := inC 25 5
theorem sc_Town___eq__ : FnScope ["self", "other"] ["self", "other"] (defScope s_Town___eq__) := ⟨rfl, rfl, rfl, by decide +kernel, rfl, by decide +kernel, by decide +kernel⟩
theorem b0_Town___eq__ : Bm0 "__eq__" "Town.__eq__" s_Town___eq__ ["self", "other"] := fun _ _ _ _ _ _ us h => match us, h with | [_, _], _ => rfl
abbrev s_Town___repr__ : Stmt := inC 25 6
theorem sc_Town___repr__ : FnScope ["self"] ["self"] (defScope s_Town___repr__) := ⟨rfl, rfl, rfl, by decide +kernel, rfl, by decide +kernel, by decide +kernel⟩
theorem b0_Town___repr__ : Bm0 "__repr__" "Town.__repr__" s_Town___repr__ ["self"] := fun _ _ _ _ _ _ us h => match us, h with | [_], _ => rfl
abbrev s_TownError___init__ : Stmt := inC 1 0
theorem sc_TownError___init__ : FnScope ["self", "why"] ["self", "why"] (defScope s_TownError___init__) := ⟨rfl, rfl, rfl, by decide +kernel, rfl, by decide +kernel, by decide +kernel⟩
abbrev s_BadTown___init__ : Stmt := inC 2 0
theorem sc_BadTown___init__ : FnScope ["self", "why", "at"] ["self", "why", "at"] (defScope s_BadTown___init__) := ⟨rfl, rfl, rfl, by decide +kernel, rfl, by decide +kernel, by decide +kernel⟩
abbrev s_NoPlace___init__ : Stmt := inC 3 0
theorem sc_NoPlace___init__ : FnScope ["self", "place"] ["self", "place"] (defScope s_NoPlace___init__) := ⟨rfl, rfl, rfl, by decide +kernel, rfl, by decide +kernel, by decide +kernel⟩
abbrev s_NoStreet___init__ : Stmt := inC 4 0
theorem sc_NoStreet___init__ : FnScope ["self", "number"] ["self", "number"] (defScope s_NoStreet___init__) := ⟨rfl, rfl, rfl, by decide +kernel, rfl, by decide +kernel, by decide +kernel⟩
abbrev s_BadWalk___init__ : Stmt := inC 5 0
theorem sc_BadWalk___init__ : FnScope ["self", "at"] ["self", "at"] (defScope s_BadWalk___init__) := ⟨rfl, rfl, rfl, by decide +kernel, rfl, by decide +kernel, by decide +kernel⟩
abbrev s_NoHome___init__ : Stmt := inC 6 0
theorem sc_NoHome___init__ : FnScope ["self", "pair"] ["self", "pair"] (defScope s_NoHome___init__) := ⟨rfl, rfl, rfl, by decide +kernel, rfl, by decide +kernel, by decide +kernel⟩
abbrev s_NotHome___init__ : Stmt := inC 7 0
theorem sc_NotHome___init__ : FnScope ["self", "day"] ["self", "day"] (defScope s_NotHome___init__) := ⟨rfl, rfl, rfl, by decide +kernel, rfl, by decide +kernel, by decide +kernel⟩
abbrev s_Stuck___init__ : Stmt := inC 8 0
theorem sc_Stuck___init__ : FnScope ["self", "place", "day"] ["self", "place", "day"] (defScope s_Stuck___init__) := ⟨rfl, rfl, rfl, by decide +kernel, rfl, by decide +kernel, by decide +kernel⟩
abbrev s_NotNightly___init__ : Stmt := inC 9 0
theorem sc_NotNightly___init__ : FnScope ["self", "number"] ["self", "number"] (defScope s_NotNightly___init__) := ⟨rfl, rfl, rfl, by decide +kernel, rfl, by decide +kernel, by decide +kernel⟩
abbrev s_NoDay___init__ : Stmt := inC 11 0
theorem sc_NoDay___init__ : FnScope ["self", "day"] ["self", "day"] (defScope s_NoDay___init__) := ⟨rfl, rfl, rfl, by decide +kernel, rfl, by decide +kernel, by decide +kernel⟩
abbrev s_BadStarts___init__ : Stmt := inC 12 0
theorem sc_BadStarts___init__ : FnScope ["self", "at"] ["self", "at"] (defScope s_BadStarts___init__) := ⟨rfl, rfl, rfl, by decide +kernel, rfl, by decide +kernel, by decide +kernel⟩
abbrev s_TooGreat___init__ : Stmt := inC 13 0
theorem sc_TooGreat___init__ : FnScope ["self", "most"] ["self", "most"] (defScope s_TooGreat___init__) := ⟨rfl, rfl, rfl, by decide +kernel, rfl, by decide +kernel, by decide +kernel⟩
/-- what the head tells of the text -/
structure Txt (K : PySem.W.Frag) (mg : Str → Option Value) : Prop where
  t_is_any : Fd K mg "is_any" s_is_any []
  t_is_whole : Fd K mg "is_whole" s_is_whole []
  t_is_street : Fd K mg "is_street" s_is_street []
  t_is_pair : Fd K mg "is_pair" s_is_pair []
  t_check_streets : Fd K mg "check_streets" s_check_streets []
  t_check_broad : Fd K mg "check_broad" s_check_broad []
  t_check_inns : Fd K mg "check_inns" s_check_inns []
  t_street_of : Fd K mg "street_of" s_street_of []
  t_turns_on : Fd K mg "turns_on" s_turns_on []
  t_common_part : Fd K mg "common_part" s_common_part []
  t_least_common : Fd K mg "least_common" s_least_common []
  t_turn_of : Fd K mg "turn_of" s_turn_of []
  t_never_both : Fd K mg "never_both" s_never_both []
  t_torn_pair : Fd K mg "torn_pair" s_torn_pair []
  t_is_home : Fd K mg "is_home" s_is_home []
  t_home : Fd K mg "home" s_home []
  t_first_and_apart : Fd K mg "first_and_apart" s_first_and_apart []
  t_next_home : Fd K mg "next_home" s_next_home []
  t_last_home : Fd K mg "last_home" s_last_home []
  t__law_cell_at : Fd K mg "_law_cell_at" s__law_cell_at []
  t__law_well : Fd K mg "_law_well" s__law_well []
  t__law_draw : Fd K mg "_law_draw" s__law_draw []
  t__law_one : Fd K mg "_law_one" s__law_one []
  t__law_streets : Fd K mg "_law_streets" s__law_streets []
  t__law_parts : Fd K mg "_law_parts" s__law_parts []
  t__law_made : Fd K mg "_law_made" s__law_made []
  t__law_whole : Fd K mg "_law_whole" s__law_whole []
  t__law_is_home : Fd K mg "_law_is_home" s__law_is_home []
  t__law_torn : Fd K mg "_law_torn" s__law_torn []
  t__law_is_alone : Fd K mg "_law_is_alone" s__law_is_alone []
  t__law_told : Fd K mg "_law_told" s__law_told []
  t__law_due : Fd K mg "_law_due" s__law_due []
  t_law : Fd K mg "law" s_law []
  t_Town___init__ : Mi K mg "Town" "Town.__init__" s_Town___init__ [("broad", V.non), ("inns", V.non)]
  t_Town_count : Md K mg "Town" "count" "Town.count" s_Town_count []
  t_Town_streets : Md K mg "Town" "streets" "Town.streets" s_Town_streets []
  t_Town_broad : Md K mg "Town" "broad" "Town.broad" s_Town_broad []
  t_Town_inns : Md K mg "Town" "inns" "Town.inns" s_Town_inns []
  t_Town___eq__ : Md K mg "Town" "__eq__" "Town.__eq__" s_Town___eq__ []
  t_Town___repr__ : Md K mg "Town" "__repr__" "Town.__repr__" s_Town___repr__ []
  mg_Town : mg "Town" = some (.ref (He.ga K "Town"))
  cl_Town : Cls K (He.ga K "Town")
  na_Town_many : NoAttr K (He.ga K "Town") "many"
  na_Town_lanes : NoAttr K (He.ga K "Town") "lanes"
  na_Town_wides : NoAttr K (He.ga K "Town") "wides"
  na_Town_beds : NoAttr K (He.ga K "Town") "beds"
  mg_TownError : mg "TownError" = some (.ref (He.ga K "TownError"))
  x_TownError : ∃ fd, FunD K "__init__" "TownError.__init__" (defArgs s_TownError___init__) (defBody s_TownError___init__) (defScope s_TownError___init__) [(V.str "refused")] [] (He.ma K (He.ga K "TownError") "__init__") fd
  mg_BadTown : mg "BadTown" = some (.ref (He.ga K "BadTown"))
  x_BadTown : ∃ fd, FunD K "__init__" "BadTown.__init__" (defArgs s_BadTown___init__) (defBody s_BadTown___init__) (defScope s_BadTown___init__) [V.non] [] (He.ma K (He.ga K "BadTown") "__init__") fd
  mg_NoPlace : mg "NoPlace" = some (.ref (He.ga K "NoPlace"))
  x_NoPlace : ∃ fd, FunD K "__init__" "NoPlace.__init__" (defArgs s_NoPlace___init__) (defBody s_NoPlace___init__) (defScope s_NoPlace___init__) [] [] (He.ma K (He.ga K "NoPlace") "__init__") fd
  mg_NoStreet : mg "NoStreet" = some (.ref (He.ga K "NoStreet"))
  x_NoStreet : ∃ fd, FunD K "__init__" "NoStreet.__init__" (defArgs s_NoStreet___init__) (defBody s_NoStreet___init__) (defScope s_NoStreet___init__) [] [] (He.ma K (He.ga K "NoStreet") "__init__") fd
  mg_BadWalk : mg "BadWalk" = some (.ref (He.ga K "BadWalk"))
  x_BadWalk : ∃ fd, FunD K "__init__" "BadWalk.__init__" (defArgs s_BadWalk___init__) (defBody s_BadWalk___init__) (defScope s_BadWalk___init__) [] [] (He.ma K (He.ga K "BadWalk") "__init__") fd
  mg_NoHome : mg "NoHome" = some (.ref (He.ga K "NoHome"))
  x_NoHome : ∃ fd, FunD K "__init__" "NoHome.__init__" (defArgs s_NoHome___init__) (defBody s_NoHome___init__) (defScope s_NoHome___init__) [] [] (He.ma K (He.ga K "NoHome") "__init__") fd
  mg_NotHome : mg "NotHome" = some (.ref (He.ga K "NotHome"))
  x_NotHome : ∃ fd, FunD K "__init__" "NotHome.__init__" (defArgs s_NotHome___init__) (defBody s_NotHome___init__) (defScope s_NotHome___init__) [] [] (He.ma K (He.ga K "NotHome") "__init__") fd
  mg_Stuck : mg "Stuck" = some (.ref (He.ga K "Stuck"))
  x_Stuck : ∃ fd, FunD K "__init__" "Stuck.__init__" (defArgs s_Stuck___init__) (defBody s_Stuck___init__) (defScope s_Stuck___init__) [] [] (He.ma K (He.ga K "Stuck") "__init__") fd
  mg_NotNightly : mg "NotNightly" = some (.ref (He.ga K "NotNightly"))
  x_NotNightly : ∃ fd, FunD K "__init__" "NotNightly.__init__" (defArgs s_NotNightly___init__) (defBody s_NotNightly___init__) (defScope s_NotNightly___init__) [] [] (He.ma K (He.ga K "NotNightly") "__init__") fd
  mg_Unlike : mg "Unlike" = some (.ref (He.ga K "Unlike"))
  mg_NoDay : mg "NoDay" = some (.ref (He.ga K "NoDay"))
  x_NoDay : ∃ fd, FunD K "__init__" "NoDay.__init__" (defArgs s_NoDay___init__) (defBody s_NoDay___init__) (defScope s_NoDay___init__) [] [] (He.ma K (He.ga K "NoDay") "__init__") fd
  mg_BadStarts : mg "BadStarts" = some (.ref (He.ga K "BadStarts"))
  x_BadStarts : ∃ fd, FunD K "__init__" "BadStarts.__init__" (defArgs s_BadStarts___init__) (defBody s_BadStarts___init__) (defScope s_BadStarts___init__) [] [] (He.ma K (He.ga K "BadStarts") "__init__") fd
  mg_TooGreat : mg "TooGreat" = some (.ref (He.ga K "TooGreat"))
  x_TooGreat : ∃ fd, FunD K "__init__" "TooGreat.__init__" (defArgs s_TooGreat___init__) (defBody s_TooGreat___init__) (defScope s_TooGreat___init__) [] [] (He.ma K (He.ga K "TooGreat") "__init__") fd
  f_all : mg "all" = none
  f_bool : mg "bool" = none
  f_enumerate : mg "enumerate" = none
  f_int : mg "int" = none
  f_isinstance : mg "isinstance" = none
  f_len : mg "len" = none
  f_list : mg "list" = none
  f_range : mg "range" = none
  f_repr : mg "repr" = none
  f_sorted : mg "sorted" = none
  f_tuple : mg "tuple" = none
  f_ValueError : mg "ValueError" = none
  g_MOST_PLACES : ∃ t, mg "MOST_PLACES" = some (.int 8 t)
  g_MOST_STREETS : ∃ t, mg "MOST_STREETS" = some (.int 12 t)
  g_MOST_RHYTHM : ∃ t, mg "MOST_RHYTHM" = some (.int 6 t)
abbrev owns : List Str := ["BadTown", "NoPlace", "NoStreet", "BadWalk", "NoHome", "NotHome", "Stuck", "NotNightly", "Unlike", "NoDay", "BadStarts", "TooGreat"]
abbrev dsts : List Str := ["BadTown", "NoPlace", "NoStreet", "BadWalk", "TownError", "NoHome", "NotHome", "Stuck", "NotNightly", "Unlike", "NoDay", "BadStarts", "TooGreat"]
structure Xs (K : PySem.W.Frag) : Prop where
  ve : veB K = true
  te : cinB K (He.ga K "TownError") (He.ma K (He.ga K "TownError") "__init__") = true
  k_TownError : Xk K (He.ga K "TownError") (He.ma K (He.ga K "TownError") "__init__") ["why"]
  k_BadTown : Xk K (He.ga K "BadTown") (He.ma K (He.ga K "BadTown") "__init__") ["why", "at"]
  k_NoPlace : Xk K (He.ga K "NoPlace") (He.ma K (He.ga K "NoPlace") "__init__") ["why", "place"]
  k_NoStreet : Xk K (He.ga K "NoStreet") (He.ma K (He.ga K "NoStreet") "__init__") ["why", "number"]
  k_BadWalk : Xk K (He.ga K "BadWalk") (He.ma K (He.ga K "BadWalk") "__init__") ["why", "at"]
  k_NoHome : Xk K (He.ga K "NoHome") (He.ma K (He.ga K "NoHome") "__init__") ["why", "pair"]
  k_NotHome : Xk K (He.ga K "NotHome") (He.ma K (He.ga K "NotHome") "__init__") ["why", "day"]
  k_Stuck : Xk K (He.ga K "Stuck") (He.ma K (He.ga K "Stuck") "__init__") ["why", "place", "day"]
  k_NotNightly : Xk K (He.ga K "NotNightly") (He.ma K (He.ga K "NotNightly") "__init__") ["why", "number"]
  k_Unlike : Xk K (He.ga K "Unlike") (He.ma K (He.ga K "TownError") "__init__") ["why"]
  k_NoDay : Xk K (He.ga K "NoDay") (He.ma K (He.ga K "NoDay") "__init__") ["why", "day"]
  k_BadStarts : Xk K (He.ga K "BadStarts") (He.ma K (He.ga K "BadStarts") "__init__") ["why", "at"]
  k_TooGreat : Xk K (He.ga K "TooGreat") (He.ma K (He.ga K "TooGreat") "__init__") ["why", "most"]
  xo : Xo K owns dsts
section
variable {P : Program} {w : World} {K : PySem.W.Frag} {mg : Str → Option Value} {base : Heap}
theorem i_TownError (t : Txt K mg) (xs : Xs K) : ∃ fd, FnOk P w K mg base (L2N.CX P w) 1 (He.ma K (He.ga K "TownError") "__init__") fd ["self", "why"] (fun vs H Q _ => spI K ["why"] 1 (fun as => [("why", as.getD 0 .non)]) vs H Q) ∧
    Binds K fd ["self", "why"] [] ∧ PySem.W.keepIn K (.ref (He.ma K (He.ga K "TownError") "__init__")) = true := by
  obtain ⟨fd, F⟩ := t.x_TownError
  refine ⟨fd, init_V F sc_TownError___init__ (calmX P w) (fun vs H Q h => spI_len h) fun X ct vs H Q h => ?_, ?_, F.kp⟩
  · exact vinit (f := "why") ct (by decide +kernel) (by decide +kernel) (by decide +kernel) t.f_ValueError (veB_ok xs.ve) rfl rfl rfl rfl h
  · obtain ⟨ds, r, hb⟩ := F.binds1 (ps := ["self", "why"]) 2 1 (by simp) rfl (fun T kV doc pm an cdv ct us its h1 h2 => match us, its, h1, h2 with | [_, _], [_], _, _ => ⟨_, rfl, rfl⟩)
    cases r
    exact hb
theorem i_BadTown (t : Txt K mg) (xs : Xs K) : ∃ fd, FnOk P w K mg base (L2N.CX P w) 2 (He.ma K (He.ga K "BadTown") "__init__") fd ["self", "why", "at"] (fun vs H Q _ => spI K ["why", "at"] 2 (fun as => [("at", as.getD 1 .non), ("why", as.getD 0 .non)]) vs H Q) ∧
    Binds K fd ["self", "why", "at"] [] ∧ Binds K fd ["self", "why", "at"] [.none] ∧ PySem.W.keepIn K (.ref (He.ma K (He.ga K "BadTown") "__init__")) = true := by
  obtain ⟨fd, F⟩ := t.x_BadTown
  obtain ⟨fdT, FT, hbT, hkT⟩ := i_TownError (P := P) (w := w) (base := base) t xs
  obtain ⟨r, kv⟩ := cinB_ok xs.te
  refine ⟨fd, init_V F sc_BadTown___init__ (calmX P w) (fun vs H Q h => spI_len h) fun X ct vs H Q h => ?_, ?_, ?_, F.kp⟩
  · obtain ⟨v0, v1, v2, rfl⟩ : ∃ v0 v1 v2, vs = [v0, v1, v2] := by
      have := spI_len h
      match vs, this with | [v0, v1, v2], _ => exact ⟨v0, v1, v2, rfl⟩
    exact vsub (ds := []) (dvs := []) (i := 2) (w2 := v1) (av := v2) ct (by decide +kernel) (by decide +kernel) (by decide +kernel) t.mg_TownError r kv hkT FT (by decide) hbT (pe_var (i := 1) (by rw [ct.hN]; rfl) (by rw [ct.hsc]; exact (nmOk_of (N := ["self", "why", "at"]) (sc := defScope s_BadTown___init__) (i := 1) (x := "why") (by decide +kernel)).2.1) (by decide) (by decide)) (fun H Q q => ⟨v1, rfl, q⟩) rfl (fun a ha => by cases ha; rfl) rfl rfl rfl rfl rfl rfl (by decide) (spI_at h)
  · obtain ⟨ds, r, hb⟩ := F.binds1 (ps := ["self", "why", "at"]) 3 1 (by simp) rfl (fun T kV doc pm an cdv ct us its h1 h2 => match us, its, h1, h2 with | [_, _, _], [_], _, _ => ⟨_, rfl, rfl⟩)
    cases r
    exact hb
  · obtain ⟨ds, r, hb⟩ := F.binds1 (ps := ["self", "why", "at"]) 2 0 (by simp) rfl (fun T kV doc pm an cdv ct us its h1 h2 => match us, its, h1, h2 with | [_, _], [_], _, _ => ⟨_, rfl, rfl⟩)
    cases r with
    | cons r1 r2 => cases r2; cases r1; exact hb
theorem i_NoPlace (t : Txt K mg) (xs : Xs K) : ∃ fd, FnOk P w K mg base (L2N.CX P w) 2 (He.ma K (He.ga K "NoPlace") "__init__") fd ["self", "place"] (fun vs H Q _ => spI K ["why", "place"] 1 (fun as => [("place", as.getD 0 .non), ("why", .str "no place")]) vs H Q) ∧
    Binds K fd ["self", "place"] [] ∧ PySem.W.keepIn K (.ref (He.ma K (He.ga K "NoPlace") "__init__")) = true := by
  obtain ⟨fd, F⟩ := t.x_NoPlace
  obtain ⟨fdT, FT, hbT, hkT⟩ := i_TownError (P := P) (w := w) (base := base) t xs
  obtain ⟨r, kv⟩ := cinB_ok xs.te
  refine ⟨fd, init_V F sc_NoPlace___init__ (calmX P w) (fun vs H Q h => spI_len h) fun X ct vs H Q h => ?_, ?_, F.kp⟩
  · obtain ⟨v0, v1, rfl⟩ : ∃ v0 v1, vs = [v0, v1] := by
      have := spI_len h
      match vs, this with | [v0, v1], _ => exact ⟨v0, v1, rfl⟩
    exact vsub (ds := []) (dvs := []) (i := 1) (w2 := V.str "no place") (av := v1) ct (by decide +kernel) (by decide +kernel) (by decide +kernel) t.mg_TownError r kv hkT FT (by decide) hbT pe_str (fun H Q q => q) rfl (fun a ha => by cases ha; rfl) rfl rfl rfl rfl rfl rfl (by decide) (spI_at h)
  · exact F.bindsN (fun _ _ _ _ _ _ us h => match us, h with | [_, _], _ => rfl)
theorem i_NoStreet (t : Txt K mg) (xs : Xs K) : ∃ fd, FnOk P w K mg base (L2N.CX P w) 2 (He.ma K (He.ga K "NoStreet") "__init__") fd ["self", "number"] (fun vs H Q _ => spI K ["why", "number"] 1 (fun as => [("number", as.getD 0 .non), ("why", .str "no street")]) vs H Q) ∧
    Binds K fd ["self", "number"] [] ∧ PySem.W.keepIn K (.ref (He.ma K (He.ga K "NoStreet") "__init__")) = true := by
  obtain ⟨fd, F⟩ := t.x_NoStreet
  obtain ⟨fdT, FT, hbT, hkT⟩ := i_TownError (P := P) (w := w) (base := base) t xs
  obtain ⟨r, kv⟩ := cinB_ok xs.te
  refine ⟨fd, init_V F sc_NoStreet___init__ (calmX P w) (fun vs H Q h => spI_len h) fun X ct vs H Q h => ?_, ?_, F.kp⟩
  · obtain ⟨v0, v1, rfl⟩ : ∃ v0 v1, vs = [v0, v1] := by
      have := spI_len h
      match vs, this with | [v0, v1], _ => exact ⟨v0, v1, rfl⟩
    exact vsub (ds := []) (dvs := []) (i := 1) (w2 := V.str "no street") (av := v1) ct (by decide +kernel) (by decide +kernel) (by decide +kernel) t.mg_TownError r kv hkT FT (by decide) hbT pe_str (fun H Q q => q) rfl (fun a ha => by cases ha; rfl) rfl rfl rfl rfl rfl rfl (by decide) (spI_at h)
  · exact F.bindsN (fun _ _ _ _ _ _ us h => match us, h with | [_, _], _ => rfl)
theorem i_BadWalk (t : Txt K mg) (xs : Xs K) : ∃ fd, FnOk P w K mg base (L2N.CX P w) 2 (He.ma K (He.ga K "BadWalk") "__init__") fd ["self", "at"] (fun vs H Q _ => spI K ["why", "at"] 1 (fun as => [("at", as.getD 0 .non), ("why", .str "no walk")]) vs H Q) ∧
    Binds K fd ["self", "at"] [] ∧ PySem.W.keepIn K (.ref (He.ma K (He.ga K "BadWalk") "__init__")) = true := by
  obtain ⟨fd, F⟩ := t.x_BadWalk
  obtain ⟨fdT, FT, hbT, hkT⟩ := i_TownError (P := P) (w := w) (base := base) t xs
  obtain ⟨r, kv⟩ := cinB_ok xs.te
  refine ⟨fd, init_V F sc_BadWalk___init__ (calmX P w) (fun vs H Q h => spI_len h) fun X ct vs H Q h => ?_, ?_, F.kp⟩
  · obtain ⟨v0, v1, rfl⟩ : ∃ v0 v1, vs = [v0, v1] := by
      have := spI_len h
      match vs, this with | [v0, v1], _ => exact ⟨v0, v1, rfl⟩
    exact vsub (ds := []) (dvs := []) (i := 1) (w2 := V.str "no walk") (av := v1) ct (by decide +kernel) (by decide +kernel) (by decide +kernel) t.mg_TownError r kv hkT FT (by decide) hbT pe_str (fun H Q q => q) rfl (fun a ha => by cases ha; rfl) rfl rfl rfl rfl rfl rfl (by decide) (spI_at h)
  · exact F.bindsN (fun _ _ _ _ _ _ us h => match us, h with | [_, _], _ => rfl)
theorem i_NoHome (t : Txt K mg) (xs : Xs K) : ∃ fd, FnOk P w K mg base (L2N.CX P w) 2 (He.ma K (He.ga K "NoHome") "__init__") fd ["self", "pair"] (fun vs H Q _ => spI K ["why", "pair"] 1 (fun as => [("pair", as.getD 0 .non), ("why", .str "no home")]) vs H Q) ∧
    Binds K fd ["self", "pair"] [] ∧ PySem.W.keepIn K (.ref (He.ma K (He.ga K "NoHome") "__init__")) = true := by
  obtain ⟨fd, F⟩ := t.x_NoHome
  obtain ⟨fdT, FT, hbT, hkT⟩ := i_TownError (P := P) (w := w) (base := base) t xs
  obtain ⟨r, kv⟩ := cinB_ok xs.te
  refine ⟨fd, init_V F sc_NoHome___init__ (calmX P w) (fun vs H Q h => spI_len h) fun X ct vs H Q h => ?_, ?_, F.kp⟩
  · obtain ⟨v0, v1, rfl⟩ : ∃ v0 v1, vs = [v0, v1] := by
      have := spI_len h
      match vs, this with | [v0, v1], _ => exact ⟨v0, v1, rfl⟩
    exact vsub (ds := []) (dvs := []) (i := 1) (w2 := V.str "no home") (av := v1) ct (by decide +kernel) (by decide +kernel) (by decide +kernel) t.mg_TownError r kv hkT FT (by decide) hbT pe_str (fun H Q q => q) rfl (fun a ha => by cases ha; rfl) rfl rfl rfl rfl rfl rfl (by decide) (spI_at h)
  · exact F.bindsN (fun _ _ _ _ _ _ us h => match us, h with | [_, _], _ => rfl)
theorem i_NotHome (t : Txt K mg) (xs : Xs K) : ∃ fd, FnOk P w K mg base (L2N.CX P w) 2 (He.ma K (He.ga K "NotHome") "__init__") fd ["self", "day"] (fun vs H Q _ => spI K ["why", "day"] 1 (fun as => [("day", as.getD 0 .non), ("why", .str "not home")]) vs H Q) ∧
    Binds K fd ["self", "day"] [] ∧ PySem.W.keepIn K (.ref (He.ma K (He.ga K "NotHome") "__init__")) = true := by
  obtain ⟨fd, F⟩ := t.x_NotHome
  obtain ⟨fdT, FT, hbT, hkT⟩ := i_TownError (P := P) (w := w) (base := base) t xs
  obtain ⟨r, kv⟩ := cinB_ok xs.te
  refine ⟨fd, init_V F sc_NotHome___init__ (calmX P w) (fun vs H Q h => spI_len h) fun X ct vs H Q h => ?_, ?_, F.kp⟩
  · obtain ⟨v0, v1, rfl⟩ : ∃ v0 v1, vs = [v0, v1] := by
      have := spI_len h
      match vs, this with | [v0, v1], _ => exact ⟨v0, v1, rfl⟩
    exact vsub (ds := []) (dvs := []) (i := 1) (w2 := V.str "not home") (av := v1) ct (by decide +kernel) (by decide +kernel) (by decide +kernel) t.mg_TownError r kv hkT FT (by decide) hbT pe_str (fun H Q q => q) rfl (fun a ha => by cases ha; rfl) rfl rfl rfl rfl rfl rfl (by decide) (spI_at h)
  · exact F.bindsN (fun _ _ _ _ _ _ us h => match us, h with | [_, _], _ => rfl)
theorem i_Stuck (t : Txt K mg) (xs : Xs K) : ∃ fd, FnOk P w K mg base (L2N.CX P w) 2 (He.ma K (He.ga K "Stuck") "__init__") fd ["self", "place", "day"] (fun vs H Q _ => spI K ["why", "place", "day"] 2 (fun as => [("day", as.getD 1 .non), ("place", as.getD 0 .non), ("why", .str "stuck")]) vs H Q) ∧
    Binds K fd ["self", "place", "day"] [] ∧ PySem.W.keepIn K (.ref (He.ma K (He.ga K "Stuck") "__init__")) = true := by
  obtain ⟨fd, F⟩ := t.x_Stuck
  obtain ⟨fdT, FT, hbT, hkT⟩ := i_TownError (P := P) (w := w) (base := base) t xs
  obtain ⟨r, kv⟩ := cinB_ok xs.te
  refine ⟨fd, init_V F sc_Stuck___init__ (calmX P w) (fun vs H Q h => spI_len h) fun X ct vs H Q h => ?_, ?_, F.kp⟩
  · obtain ⟨v0, v1, v2, rfl⟩ : ∃ v0 v1 v2, vs = [v0, v1, v2] := by
      have := spI_len h
      match vs, this with | [v0, v1, v2], _ => exact ⟨v0, v1, v2, rfl⟩
    exact vsub2 (ds := []) (dvs := []) (i := 1) (i2 := 2) (w2 := V.str "stuck") (av := v1) (av2 := v2) ct (by decide +kernel) (by decide +kernel) (by decide +kernel) (by decide +kernel) t.mg_TownError r kv hkT FT (by decide) hbT pe_str (fun H Q q => q) rfl rfl (fun a ha => by cases ha; rfl) rfl rfl rfl rfl rfl rfl rfl (by decide) (spI_at h)
  · exact F.bindsN (fun _ _ _ _ _ _ us h => match us, h with | [_, _, _], _ => rfl)
theorem i_NotNightly (t : Txt K mg) (xs : Xs K) : ∃ fd, FnOk P w K mg base (L2N.CX P w) 2 (He.ma K (He.ga K "NotNightly") "__init__") fd ["self", "number"] (fun vs H Q _ => spI K ["why", "number"] 1 (fun as => [("number", as.getD 0 .non), ("why", .str "not nightly")]) vs H Q) ∧
    Binds K fd ["self", "number"] [] ∧ PySem.W.keepIn K (.ref (He.ma K (He.ga K "NotNightly") "__init__")) = true := by
  obtain ⟨fd, F⟩ := t.x_NotNightly
  obtain ⟨fdT, FT, hbT, hkT⟩ := i_TownError (P := P) (w := w) (base := base) t xs
  obtain ⟨r, kv⟩ := cinB_ok xs.te
  refine ⟨fd, init_V F sc_NotNightly___init__ (calmX P w) (fun vs H Q h => spI_len h) fun X ct vs H Q h => ?_, ?_, F.kp⟩
  · obtain ⟨v0, v1, rfl⟩ : ∃ v0 v1, vs = [v0, v1] := by
      have := spI_len h
      match vs, this with | [v0, v1], _ => exact ⟨v0, v1, rfl⟩
    exact vsub (ds := []) (dvs := []) (i := 1) (w2 := V.str "not nightly") (av := v1) ct (by decide +kernel) (by decide +kernel) (by decide +kernel) t.mg_TownError r kv hkT FT (by decide) hbT pe_str (fun H Q q => q) rfl (fun a ha => by cases ha; rfl) rfl rfl rfl rfl rfl rfl (by decide) (spI_at h)
  · exact F.bindsN (fun _ _ _ _ _ _ us h => match us, h with | [_, _], _ => rfl)
theorem i_NoDay (t : Txt K mg) (xs : Xs K) : ∃ fd, FnOk P w K mg base (L2N.CX P w) 2 (He.ma K (He.ga K "NoDay") "__init__") fd ["self", "day"] (fun vs H Q _ => spI K ["why", "day"] 1 (fun as => [("day", as.getD 0 .non), ("why", .str "no day")]) vs H Q) ∧
    Binds K fd ["self", "day"] [] ∧ PySem.W.keepIn K (.ref (He.ma K (He.ga K "NoDay") "__init__")) = true := by
  obtain ⟨fd, F⟩ := t.x_NoDay
  obtain ⟨fdT, FT, hbT, hkT⟩ := i_TownError (P := P) (w := w) (base := base) t xs
  obtain ⟨r, kv⟩ := cinB_ok xs.te
  refine ⟨fd, init_V F sc_NoDay___init__ (calmX P w) (fun vs H Q h => spI_len h) fun X ct vs H Q h => ?_, ?_, F.kp⟩
  · obtain ⟨v0, v1, rfl⟩ : ∃ v0 v1, vs = [v0, v1] := by
      have := spI_len h
      match vs, this with | [v0, v1], _ => exact ⟨v0, v1, rfl⟩
    exact vsub (ds := []) (dvs := []) (i := 1) (w2 := V.str "no day") (av := v1) ct (by decide +kernel) (by decide +kernel) (by decide +kernel) t.mg_TownError r kv hkT FT (by decide) hbT pe_str (fun H Q q => q) rfl (fun a ha => by cases ha; rfl) rfl rfl rfl rfl rfl rfl (by decide) (spI_at h)
  · exact F.bindsN (fun _ _ _ _ _ _ us h => match us, h with | [_, _], _ => rfl)
theorem i_BadStarts (t : Txt K mg) (xs : Xs K) : ∃ fd, FnOk P w K mg base (L2N.CX P w) 2 (He.ma K (He.ga K "BadStarts") "__init__") fd ["self", "at"] (fun vs H Q _ => spI K ["why", "at"] 1 (fun as => [("at", as.getD 0 .non), ("why", .str "no starts")]) vs H Q) ∧
    Binds K fd ["self", "at"] [] ∧ PySem.W.keepIn K (.ref (He.ma K (He.ga K "BadStarts") "__init__")) = true := by
  obtain ⟨fd, F⟩ := t.x_BadStarts
  obtain ⟨fdT, FT, hbT, hkT⟩ := i_TownError (P := P) (w := w) (base := base) t xs
  obtain ⟨r, kv⟩ := cinB_ok xs.te
  refine ⟨fd, init_V F sc_BadStarts___init__ (calmX P w) (fun vs H Q h => spI_len h) fun X ct vs H Q h => ?_, ?_, F.kp⟩
  · obtain ⟨v0, v1, rfl⟩ : ∃ v0 v1, vs = [v0, v1] := by
      have := spI_len h
      match vs, this with | [v0, v1], _ => exact ⟨v0, v1, rfl⟩
    exact vsub (ds := []) (dvs := []) (i := 1) (w2 := V.str "no starts") (av := v1) ct (by decide +kernel) (by decide +kernel) (by decide +kernel) t.mg_TownError r kv hkT FT (by decide) hbT pe_str (fun H Q q => q) rfl (fun a ha => by cases ha; rfl) rfl rfl rfl rfl rfl rfl (by decide) (spI_at h)
  · exact F.bindsN (fun _ _ _ _ _ _ us h => match us, h with | [_, _], _ => rfl)
theorem i_TooGreat (t : Txt K mg) (xs : Xs K) : ∃ fd, FnOk P w K mg base (L2N.CX P w) 2 (He.ma K (He.ga K "TooGreat") "__init__") fd ["self", "most"] (fun vs H Q _ => spI K ["why", "most"] 1 (fun as => [("most", as.getD 0 .non), ("why", .str "too great")]) vs H Q) ∧
    Binds K fd ["self", "most"] [] ∧ PySem.W.keepIn K (.ref (He.ma K (He.ga K "TooGreat") "__init__")) = true := by
  obtain ⟨fd, F⟩ := t.x_TooGreat
  obtain ⟨fdT, FT, hbT, hkT⟩ := i_TownError (P := P) (w := w) (base := base) t xs
  obtain ⟨r, kv⟩ := cinB_ok xs.te
  refine ⟨fd, init_V F sc_TooGreat___init__ (calmX P w) (fun vs H Q h => spI_len h) fun X ct vs H Q h => ?_, ?_, F.kp⟩
  · obtain ⟨v0, v1, rfl⟩ : ∃ v0 v1, vs = [v0, v1] := by
      have := spI_len h
      match vs, this with | [v0, v1], _ => exact ⟨v0, v1, rfl⟩
    exact vsub (ds := []) (dvs := []) (i := 1) (w2 := V.str "too great") (av := v1) ct (by decide +kernel) (by decide +kernel) (by decide +kernel) t.mg_TownError r kv hkT FT (by decide) hbT pe_str (fun H Q q => q) rfl (fun a ha => by cases ha; rfl) rfl rfl rfl rfl rfl rfl (by decide) (spI_at h)
  · exact F.bindsN (fun _ _ _ _ _ _ us h => match us, h with | [_, _], _ => rfl)
variable {N : List Str} {sc : Scope} {fs : Str → Bool} {X : Cx} {kk : Nat} {ρ : TEnv} {L L1 : Store} {p pos : Pos}
theorem mk_TownError {u0 : T} {e0 : Expr} (t : Txt K mg) (xs : Xs K) (ct : Ct (L2N.CX P w) P w K mg base kk N sc fs X) (ha : EvA X [e0] ρ L [u0] L1) (hj : 3 ≤ kk := by decide) (hg : glOk sc "TownError" = true := by decide +kernel)
    (he : starEach [e0] X.env = (false, eval e0 X.env) :: starEach [] X.env := by first | with_reducible exact se1 | with_reducible exact se2 | with_reducible exact se3 | with_reducible exact se4 | with_reducible exact se5 | with_reducible exact se6 | with_reducible exact se7 | with_reducible exact se8 | with_reducible exact se9 | rfl) (hpl : (backTo pos (starEach [] X.env)).any (·.1) = false := by rfl) :
    MkY X (.Call (.Name "TownError" p) [e0] [] pos) ρ L (He.ga K "TownError") [(("why" : Str), u0)] L1 := by
  obtain ⟨fd, F, hb, _⟩ := i_TownError (P := P) (w := w) (base := base) t xs
  exact mk_oexY (fl := [(("why" : Str), u0)]) (ds := []) (dvs := []) ct hg t.mg_TownError xs.k_TownError.ox xs.k_TownError.ic xs.k_TownError.ti (fun g hg => xs.k_TownError.fl g hg) F (by omega) hb .nil ha rfl (by simp) (fun W H vs r => by
    obtain ⟨⟩ | ⟨r0, r⟩ := r; cases r
    exact (fld_cons r0 fld_nil)) (by decide) he hpl
theorem mk_BadTown {u0 u1 : T} {e0 e1 : Expr} (t : Txt K mg) (xs : Xs K) (ct : Ct (L2N.CX P w) P w K mg base kk N sc fs X) (ha : EvA X [e0, e1] ρ L [u0, u1] L1) (hj : 3 ≤ kk := by decide) (hg : glOk sc "BadTown" = true := by decide +kernel)
    (he : starEach [e0, e1] X.env = (false, eval e0 X.env) :: starEach [e1] X.env := by first | with_reducible exact se1 | with_reducible exact se2 | with_reducible exact se3 | with_reducible exact se4 | with_reducible exact se5 | with_reducible exact se6 | with_reducible exact se7 | with_reducible exact se8 | with_reducible exact se9 | rfl) (hpl : (backTo pos (starEach [e1] X.env)).any (·.1) = false := by rfl) :
    MkY X (.Call (.Name "BadTown" p) [e0, e1] [] pos) ρ L (He.ga K "BadTown") [(("at" : Str), u1), (("why" : Str), u0)] L1 := by
  obtain ⟨fd, F, hb, _, _⟩ := i_BadTown (P := P) (w := w) (base := base) t xs
  exact mk_oexY (fl := [(("at" : Str), u1), (("why" : Str), u0)]) (ds := []) (dvs := []) ct hg t.mg_BadTown xs.k_BadTown.ox xs.k_BadTown.ic xs.k_BadTown.ti (fun g hg => xs.k_BadTown.fl g hg) F (by omega) hb .nil ha rfl (by simp) (fun W H vs r => by
    obtain ⟨⟩ | ⟨r0, r⟩ := r; obtain ⟨⟩ | ⟨r1, r⟩ := r; cases r
    exact (fld_cons r1 (fld_cons r0 fld_nil))) (by decide) he hpl
theorem mk_BadTown_d {u0 : T} {e0 : Expr} (t : Txt K mg) (xs : Xs K) (ct : Ct (L2N.CX P w) P w K mg base kk N sc fs X) (ha : EvA X [e0] ρ L [u0] L1) (hj : 3 ≤ kk := by decide) (hg : glOk sc "BadTown" = true := by decide +kernel)
    (he : starEach [e0] X.env = (false, eval e0 X.env) :: starEach [] X.env := by first | with_reducible exact se1 | with_reducible exact se2 | with_reducible exact se3 | with_reducible exact se4 | with_reducible exact se5 | with_reducible exact se6 | with_reducible exact se7 | with_reducible exact se8 | with_reducible exact se9 | rfl) (hpl : (backTo pos (starEach [] X.env)).any (·.1) = false := by rfl) :
    MkY X (.Call (.Name "BadTown" p) [e0] [] pos) ρ L (He.ga K "BadTown") [(("at" : Str), N0), (("why" : Str), u0)] L1 := by
  obtain ⟨fd, F, _, hb, _⟩ := i_BadTown (P := P) (w := w) (base := base) t xs
  exact mk_oexY (fl := [(("at" : Str), N0), (("why" : Str), u0)]) (ds := [.none]) (dvs := [.non]) ct hg t.mg_BadTown xs.k_BadTown.ox xs.k_BadTown.ic xs.k_BadTown.ti (fun g hg => xs.k_BadTown.fl g hg) F (by omega) hb (.cons rfl .nil) ha rfl (by simp) (fun W H vs r => by
    obtain ⟨⟩ | ⟨r0, r⟩ := r; cases r
    exact (fld_cons (.v _) (fld_cons r0 fld_nil))) (by decide) he hpl
theorem mk_NoPlace {u0 : T} {e0 : Expr} (t : Txt K mg) (xs : Xs K) (ct : Ct (L2N.CX P w) P w K mg base kk N sc fs X) (ha : EvA X [e0] ρ L [u0] L1) (hj : 3 ≤ kk := by decide) (hg : glOk sc "NoPlace" = true := by decide +kernel)
    (he : starEach [e0] X.env = (false, eval e0 X.env) :: starEach [] X.env := by first | with_reducible exact se1 | with_reducible exact se2 | with_reducible exact se3 | with_reducible exact se4 | with_reducible exact se5 | with_reducible exact se6 | with_reducible exact se7 | with_reducible exact se8 | with_reducible exact se9 | rfl) (hpl : (backTo pos (starEach [] X.env)).any (·.1) = false := by rfl) :
    MkY X (.Call (.Name "NoPlace" p) [e0] [] pos) ρ L (He.ga K "NoPlace") [(("place" : Str), u0), (("why" : Str), S "no place")] L1 := by
  obtain ⟨fd, F, hb, _⟩ := i_NoPlace (P := P) (w := w) (base := base) t xs
  exact mk_oexY (fl := [(("place" : Str), u0), (("why" : Str), S "no place")]) (ds := []) (dvs := []) ct hg t.mg_NoPlace xs.k_NoPlace.ox xs.k_NoPlace.ic xs.k_NoPlace.ti (fun g hg => xs.k_NoPlace.fl g hg) F (by omega) hb .nil ha rfl (by simp) (fun W H vs r => by
    obtain ⟨⟩ | ⟨r0, r⟩ := r; cases r
    exact (fld_cons r0 (fld_cons (.v _) fld_nil))) (by decide) he hpl
theorem mk_NoStreet {u0 : T} {e0 : Expr} (t : Txt K mg) (xs : Xs K) (ct : Ct (L2N.CX P w) P w K mg base kk N sc fs X) (ha : EvA X [e0] ρ L [u0] L1) (hj : 3 ≤ kk := by decide) (hg : glOk sc "NoStreet" = true := by decide +kernel)
    (he : starEach [e0] X.env = (false, eval e0 X.env) :: starEach [] X.env := by first | with_reducible exact se1 | with_reducible exact se2 | with_reducible exact se3 | with_reducible exact se4 | with_reducible exact se5 | with_reducible exact se6 | with_reducible exact se7 | with_reducible exact se8 | with_reducible exact se9 | rfl) (hpl : (backTo pos (starEach [] X.env)).any (·.1) = false := by rfl) :
    MkY X (.Call (.Name "NoStreet" p) [e0] [] pos) ρ L (He.ga K "NoStreet") [(("number" : Str), u0), (("why" : Str), S "no street")] L1 := by
  obtain ⟨fd, F, hb, _⟩ := i_NoStreet (P := P) (w := w) (base := base) t xs
  exact mk_oexY (fl := [(("number" : Str), u0), (("why" : Str), S "no street")]) (ds := []) (dvs := []) ct hg t.mg_NoStreet xs.k_NoStreet.ox xs.k_NoStreet.ic xs.k_NoStreet.ti (fun g hg => xs.k_NoStreet.fl g hg) F (by omega) hb .nil ha rfl (by simp) (fun W H vs r => by
    obtain ⟨⟩ | ⟨r0, r⟩ := r; cases r
    exact (fld_cons r0 (fld_cons (.v _) fld_nil))) (by decide) he hpl
theorem mk_BadWalk {u0 : T} {e0 : Expr} (t : Txt K mg) (xs : Xs K) (ct : Ct (L2N.CX P w) P w K mg base kk N sc fs X) (ha : EvA X [e0] ρ L [u0] L1) (hj : 3 ≤ kk := by decide) (hg : glOk sc "BadWalk" = true := by decide +kernel)
    (he : starEach [e0] X.env = (false, eval e0 X.env) :: starEach [] X.env := by first | with_reducible exact se1 | with_reducible exact se2 | with_reducible exact se3 | with_reducible exact se4 | with_reducible exact se5 | with_reducible exact se6 | with_reducible exact se7 | with_reducible exact se8 | with_reducible exact se9 | rfl) (hpl : (backTo pos (starEach [] X.env)).any (·.1) = false := by rfl) :
    MkY X (.Call (.Name "BadWalk" p) [e0] [] pos) ρ L (He.ga K "BadWalk") [(("at" : Str), u0), (("why" : Str), S "no walk")] L1 := by
  obtain ⟨fd, F, hb, _⟩ := i_BadWalk (P := P) (w := w) (base := base) t xs
  exact mk_oexY (fl := [(("at" : Str), u0), (("why" : Str), S "no walk")]) (ds := []) (dvs := []) ct hg t.mg_BadWalk xs.k_BadWalk.ox xs.k_BadWalk.ic xs.k_BadWalk.ti (fun g hg => xs.k_BadWalk.fl g hg) F (by omega) hb .nil ha rfl (by simp) (fun W H vs r => by
    obtain ⟨⟩ | ⟨r0, r⟩ := r; cases r
    exact (fld_cons r0 (fld_cons (.v _) fld_nil))) (by decide) he hpl
theorem mk_NoHome {u0 : T} {e0 : Expr} (t : Txt K mg) (xs : Xs K) (ct : Ct (L2N.CX P w) P w K mg base kk N sc fs X) (ha : EvA X [e0] ρ L [u0] L1) (hj : 3 ≤ kk := by decide) (hg : glOk sc "NoHome" = true := by decide +kernel)
    (he : starEach [e0] X.env = (false, eval e0 X.env) :: starEach [] X.env := by first | with_reducible exact se1 | with_reducible exact se2 | with_reducible exact se3 | with_reducible exact se4 | with_reducible exact se5 | with_reducible exact se6 | with_reducible exact se7 | with_reducible exact se8 | with_reducible exact se9 | rfl) (hpl : (backTo pos (starEach [] X.env)).any (·.1) = false := by rfl) :
    MkY X (.Call (.Name "NoHome" p) [e0] [] pos) ρ L (He.ga K "NoHome") [(("pair" : Str), u0), (("why" : Str), S "no home")] L1 := by
  obtain ⟨fd, F, hb, _⟩ := i_NoHome (P := P) (w := w) (base := base) t xs
  exact mk_oexY (fl := [(("pair" : Str), u0), (("why" : Str), S "no home")]) (ds := []) (dvs := []) ct hg t.mg_NoHome xs.k_NoHome.ox xs.k_NoHome.ic xs.k_NoHome.ti (fun g hg => xs.k_NoHome.fl g hg) F (by omega) hb .nil ha rfl (by simp) (fun W H vs r => by
    obtain ⟨⟩ | ⟨r0, r⟩ := r; cases r
    exact (fld_cons r0 (fld_cons (.v _) fld_nil))) (by decide) he hpl
theorem mk_NotHome {u0 : T} {e0 : Expr} (t : Txt K mg) (xs : Xs K) (ct : Ct (L2N.CX P w) P w K mg base kk N sc fs X) (ha : EvA X [e0] ρ L [u0] L1) (hj : 3 ≤ kk := by decide) (hg : glOk sc "NotHome" = true := by decide +kernel)
    (he : starEach [e0] X.env = (false, eval e0 X.env) :: starEach [] X.env := by first | with_reducible exact se1 | with_reducible exact se2 | with_reducible exact se3 | with_reducible exact se4 | with_reducible exact se5 | with_reducible exact se6 | with_reducible exact se7 | with_reducible exact se8 | with_reducible exact se9 | rfl) (hpl : (backTo pos (starEach [] X.env)).any (·.1) = false := by rfl) :
    MkY X (.Call (.Name "NotHome" p) [e0] [] pos) ρ L (He.ga K "NotHome") [(("day" : Str), u0), (("why" : Str), S "not home")] L1 := by
  obtain ⟨fd, F, hb, _⟩ := i_NotHome (P := P) (w := w) (base := base) t xs
  exact mk_oexY (fl := [(("day" : Str), u0), (("why" : Str), S "not home")]) (ds := []) (dvs := []) ct hg t.mg_NotHome xs.k_NotHome.ox xs.k_NotHome.ic xs.k_NotHome.ti (fun g hg => xs.k_NotHome.fl g hg) F (by omega) hb .nil ha rfl (by simp) (fun W H vs r => by
    obtain ⟨⟩ | ⟨r0, r⟩ := r; cases r
    exact (fld_cons r0 (fld_cons (.v _) fld_nil))) (by decide) he hpl
theorem mk_Stuck {u0 u1 : T} {e0 e1 : Expr} (t : Txt K mg) (xs : Xs K) (ct : Ct (L2N.CX P w) P w K mg base kk N sc fs X) (ha : EvA X [e0, e1] ρ L [u0, u1] L1) (hj : 3 ≤ kk := by decide) (hg : glOk sc "Stuck" = true := by decide +kernel)
    (he : starEach [e0, e1] X.env = (false, eval e0 X.env) :: starEach [e1] X.env := by first | with_reducible exact se1 | with_reducible exact se2 | with_reducible exact se3 | with_reducible exact se4 | with_reducible exact se5 | with_reducible exact se6 | with_reducible exact se7 | with_reducible exact se8 | with_reducible exact se9 | rfl) (hpl : (backTo pos (starEach [e1] X.env)).any (·.1) = false := by rfl) :
    MkY X (.Call (.Name "Stuck" p) [e0, e1] [] pos) ρ L (He.ga K "Stuck") [(("day" : Str), u1), (("place" : Str), u0), (("why" : Str), S "stuck")] L1 := by
  obtain ⟨fd, F, hb, _⟩ := i_Stuck (P := P) (w := w) (base := base) t xs
  exact mk_oexY (fl := [(("day" : Str), u1), (("place" : Str), u0), (("why" : Str), S "stuck")]) (ds := []) (dvs := []) ct hg t.mg_Stuck xs.k_Stuck.ox xs.k_Stuck.ic xs.k_Stuck.ti (fun g hg => xs.k_Stuck.fl g hg) F (by omega) hb .nil ha rfl (by simp) (fun W H vs r => by
    obtain ⟨⟩ | ⟨r0, r⟩ := r; obtain ⟨⟩ | ⟨r1, r⟩ := r; cases r
    exact (fld_cons r1 (fld_cons r0 (fld_cons (.v _) fld_nil)))) (by decide) he hpl
theorem mk_NotNightly {u0 : T} {e0 : Expr} (t : Txt K mg) (xs : Xs K) (ct : Ct (L2N.CX P w) P w K mg base kk N sc fs X) (ha : EvA X [e0] ρ L [u0] L1) (hj : 3 ≤ kk := by decide) (hg : glOk sc "NotNightly" = true := by decide +kernel)
    (he : starEach [e0] X.env = (false, eval e0 X.env) :: starEach [] X.env := by first | with_reducible exact se1 | with_reducible exact se2 | with_reducible exact se3 | with_reducible exact se4 | with_reducible exact se5 | with_reducible exact se6 | with_reducible exact se7 | with_reducible exact se8 | with_reducible exact se9 | rfl) (hpl : (backTo pos (starEach [] X.env)).any (·.1) = false := by rfl) :
    MkY X (.Call (.Name "NotNightly" p) [e0] [] pos) ρ L (He.ga K "NotNightly") [(("number" : Str), u0), (("why" : Str), S "not nightly")] L1 := by
  obtain ⟨fd, F, hb, _⟩ := i_NotNightly (P := P) (w := w) (base := base) t xs
  exact mk_oexY (fl := [(("number" : Str), u0), (("why" : Str), S "not nightly")]) (ds := []) (dvs := []) ct hg t.mg_NotNightly xs.k_NotNightly.ox xs.k_NotNightly.ic xs.k_NotNightly.ti (fun g hg => xs.k_NotNightly.fl g hg) F (by omega) hb .nil ha rfl (by simp) (fun W H vs r => by
    obtain ⟨⟩ | ⟨r0, r⟩ := r; cases r
    exact (fld_cons r0 (fld_cons (.v _) fld_nil))) (by decide) he hpl
theorem mk_Unlike {u0 : T} {e0 : Expr} (t : Txt K mg) (xs : Xs K) (ct : Ct (L2N.CX P w) P w K mg base kk N sc fs X) (ha : EvA X [e0] ρ L [u0] L1) (hj : 3 ≤ kk := by decide) (hg : glOk sc "Unlike" = true := by decide +kernel)
    (he : starEach [e0] X.env = (false, eval e0 X.env) :: starEach [] X.env := by first | with_reducible exact se1 | with_reducible exact se2 | with_reducible exact se3 | with_reducible exact se4 | with_reducible exact se5 | with_reducible exact se6 | with_reducible exact se7 | with_reducible exact se8 | with_reducible exact se9 | rfl) (hpl : (backTo pos (starEach [] X.env)).any (·.1) = false := by rfl) :
    MkY X (.Call (.Name "Unlike" p) [e0] [] pos) ρ L (He.ga K "Unlike") [(("why" : Str), u0)] L1 := by
  obtain ⟨fd, F, hb, _⟩ := i_TownError (P := P) (w := w) (base := base) t xs
  exact mk_oexY (fl := [(("why" : Str), u0)]) (ds := []) (dvs := []) ct hg t.mg_Unlike xs.k_Unlike.ox xs.k_Unlike.ic xs.k_Unlike.ti (fun g hg => xs.k_Unlike.fl g hg) F (by omega) hb .nil ha rfl (by simp) (fun W H vs r => by
    obtain ⟨⟩ | ⟨r0, r⟩ := r; cases r
    exact (fld_cons r0 fld_nil)) (by decide) he hpl
theorem mk_NoDay {u0 : T} {e0 : Expr} (t : Txt K mg) (xs : Xs K) (ct : Ct (L2N.CX P w) P w K mg base kk N sc fs X) (ha : EvA X [e0] ρ L [u0] L1) (hj : 3 ≤ kk := by decide) (hg : glOk sc "NoDay" = true := by decide +kernel)
    (he : starEach [e0] X.env = (false, eval e0 X.env) :: starEach [] X.env := by first | with_reducible exact se1 | with_reducible exact se2 | with_reducible exact se3 | with_reducible exact se4 | with_reducible exact se5 | with_reducible exact se6 | with_reducible exact se7 | with_reducible exact se8 | with_reducible exact se9 | rfl) (hpl : (backTo pos (starEach [] X.env)).any (·.1) = false := by rfl) :
    MkY X (.Call (.Name "NoDay" p) [e0] [] pos) ρ L (He.ga K "NoDay") [(("day" : Str), u0), (("why" : Str), S "no day")] L1 := by
  obtain ⟨fd, F, hb, _⟩ := i_NoDay (P := P) (w := w) (base := base) t xs
  exact mk_oexY (fl := [(("day" : Str), u0), (("why" : Str), S "no day")]) (ds := []) (dvs := []) ct hg t.mg_NoDay xs.k_NoDay.ox xs.k_NoDay.ic xs.k_NoDay.ti (fun g hg => xs.k_NoDay.fl g hg) F (by omega) hb .nil ha rfl (by simp) (fun W H vs r => by
    obtain ⟨⟩ | ⟨r0, r⟩ := r; cases r
    exact (fld_cons r0 (fld_cons (.v _) fld_nil))) (by decide) he hpl
theorem mk_BadStarts {u0 : T} {e0 : Expr} (t : Txt K mg) (xs : Xs K) (ct : Ct (L2N.CX P w) P w K mg base kk N sc fs X) (ha : EvA X [e0] ρ L [u0] L1) (hj : 3 ≤ kk := by decide) (hg : glOk sc "BadStarts" = true := by decide +kernel)
    (he : starEach [e0] X.env = (false, eval e0 X.env) :: starEach [] X.env := by first | with_reducible exact se1 | with_reducible exact se2 | with_reducible exact se3 | with_reducible exact se4 | with_reducible exact se5 | with_reducible exact se6 | with_reducible exact se7 | with_reducible exact se8 | with_reducible exact se9 | rfl) (hpl : (backTo pos (starEach [] X.env)).any (·.1) = false := by rfl) :
    MkY X (.Call (.Name "BadStarts" p) [e0] [] pos) ρ L (He.ga K "BadStarts") [(("at" : Str), u0), (("why" : Str), S "no starts")] L1 := by
  obtain ⟨fd, F, hb, _⟩ := i_BadStarts (P := P) (w := w) (base := base) t xs
  exact mk_oexY (fl := [(("at" : Str), u0), (("why" : Str), S "no starts")]) (ds := []) (dvs := []) ct hg t.mg_BadStarts xs.k_BadStarts.ox xs.k_BadStarts.ic xs.k_BadStarts.ti (fun g hg => xs.k_BadStarts.fl g hg) F (by omega) hb .nil ha rfl (by simp) (fun W H vs r => by
    obtain ⟨⟩ | ⟨r0, r⟩ := r; cases r
    exact (fld_cons r0 (fld_cons (.v _) fld_nil))) (by decide) he hpl
theorem mk_TooGreat {u0 : T} {e0 : Expr} (t : Txt K mg) (xs : Xs K) (ct : Ct (L2N.CX P w) P w K mg base kk N sc fs X) (ha : EvA X [e0] ρ L [u0] L1) (hj : 3 ≤ kk := by decide) (hg : glOk sc "TooGreat" = true := by decide +kernel)
    (he : starEach [e0] X.env = (false, eval e0 X.env) :: starEach [] X.env := by first | with_reducible exact se1 | with_reducible exact se2 | with_reducible exact se3 | with_reducible exact se4 | with_reducible exact se5 | with_reducible exact se6 | with_reducible exact se7 | with_reducible exact se8 | with_reducible exact se9 | rfl) (hpl : (backTo pos (starEach [] X.env)).any (·.1) = false := by rfl) :
    MkY X (.Call (.Name "TooGreat" p) [e0] [] pos) ρ L (He.ga K "TooGreat") [(("most" : Str), u0), (("why" : Str), S "too great")] L1 := by
  obtain ⟨fd, F, hb, _⟩ := i_TooGreat (P := P) (w := w) (base := base) t xs
  exact mk_oexY (fl := [(("most" : Str), u0), (("why" : Str), S "too great")]) (ds := []) (dvs := []) ct hg t.mg_TooGreat xs.k_TooGreat.ox xs.k_TooGreat.ic xs.k_TooGreat.ti (fun g hg => xs.k_TooGreat.fl g hg) F (by omega) hb .nil ha rfl (by simp) (fun W H vs r => by
    obtain ⟨⟩ | ⟨r0, r⟩ := r; cases r
    exact (fld_cons r0 (fld_cons (.v _) fld_nil))) (by decide) he hpl
end
section
variable {CX : CXT} {P : Program} {w : World} {K : PySem.W.Frag} {mg : Str → Option Value} {base : Heap}
abbrev aT (K : PySem.W.Frag) : Addr := He.ga K "Town"
theorem d_is_any (t : Txt K mg) (hc : Calm0 CX) : DefT CX P w K mg base 1 "is_any" ["thing"] R_is_any := by
  refine t.t_is_any.def sc_is_any hc b0_is_any (fun ts L r L' h => ?_) (fun X ct po ts L r L' h => ?_)
  · obtain ⟨_, rfl, _⟩ := h; rfl
  · obtain ⟨x, rfl, hx, rfl, rfl⟩ := h
    refine ws_ret (Ev.eq (ev_and (kisi ct t.f_isinstance (ea_cons (nv ct 0 rfl) (ea_cons (nty ct "int" t.f_int) ea_nil)) hx (isA_known hx _ (.inl rfl))) fun _ => (ev_bool1 (ev_not (kisi ct t.f_isinstance (ea_cons (nv ct 0 rfl) (ea_cons (nty ct "bool" t.f_bool) ea_nil)) hx (isA_known hx _ (.inr (.inl rfl))))))) ?_) exit_same
    rw [isA_any hx]
theorem d_is_whole (t : Txt K mg) (hc : Calm0 CX) : DefK CX P w K mg base 2 "is_whole" ["thing", "least", "most"] 1 ["least", "most"] R_is_whole := by
  refine t.t_is_whole.defK sc_is_whole hc bk_is_whole (fun ts L r L' h => ?_) (fun X ct po ts L r L' h => ?_)
  · obtain ⟨_, _, _, rfl, _⟩ := h; rfl
  · obtain ⟨x, lo, hi, rfl, hx, rfl, rfl⟩ := h
    have h1 : ∀ L, R_is_any [x] L (.v (B (isIntT x))) L := fun L => ⟨x, rfl, hx, rfl, rfl⟩
    cases hi2 : isIntT x with
    | true =>
      cases x with
      | v y =>
        cases y with
        | int i => exact ws_ret (Ev.eq (ev_and (ec ct (d_is_any t hc) (ea_cons (nv ct 0 rfl) ea_nil) (h1 _)) fun _ => (ev_bool1 (ev_leleI (nv ct 1 rfl) (nv ct 0 rfl) fun _ => (nv ct 2 rfl)))) rfl) exit_same
        | _ => cases hi2
      | _ => cases hi2
    | false =>
      have e : wholeT x lo hi = false := by
        unfold wholeT
        split
        · cases hi2
        · rfl
      rw [e]
      rw [hi2] at h1
      exact ws_ret (Ev.eq (ev_and (z := false) (ec ct (d_is_any t hc) (ea_cons (nv ct 0 rfl) ea_nil) (h1 _)) fun h => nomatch h) rfl) exit_same
theorem rw_int (i lo hi : Int) (L : Store) : R_is_whole [I i, I lo, I hi] L (.v (B (decide (lo ≤ i) && decide (i ≤ hi)))) L := ⟨I i, lo, hi, rfl, rfl, rfl, rfl⟩
theorem d_is_street (t : Txt K mg) (hc : Calm0 CX) : DefT CX P w K mg base 3 "is_street" ["thing", "places"] R_is_street := by
  refine t.t_is_street.def sc_is_street hc b0_is_street (fun ts L r L' h => ?_) (fun X ct po ts L r L' h => ?_)
  · obtain ⟨_, _, rfl, _⟩ := h; rfl
  · obtain ⟨l, m, rfl, rfl, rfl⟩ := h
    obtain ⟨_, gR⟩ := t.g_MOST_RHYTHM
    have hA : ∀ L, R_is_any [I l.n] L (.v (B true)) L := fun L => ⟨_, rfl, rfl, rfl, rfl⟩
    refine ws_if (EvW.tst (ew_or (eb_not (eb_val (kisiK ct t.f_isinstance (ea_cons (nv ct 0 rfl) (ea_cons (nty ct "tuple" t.f_tuple) ea_nil)) rfl true))) fun _ => (ew_or1 (eb_neI (klenT ct t.f_len (ea_cons (nv ct 0 rfl) ea_nil)) ev_int)))) (fun h => ?_) (fun h => ?_)
    · exact absurd h (by simp)
    refine ws_nil ?_
    refine ws_asg (nv ct 0 rfl) (tg_tup ct (tgs_cons (tn ct 2) (tgs_cons (tn ct 3) (tgs_cons (tn ct 4) (tgs_cons (tn ct 5) tgs_nil)))) rfl) ?_
    refine ws_if (EvW.tst (ew_or (eb_not (eb_val (eck ct (d_is_whole t hc) (ea_cons (nv ct 2 rfl) ea_nil) (ek_cons ev_int (ek_cons (nv ct 1 rfl) ek_nil)) (rw_int _ _ _ _)))) fun _ => (ew_or (eb_not (eb_val (eck ct (d_is_whole t hc) (ea_cons (nv ct 3 rfl) ea_nil) (ek_cons ev_int (ek_cons (nv ct 1 rfl) ek_nil)) (rw_int _ _ _ _)))) fun _ => (ew_or1 (eb_eqI (nv ct 2 rfl) (nv ct 3 rfl)))))) (fun h => ?_) (fun h => ?_)
    · refine ws_ret (Ev.eq ev_bl ?_) exit_same
      have : laneB m l = false := by
        unfold laneB
        cases e1 : (decide (1 ≤ l.a) && decide (l.a ≤ m)) <;> cases e2 : (decide (1 ≤ l.b) && decide (l.b ≤ m)) <;> cases e3 : decide (l.a = l.b) <;> simp only [e1, e2, e3] at h ⊢ <;> first | rfl | exact absurd h (by decide)
      rw [this]
    refine ws_nil ?_
    refine ws_ret (Ev.eq (ev_and (eck ct (d_is_whole t hc) (ea_cons (nv ct 4 rfl) ea_nil) (ek_cons ev_int (ek_cons (nint ct gR) ek_nil)) (rw_int _ _ _ _)) fun _ => (ev_bool1 (ec ct (d_is_any t hc) (ea_cons (nv ct 5 rfl) ea_nil) (hA _)))) ?_) exit_same
    unfold laneB
    cases e1 : (decide (1 ≤ l.a) && decide (l.a ≤ m)) <;> cases e2 : (decide (1 ≤ l.b) && decide (l.b ≤ m)) <;> cases e3 : decide (l.a = l.b) <;> simp only [e1, e2, e3] at h ⊢ <;> first | exact absurd h (by decide) | simp
theorem d_is_pair (t : Txt K mg) (hc : Calm0 CX) : DefT CX P w K mg base 3 "is_pair" ["thing", "places"] R_is_pair := by
  refine t.t_is_pair.def sc_is_pair hc b0_is_pair (fun ts L r L' h => ?_) (fun X ct po ts L r L' h => ?_)
  · obtain ⟨_, _, rfl, _⟩ := h; rfl
  · obtain ⟨q, m, rfl, rfl, rfl⟩ := h
    refine ws_if (EvW.tst (ew_or (eb_not (eb_val (kisiK ct t.f_isinstance (ea_cons (nv ct 0 rfl) (ea_cons (nty ct "tuple" t.f_tuple) ea_nil)) rfl true))) fun _ => (ew_or1 (eb_neI (klenT ct t.f_len (ea_cons (nv ct 0 rfl) ea_nil)) ev_int)))) (fun h => ?_) (fun h => ?_)
    · exact absurd h (by simp)
    refine ws_nil ?_
    refine ws_ret (Ev.eq (ev_and (kallM ct t.f_all (ea_cons (Ev.fz (elc0 (own := [("one", 2)]) (xs := [q.1, q.2]) (f := I) ct (by decide +kernel) (ei_tup (nv ct 0 rfl)) (by show 2 ≤ 100000; decide) (fun x2 hx2 _ c2 => (tn c2 2)) (fun x2 hx2 _ c2 => (eck c2 (d_is_whole t hc) (ea_cons (nv c2 2 rfl) ea_nil) (ek_cons ev_int (ek_cons (nv c2 1 rfl) ek_nil)) (rw_int _ _ _ _))))) ea_nil)) fun _ => (ev_bool1 (ev_lt (ev_ixT (nv ct 0 rfl) ev_int rfl) (ev_ixT (nv ct 0 rfl) ev_int rfl)))) ?_) exit_same
    unfold pairB
    simp only [List.all_cons, List.all_nil, Bool.and_true]
theorem d_check_streets (t : Txt K mg) (hc : Calm0 CX) : DefT CX P w K mg base 4 "check_streets" ["streets", "places"] R_check_streets := by
  refine t.t_check_streets.def sc_check_streets hc b0_check_streets (fun ts L r L' h => ?_) (fun X ct po ts L r L' h => ?_)
  · obtain ⟨_, _, rfl, _⟩ := h; rfl
  · obtain ⟨ls, m, rfl, ok, h12, rfl, rfl⟩ := h
    obtain ⟨_, gS⟩ := t.g_MOST_STREETS
    refine ws_if (EvW.tst (ew_or (eb_not (eb_val (kisiK ct t.f_isinstance (ea_cons (nv ct 0 rfl) (ea_cons (nty ct "list" t.f_list) ea_nil)) rfl true))) fun _ => (ew_or1 (eb_gt (klen ct t.f_len (ea_cons (nv ct 0 rfl) ea_nil) (.inl rfl)) (nint ct gS))))) (fun h => ?_) (fun h => ?_)
    · refine absurd h ?_
      rw [List.length_map]
      simp; omega
    refine ws_nil ?_
    refine ws_for ct po (kenum ct t.f_enumerate (ea_cons (nv ct 0 rfl) ea_nil)) (fun n ρ L0 => L0 = L' ∧ ∃ y z, ρ = [some (.lst (ls.map tLane)), some (I m), y, z]) ⟨rfl, _, _, rfl⟩ (fun n x ρ' L' hx hw => ?_) (fun ρ' L' hw => ?_)
    · obtain ⟨rfl, y, z, rfl⟩ := hw
      obtain ⟨q, hq, rfl⟩ : ∃ q, q ∈ enumL ls ∧ x = .tup [I q.1, tLane q.2] := by
        obtain ⟨q, h1, h2⟩ := List.mem_map.mp (List.mem_of_getElem? hx)
        exact ⟨q, h1, h2.symm⟩
      obtain ⟨i, _, e2⟩ := mem_enumL hq
      have hok := ok _ (List.mem_of_getElem? e2)
      refine ⟨_, _, (tg_tup ct (tgs_cons (tn ct 2) (tgs_cons (tn ct 3) tgs_nil)) rfl), ?_⟩
      refine ws_if (eb_not (eb_val (ec ct (d_is_street t hc) (ea_cons (nv ct 3 rfl) (ea_cons (nv ct 1 rfl) ea_nil)) ⟨q.2, m, rfl, rfl, rfl⟩))) (fun h => ?_) (fun h => ?_)
      · rw [laneB_ok.mpr hok] at h; cases h
      · exact ws_nil (ws_nil ⟨rfl, _, _, rfl⟩)
    · obtain ⟨rfl, y, z, rfl⟩ := hw
      exact ws_nil exit_same
end
section
variable {CX : CXT} {P : Program} {w : World} {K : PySem.W.Frag} {mg : Str → Option Value} {base : Heap}
variable {N : List Str} {sc : Scope} {fs : Str → Bool} {X : Cx} {k : Nat} {e : Expr} {ρ : TEnv} {L L1 : Store} {pos : Pos} {T0 : Tw}
theorem e_many (ct : Ct CX P w K mg base k N sc fs X) (t : Txt K mg) (h : Ev X e ρ L (.v (tTw (aT K) T0)) L1) (hb : attributeBase e "many" X.env (eval e X.env) = eval e X.env := by rfl) : Ev X (.Attribute e "many" pos) ρ L (.v (I T0.n)) L1 := efl ct t.cl_Town t.na_Town_many h (.inl rfl) rfl hb
theorem e_lanes (ct : Ct CX P w K mg base k N sc fs X) (t : Txt K mg) (h : Ev X e ρ L (.v (tTw (aT K) T0)) L1) (hb : attributeBase e "lanes" X.env (eval e X.env) = eval e X.env := by rfl) : Ev X (.Attribute e "lanes" pos) ρ L (.v (.tup (T0.st.map tLane))) L1 := efl ct t.cl_Town t.na_Town_lanes h (.inl rfl) rfl hb
theorem e_wides (ct : Ct CX P w K mg base k N sc fs X) (t : Txt K mg) (h : Ev X e ρ L (.v (tTw (aT K) T0)) L1) (hb : attributeBase e "wides" X.env (eval e X.env) = eval e X.env := by rfl) : Ev X (.Attribute e "wides" pos) ρ L (.v (.tup (T0.wd.map tPair))) L1 := efl ct t.cl_Town t.na_Town_wides h (.inl rfl) rfl hb
theorem e_beds (ct : Ct CX P w K mg base k N sc fs X) (t : Txt K mg) (h : Ev X e ρ L (.v (tTw (aT K) T0)) L1) (hb : attributeBase e "beds" X.env (eval e X.env) = eval e X.env := by rfl) : Ev X (.Attribute e "beds" pos) ρ L (.v (.tup (T0.bd.map I))) L1 := efl ct t.cl_Town t.na_Town_beds h (.inl rfl) rfl hb
theorem d_check_broad (t : Txt K mg) (hc : Calm0 CX) : DefT CX P w K mg base 4 "check_broad" ["broad", "places"] R_check_broad := by
  refine t.t_check_broad.def sc_check_broad hc b0_check_broad (fun ts L r L' h => ?_) (fun X ct po ts L r L' h => ?_)
  · obtain ⟨_, _, rfl, _⟩ := h; rfl
  · obtain ⟨ls, m, rfl, ok, rfl, rfl⟩ := h
    refine ws_if (eb_not (eb_val (kisiK ct t.f_isinstance (ea_cons (nv ct 0 rfl) (ea_cons (nty ct "list" t.f_list) ea_nil)) rfl true))) (fun h => ?_) (fun h => ?_)
    · cases h
    refine ws_nil ?_
    refine ws_for ct po (kenum ct t.f_enumerate (ea_cons (nv ct 0 rfl) ea_nil)) (fun n ρ L0 => L0 = L' ∧ ∃ y z, ρ = [some (.lst (ls.map tPair)), some (I m), y, z]) ⟨rfl, _, _, rfl⟩ (fun n x ρ' L' hx hw => ?_) (fun ρ' L' hw => ?_)
    · obtain ⟨rfl, y, z, rfl⟩ := hw
      obtain ⟨q, hq, rfl⟩ : ∃ q, q ∈ enumL ls ∧ x = .tup [I q.1, tPair q.2] := by
        obtain ⟨q, h1, h2⟩ := List.mem_map.mp (List.mem_of_getElem? hx)
        exact ⟨q, h1, h2.symm⟩
      obtain ⟨i, e1, e2⟩ := mem_enumL hq
      have hok := ok.ok _ (List.mem_of_getElem? e2)
      refine ⟨_, _, (tg_tup ct (tgs_cons (tn ct 2) (tgs_cons (tn ct 3) tgs_nil)) rfl), ?_⟩
      have hz := sh_lst (shl_map sh_pair (cutT ls none (some q.1)))
      refine ws_if (EvW.tst (ew_or (eb_not (eb_val (ec ct (d_is_pair t hc) (ea_cons (nv ct 3 rfl) (ea_cons (nv ct 1 rfl) ea_nil)) ⟨q.2, m, rfl, rfl, rfl⟩))) fun _ => (ew_or1 (eb_in ct (nv ct 3 rfl) (Ev.eq (Ev.fz (ev_cutL (nv ct 0 rfl) (.inl rfl) eo_none (eo_some (nv ct 2 rfl)))) (congrArg (fun z => R.v (T.lst z)) (cutT_map tPair ls none (some q.1)))) (sh_pair q.2).shp hz.shp)))) (fun h => ?_) (fun h => ?_)
      · refine absurd h ?_
        have h1 : pairB m q.2 = true := by
          obtain ⟨a, b, c, d, e⟩ := hok
          unfold pairB; simp only [Bool.and_eq_true, decide_eq_true_eq]; exact ⟨⟨⟨a, b⟩, c, d⟩, e⟩
        rw [h1, inT_map eqT_pair, e1, cutT_take (Nat.le_of_lt (List.getElem?_eq_some_iff.mp e2).1)]
        simp [not_in_take ok.nd e2]
      · exact ws_nil (ws_nil ⟨rfl, _, _, rfl⟩)
    · obtain ⟨rfl, y, z, rfl⟩ := hw
      exact ws_nil exit_same
theorem d_check_inns (t : Txt K mg) (hc : Calm0 CX) : DefT CX P w K mg base 4 "check_inns" ["inns", "places"] R_check_inns := by
  refine t.t_check_inns.def sc_check_inns hc b0_check_inns (fun ts L r L' h => ?_) (fun X ct po ts L r L' h => ?_)
  · obtain ⟨_, _, rfl, _⟩ := h; rfl
  · obtain ⟨ls, m, rfl, ok, rfl, rfl⟩ := h
    refine ws_if (eb_not (eb_val (kisiK ct t.f_isinstance (ea_cons (nv ct 0 rfl) (ea_cons (nty ct "list" t.f_list) ea_nil)) rfl true))) (fun h => ?_) (fun h => ?_)
    · cases h
    refine ws_nil ?_
    refine ws_for ct po (kenum ct t.f_enumerate (ea_cons (nv ct 0 rfl) ea_nil)) (fun n ρ L0 => L0 = L' ∧ ∃ y z, ρ = [some (.lst (ls.map I)), some (I m), y, z]) ⟨rfl, _, _, rfl⟩ (fun n x ρ' L' hx hw => ?_) (fun ρ' L' hw => ?_)
    · obtain ⟨rfl, y, z, rfl⟩ := hw
      obtain ⟨q, hq, rfl⟩ : ∃ q, q ∈ enumL ls ∧ x = .tup [I q.1, I q.2] := by
        obtain ⟨q, h1, h2⟩ := List.mem_map.mp (List.mem_of_getElem? hx)
        exact ⟨q, h1, h2.symm⟩
      obtain ⟨i, e1, e2⟩ := mem_enumL hq
      have hok := ok.ok _ (List.mem_of_getElem? e2)
      refine ⟨_, _, (tg_tup ct (tgs_cons (tn ct 2) (tgs_cons (tn ct 3) tgs_nil)) rfl), ?_⟩
      have hz := sh_lst (shl_map sh_I (cutT ls none (some q.1)))
      refine ws_if (EvW.tst (ew_or (eb_not (eb_val (eck ct (d_is_whole t hc) (ea_cons (nv ct 3 rfl) ea_nil) (ek_cons ev_int (ek_cons (nv ct 1 rfl) ek_nil)) (rw_int _ _ _ _)))) fun _ => (ew_or1 (eb_in ct (nv ct 3 rfl) (Ev.eq (Ev.fz (ev_cutL (nv ct 0 rfl) (.inl rfl) eo_none (eo_some (nv ct 2 rfl)))) (congrArg (fun z => R.v (T.lst z)) (cutT_map I ls none (some q.1)))) (sh_I q.2).shp hz.shp)))) (fun h => ?_) (fun h => ?_)
      · refine absurd h ?_
        rw [decide_eq_true hok.1, decide_eq_true hok.2, inT_map eqT_I, e1, cutT_take (Nat.le_of_lt (List.getElem?_eq_some_iff.mp e2).1)]
        simp [not_in_take ok.nd e2]
      · exact ws_nil (ws_nil ⟨rfl, _, _, rfl⟩)
    · obtain ⟨rfl, y, z, rfl⟩ := hw
      exact ws_nil exit_same
theorem m_Town (t : Txt K mg) (hc : Calm0 CX) : MakK CX P w K mg base 5 "Town" (aT K) ["self", "places", "streets", "broad", "inns"] 2 ["broad", "inns"] (R_init (aT K)) := by
  refine t.t_Town___init__.makK t.mg_Town sc_Town___init__ hc bk_Town___init__ (fun ts L r L' h => ?_) (fun X ct po ts L r L' h => ?_)
  · obtain ⟨_, _, _, _, rfl, _⟩ := h; rfl
  · obtain ⟨n, q, b, i, rfl, ok, hb, hi, hl, rfl, rfl⟩ := h
    obtain ⟨_, gP⟩ := t.g_MOST_PLACES
    refine ws_if (eb_not (eb_val (eck ct (d_is_whole t hc) (ea_cons (nv ct 1 rfl) ea_nil) (ek_cons ev_int (ek_cons (nint ct gP) ek_nil)) (rw_int _ _ _ _)))) (fun h => ?_) (fun h => ?_)
    · rw [decide_eq_true ok.n1, decide_eq_true ok.n8] at h; cases h
    refine ws_nil ?_
    refine ws_expr (ec ct (d_check_streets t hc) (ea_cons (nv ct 2 rfl) (ea_cons (nv ct 1 rfl) ea_nil)) ⟨q.st, q.n, rfl, ok.st, ok.s12, rfl, rfl⟩) ?_
    refine wset ct 5 (t := .lst (q.wd.map tPair)) (Ev.eq (ev_ifV (eb_isN (nv ct 3 rfl)) (fun _ => (Ev.fz (ev_lst ea_nil (by decide) rfl))) (fun _ => (nv ct 3 rfl))) ?_) ?_
    · rcases hb with rfl | ⟨rfl, e⟩
      · rfl
      · rw [e]; rfl
    refine wset ct 6 (t := .lst (q.bd.map I)) (Ev.eq (ev_ifV (eb_isN (nv ct 4 rfl)) (fun _ => (Ev.fz (ev_lst ea_nil (by decide) rfl))) (fun _ => (nv ct 4 rfl))) ?_) ?_
    · rcases hi with rfl | ⟨rfl, e⟩
      · rfl
      · rw [e]; rfl
    refine ws_expr (ec ct (d_check_broad t hc) (ea_cons (nv ct 5 rfl) (ea_cons (nv ct 1 rfl) ea_nil)) ⟨q.wd, q.n, rfl, ok.wd, rfl, rfl⟩) ?_
    refine ws_expr (ec ct (d_check_inns t hc) (ea_cons (nv ct 6 rfl) (ea_cons (nv ct 1 rfl) ea_nil)) ⟨q.bd, q.n, rfl, ok.bd, rfl, rfl⟩) ?_
    refine wfld ct t.cl_Town t.na_Town_many (nv ct 1 rfl) (nv ct 0 rfl) hl ?_
    refine wfld ct t.cl_Town t.na_Town_lanes (ktupleL ct t.f_tuple (ea_cons (nv ct 2 rfl) ea_nil) (.inl rfl)) (nv ct 0 rfl) updS_same ?_
    refine wfld ct t.cl_Town t.na_Town_wides (ktupleL ct t.f_tuple (ea_cons (Ev.fz (ksortP ct t.f_sorted (ea_cons (nv ct 5 rfl) ea_nil) (.inl rfl))) ea_nil) (.inl rfl)) (nv ct 0 rfl) updS_same ?_
    refine wfld ct t.cl_Town t.na_Town_beds (ktupleL ct t.f_tuple (ea_cons (Ev.fz (ksortI ct t.f_sorted (ea_cons (nv ct 6 rfl) ea_nil) (.inl rfl))) ea_nil) (.inl rfl)) (nv ct 0 rfl) updS_same ?_
    refine ws_nil ?_
    exact exit_upd hl (by rw [updS_updS, updS_updS, updS_updS]; rfl)
theorem d_Town_streets (t : Txt K mg) (hc : Calm0 CX) : MetT CX P w K mg base 1 (aT K) "streets" ["self"] (R_streets (aT K)) := by
  refine t.t_Town_streets.met t.mg_Town sc_Town_streets hc b0_Town_streets (fun ts L r L' h => ?_) (fun X ct po ts L r L' h => ?_)
  · obtain ⟨_, rfl, _⟩ := h; rfl
  · obtain ⟨q, rfl, rfl, rfl⟩ := h
    exact ws_ret (klistT ct t.f_list (ea_cons (e_lanes ct t (nv ct 0 rfl)) ea_nil)) exit_same
theorem e_streets (ct : Ct CX P w K mg base k N sc fs X) (t : Txt K mg) (hc : Calm0 CX) (h : Ev X e ρ L (.v (tTw (aT K) T0)) L1) {apos : Pos} {pl : Sem Bool} (hj : 1 ≤ k := by decide)
    (ht : eval (.Call (.Attribute e "streets" apos) [] [] pos) X.env = (do
      let ov ← eval e X.env
      standAt apos.atName
      let (f, first) ← holding [ov] (getMethod ov "streets" pl)
      callWith pos f first (backTo pos (starEach [] X.env)) (backToKw pos (keywordEach [] X.env))) := by rfl) : Ev X (.Call (.Attribute e "streets" apos) [] [] pos) ρ L (.n (.lst (T0.st.map tLane))) L1 :=
  em0 (pl := pl) ct t.cl_Town (d_Town_streets t hc) h (.inl rfl) rfl ⟨T0, rfl, rfl, rfl⟩ hj ht
theorem d_street_of (t : Txt K mg) (hc : Calm0 CX) : DefT CX P w K mg base 3 "street_of" ["town", "number"] (R_street_of (aT K)) := by
  refine t.t_street_of.def sc_street_of hc b0_street_of (fun ts L r L' h => ?_) (fun X ct po ts L r L' h => ?_)
  · obtain ⟨_, _, _, rfl, _⟩ := h; rfl
  · obtain ⟨q, i, l, rfl, h0, hl, h12, rfl, rfl⟩ := h
    have hlt := (List.getElem?_eq_some_iff.mp hl).1
    refine ws_if (eb_not (eb_val (eck ct (d_is_whole t hc) (ea_cons (nv ct 1 rfl) ea_nil) (ek_cons ev_int (ek_cons (ev_sub (klenT ct t.f_len (ea_cons (e_lanes ct t (nv ct 0 rfl)) ea_nil)) ev_int) ek_nil)) (rw_int _ _ _ _)))) (fun h => ?_) (fun h => ?_)
    · rw [decide_eq_true h0, List.length_map, decide_eq_true (by omega)] at h; cases h
    refine ws_nil ?_
    refine ws_ret (ev_ixT (e_lanes ct t (nv ct 0 rfl)) (nv ct 1 rfl) ?_) exit_same
    exact atI_map h0 hl
theorem d_turns_on (t : Txt K mg) (hc : Calm0 CX) : DefT CX P w K mg base 4 "turns_on" ["town", "number", "day"] (R_turns_on (aT K)) := by
  refine t.t_turns_on.def sc_turns_on hc b0_turns_on (fun ts L r L' h => ?_) (fun X ct po ts L r L' h => ?_)
  · obtain ⟨_, _, _, _, rfl, _⟩ := h; rfl
  · obtain ⟨q, i, l, d, rfl, h0, hl, h12, hr, rfl, rfl⟩ := h
    refine ws_asg (ev_cutT (ec ct (d_street_of t hc) (ea_cons (nv ct 0 rfl) (ea_cons (nv ct 1 rfl) ea_nil)) ⟨q, i, l, rfl, h0, hl, h12, rfl, rfl⟩) (eo_some ev_int) eo_none (fun h => absurd h.1 (by show ¬ ((2 : Nat) = 0); decide))) (tg_tup (ts := [I l.r, I l.n]) ct (tgs_cons (tn ct 3) (tgs_cons (tn ct 4) tgs_nil)) rfl) ?_
    exact ws_ret (ev_eqI (ev_mod (ev_sub (nv ct 2 rfl) (nv ct 4 rfl)) (nv ct 3 rfl) hr) ev_int) exit_same
end

section
variable {CX : CXT} {P : Program} {w : World} {K : PySem.W.Frag} {mg : Str → Option Value} {base : Heap}
variable {N : List Str} {sc : Scope} {fs : Str → Bool} {X : Cx} {k : Nat} {e : Expr} {ρ : TEnv} {L L1 : Store} {pos : Pos} {T0 : Tw}
theorem d_Town_count (t : Txt K mg) (hc : Calm0 CX) : MetT CX P w K mg base 1 (aT K) "count" ["self"] (R_count (aT K)) := by
  refine t.t_Town_count.met t.mg_Town sc_Town_count hc b0_Town_count (fun ts L r L' h => ?_) (fun X ct po ts L r L' h => ?_)
  · obtain ⟨_, rfl, _⟩ := h; rfl
  · obtain ⟨q, rfl, rfl, rfl⟩ := h
    exact ws_ret (e_many ct t (nv ct 0 rfl)) exit_same
theorem e_count (ct : Ct CX P w K mg base k N sc fs X) (t : Txt K mg) (hc : Calm0 CX) (h : Ev X e ρ L (.v (tTw (aT K) T0)) L1) {apos : Pos} {pl : Sem Bool} (hj : 1 ≤ k := by decide)
    (ht : eval (.Call (.Attribute e "count" apos) [] [] pos) X.env = (do
      let ov ← eval e X.env
      standAt apos.atName
      let (f, first) ← holding [ov] (getMethod ov "count" pl)
      callWith pos f first (backTo pos (starEach [] X.env)) (backToKw pos (keywordEach [] X.env))) := by rfl) : Ev X (.Call (.Attribute e "count" apos) [] [] pos) ρ L (.v (I T0.n)) L1 :=
  em0 (pl := pl) ct t.cl_Town (d_Town_count t hc) h (.inl rfl) rfl ⟨T0, rfl, rfl, rfl⟩ hj ht
end

section
variable {CX : CXT} {P : Program} {w : World} {K : PySem.W.Frag} {mg : Str → Option Value} {base : Heap}
theorem d__law_well (t : Txt K mg) (hc : Calm0 CX) : DefT CX P w K mg base 1 "_law_well" ["_law_cell"] R_well := by
  refine t.t__law_well.def sc__law_well hc b0__law_well (fun ts L r L' h => ?_) (fun X ct po ts L r L' h => ?_)
  · obtain ⟨_, rfl, _⟩ := h; rfl
  · obtain ⟨c, rfl, rfl, rfl⟩ := h
    refine ws_ret (ev_lst (ea_cons (ev_ixL (u := I (if 10 ^ 18 ≤ c then c else 0)) (Ev.fz (ev_lst (ea_cons ev_int (ea_cons (nv ct 0 rfl) ea_nil)) (by decide) rfl)) (kintB ct t.f_int (ea_cons (ev_ge (nv ct 0 rfl) (ev_pow ev_int ev_int ⟨by decide, by decide, by decide⟩)) ea_nil)) (.inl rfl) ?_) (ea_cons (nv ct 0 rfl) (ea_cons ev_int ea_nil))) (by decide) rfl) exit_same
    show atI _ (if decide ((10 : Int) ^ 18 ≤ c) = true then 1 else 0) = _
    by_cases h : (10 : Int) ^ 18 ≤ c
    · rw [if_pos (by simpa using h), if_pos h]; rfl
    · rw [if_neg (by simpa using h), if_neg h]; rfl
theorem d__law_draw (t : Txt K mg) (hc : Calm0 CX) : DefT CX P w K mg base 1 "_law_draw" ["_law_well_here", "_law_size"] R_draw := by
  refine t.t__law_draw.def sc__law_draw hc b0__law_draw (fun ts L r L' h => ?_) (fun X ct po ts L r L' h => ?_)
  · obtain ⟨_, _, _, _, rfl, _⟩ := h; rfl
  · obtain ⟨n, v, s, b, rfl, hL, ok, hb, h0, h1, rfl, rfl⟩ := h
    have hk := ok.k
    have hkb := ok.b
    refine ws_if (eb_gt (ev_ixL (nv ct 0 rfl) ev_int (.inr (.inr ⟨_, rfl, hL⟩)) rfl) ev_int) (fun h => ?_) (fun h => ?_)
    · have ha : 0 < v.a := of_decide_eq_true h
      refine wset ct 2 (ev_mod (ev_ixL (nv ct 0 rfl) ev_int (.inr (.inr ⟨_, rfl, hL⟩)) rfl) (nv ct 1 rfl) h0) ?_
      refine ws_setix (ev_fdiv (ev_ixL (nv ct 0 rfl) ev_int (.inr (.inr ⟨_, rfl, hL⟩)) rfl) (nv ct 1 rfl) ⟨h0, by omega⟩) (nv ct 0 rfl) ev_int hL rfl ?_
      refine ws_ret (Ev.eq (nv ct 2 rfl) ?_) (exit_upd hL ?_)
      · unfold drV; rw [if_pos ha]
      · unfold drW; rw [if_pos ha]; rfl
    · have ha : ¬ 0 < v.a := of_decide_eq_false h
      refine ws_nil ?_
      refine ws_setix (ev_add (ev_ixL (nv ct 0 rfl) ev_int (.inr (.inr ⟨_, rfl, hL⟩)) rfl) ev_int) (nv ct 0 rfl) ev_int hL rfl ?_
      refine wset ct 3 (ev_mod (ev_fdivW (ev_ixL (nv ct 0 rfl) ev_int (.inr (.inr ⟨_, rfl, updS_same⟩)) rfl) ev_int (wide_div (b := 32) (by decide) (by decide) (by decide) (by decide))) ev_int (by decide)) ?_
      have s1 := Int.emod_nonneg (v.c / 2147483629) (b := 65521) (by decide)
      have s2 := Int.emod_lt_of_pos (v.c / 2147483629) (b := 65521) (by decide)
      have q1 := Int.emod_nonneg v.c (b := 2147483629) (by decide)
      have q2 := Int.emod_lt_of_pos v.c (b := 2147483629) (by decide)
      refine wset ct 4 (t := I (num1 v)) (ev_mod (ev_pow (ev_add (ev_add (ev_add (ev_mod (ev_ixL (nv ct 0 rfl) ev_int (.inr (.inr ⟨_, rfl, updS_same⟩)) rfl) ev_int (by decide)) (ev_mul ev_int (ev_ixL (nv ct 0 rfl) ev_int (.inr (.inr ⟨_, rfl, updS_same⟩)) rfl) (.inl ⟨by decide, by decide⟩))) (nv ct 3 rfl)) ev_int) ev_int ⟨by decide, by decide, by omega⟩) ev_int (by decide)) ?_
      have n1 := Int.emod_nonneg ((v.c % 2147483629 + 7919 * (v.k + 1) + v.c / 2147483629 % 65521 + 1) ^ 5) (b := 2147483647) (by decide)
      have n2 := Int.emod_lt_of_pos ((v.c % 2147483629 + 7919 * (v.k + 1) + v.c / 2147483629 % 65521 + 1) ^ 5) (b := 2147483647) (by decide)
      have m1 : 0 ≤ num1 v := n1
      have m2 : num1 v < 2147483647 := n2
      refine wset ct 4 (t := I (num2 v)) (ev_mod (ev_mul (nv ct 4 rfl) (ev_add (ev_add (ev_fdiv (nv ct 4 rfl) ev_int ⟨by decide, by decide⟩) ev_int) (ev_ixL (nv ct 0 rfl) ev_int (.inr (.inr ⟨_, rfl, updS_same⟩)) rfl)) (.inl ⟨by omega, by omega⟩)) ev_int (by decide)) ?_
      have p1 : 0 ≤ num2 v := Int.emod_nonneg _ (by decide)
      have p2 : num2 v < 2147483629 := Int.emod_lt_of_pos _ (by decide)
      refine ws_ret (Ev.eq (ev_mod (ev_mod (ev_mul (nv ct 4 rfl) (ev_add (ev_fdiv (nv ct 4 rfl) ev_int ⟨by decide, by decide⟩) ev_int) (.inl ⟨by omega, by omega⟩)) ev_int (by decide)) (nv ct 1 rfl) h0) ?_) (exit_upd hL ?_)
      · unfold drV; rw [if_neg ha]; rfl
      · unfold drW; rw [if_neg ha]; rfl
theorem d__law_one (t : Txt K mg) (hc : Calm0 CX) : DefT CX P w K mg base 2 "_law_one" ["_law_well_here", "_law_some"] R_one := by
  refine t.t__law_one.def sc__law_one hc b0__law_one (fun ts L r L' h => ?_) (fun X ct po ts L r L' h => ?_)
  · obtain ⟨_, _, _, _, rfl, _⟩ := h; rfl
  · obtain ⟨n, v, xs, b, rfl, hL, ok, hb, h0, h1, rfl, rfl⟩ := h
    have hl := one_lt (w := v) h0
    refine ws_ret (ev_ixL (nv ct 1 rfl) (ec ct (d__law_draw t hc) (ea_cons (nv ct 0 rfl) (ea_cons (klen ct t.f_len (ea_cons (nv ct 1 rfl) ea_nil) (.inl rfl)) ea_nil)) ⟨n, v, xs.length, b, rfl, hL, ok, hb, by omega, by omega, rfl, rfl⟩) (.inl rfl) ?_) (exit_upd hL rfl)
    have h2 := drV_ge (w := v) (s := (xs.length : Int)) (by omega)
    have := atI_map (f := id) (l := xs) (i := drV v xs.length) h2 (List.getElem?_eq_getElem hl)
    rw [List.map_id] at this
    rw [this]
    unfold oneV
    rw [List.getD_eq_getElem?_getD, List.getElem?_eq_getElem hl]; rfl
theorem d__law_streets (t : Txt K mg) (hc : Calm0 CX) : DefT CX P w K mg base 3 "_law_streets" ["_law_well_here", "_law_n", "_law_most", "_law_rhythms", "_law_at_once"] R_sts := by
  refine t.t__law_streets.def sc__law_streets hc b0__law_streets (fun ts L r L' h => ?_) (fun X ct po ts L r L' h => ?_)
  · obtain ⟨_, _, _, _, _, _, _, rfl, _⟩ := h; rfl
  · obtain ⟨n, v, b, m, most, rh, once, rfl, hL, ok, hb, m1, m8, o0, o12, hr, rfl, rfl⟩ := h
    refine wsetC ct 5 (ev_lst ea_nil (by decide) rfl) fun c hcl => ?_
    have hnc : n ≠ c := ne_of_live hL hcl
    refine wset ct 6 (ec ct (d__law_draw t hc) (ea_cons (nv ct 0 rfl) (ea_cons ev_int ea_nil)) ⟨n, v, 60, b, rfl, by rw [updS_ne hnc]; exact hL, ok, by omega, by decide, by decide, rfl, rfl⟩) ?_
    have ok1 := drW_ok ok (s := 60) (by decide)
    have ok2 := drW_ok ok1 (s := most + 1) (by omega)
    have hcnt := stsN_le (m := m) (w := v) o0
    have d1 := drV_ge (w := drW v 60) (s := most + 1) (by omega)
    have d2 := drV_lt (w := drW v 60) (s := most + 1) (by omega)
    have hj : drV (drW v 60) (most + 1) * (if decide (1 < m) = true then 1 else 0) ≤ 12 ∧ 0 ≤ drV (drW v 60) (most + 1) * (if decide (1 < m) = true then 1 else 0) := by
      split <;> constructor <;> omega
    refine ws_for ct po (kr1 ct t.f_range (ea_cons (ev_mul (ec ct (d__law_draw t hc) (ea_cons (nv ct 0 rfl) (ea_cons (ev_add (nv ct 2 rfl) ev_int) ea_nil)) ⟨n, drW v 60, most + 1, b + 1, rfl, updS_same, ok1, by omega, by omega, by omega, rfl, rfl⟩) (kintB ct t.f_int (ea_cons (ev_gt (nv ct 1 rfl) ev_int) ea_nil)) (.inl ⟨by omega, by omega⟩)) ea_nil) (by omega) (by omega))
      (fun i ρ L1 => L1 = updS (updS L c (some (.lst ((lanesF m rh once (drV v 60) (drW (drW v 60) (most + 1)) i).1.map tLane)))) n (some (tW (lanesF m rh once (drV v 60) (drW (drW v 60) (most + 1)) i).2)) ∧
        ∃ a1 a2 a3 a4 a5 a6, ρ = [some (.cel n), some (I m), some (I most), some (.lst (rh.map I)), some (B once), some (.cel c), some (I (drV v 60)), a1, a2, a3, a4, a5, a6]) ⟨by rw [updS_updS]; rfl, _, _, _, _, _, _, rfl⟩ (fun i x ρ' L1 hx hw => ?_) (fun ρ' L1 hw => ?_)
    · obtain ⟨rfl, a1, a2, a3, a4, a5, a6, rfl⟩ := hw
      obtain ⟨hi, rfl⟩ := rangeT_get' hx
      have h2m : 2 ≤ m := by
        rcases Int.lt_or_le 1 m with h | h
        · omega
        · rw [if_neg (by simp; omega)] at hi; omega
      obtain ⟨l1, l2, l3⟩ := lanesF_ok (once := once) (base := drV v 60) h2m hr ok2 i
      have hi12 : i < 12 := by omega
      generalize hp : lanesF m rh once (drV v 60) (drW (drW v 60) (most + 1)) i = p at *
      have k1 := drW_ok l3 (s := m) (by omega)
      have k2 := drW_ok k1 (s := m - 1) (by omega)
      have hr0 := hr.1
      have hr6 := hr.2.1
      have k3 := drW_ok k2 (s := (rh.length : Int)) (by omega)
      have k4 := drW_ok k3 (s := (fars.length : Int)) (by decide)
      refine ⟨_, _, (tn ct 7), ?_⟩
      refine wset ct 8 (ev_add ev_int (ec ct (d__law_draw t hc) (ea_cons (nv ct 0 rfl) (ea_cons (nv ct 1 rfl) ea_nil)) ⟨n, p.2, m, _, rfl, updS_same, l3, by omega, by omega, by omega, rfl, rfl⟩)) ?_
      refine wset ct 9 (ev_add (ev_mod (ev_add (nv ct 8 rfl) (ec ct (d__law_draw t hc) (ea_cons (nv ct 0 rfl) (ea_cons (ev_sub (nv ct 1 rfl) ev_int) ea_nil)) ⟨n, _, m - 1, _, rfl, updS_same, k1, by omega, by omega, by omega, rfl, rfl⟩)) (nv ct 1 rfl) (by omega)) ev_int) ?_
      have hrI : oneV (drW (drW p.2 m) (m - 1)) (rh.map I) = I (oneI (drW (drW p.2 m) (m - 1)) rh) := oneV_I hr0
      refine wset ct 10 (Ev.eq (ec ct (d__law_one t hc) (ea_cons (nv ct 0 rfl) (ea_cons (nv ct 3 rfl) ea_nil)) ⟨n, _, rh.map I, _, rfl, updS_same, k2, by omega, by rw [List.length_map]; exact hr0, by rw [List.length_map]; omega, rfl, rfl⟩) (congrArg R.v hrI)) ?_
      refine wset ct 11 (Ev.eq (ec ct (d__law_one t hc) (ea_cons (nv ct 0 rfl) (ea_cons (Ev.fz (ev_lst (ea_cons ev_int (ea_cons ev_int (ea_cons ev_int (ea_cons (ev_neg ev_int) (ea_cons ev_int (ea_cons (ev_neg (ev_pow ev_int ev_int ⟨by decide, by decide, by decide⟩)) ea_nil)))))) (by decide) rfl)) ea_nil)) ⟨n, drW (drW (drW p.2 m) (m - 1)) ((rh.map I).length : Int), fars.map I, _, rfl, updS_same, by rw [List.length_map]; exact k3, by omega, by decide, by decide, rfl, rfl⟩) (congrArg R.v (oneV_I (by decide)))) ?_
      refine wset ct 12 (ec ct (d__law_draw t hc) (ea_cons (nv ct 0 rfl) (ea_cons ev_int ea_nil)) ⟨n, drW (drW (drW (drW p.2 m) (m - 1)) ((rh.map I).length : Int)) ((fars.map I).length : Int), 60, _, rfl, updS_same, by rw [List.length_map, List.length_map]; exact k4, by omega, by decide, by decide, rfl, rfl⟩) ?_
      rw [List.length_map, List.length_map]
      simp only [updS_updS]
      have fin : ∀ night : Int, night = (if once = true then drV v 60 else drV (drW (drW (drW (drW p.2 m) (m - 1)) (rh.length : Int)) (fars.length : Int)) 60) →
          some (tLane ⟨1 + drV p.2 m, (1 + drV p.2 m + drV (drW p.2 m) (m - 1)) % m + 1, oneI (drW (drW p.2 m) (m - 1)) rh, night + oneI (drW (drW p.2 m) (m - 1)) rh * oneI (drW (drW (drW p.2 m) (m - 1)) (rh.length : Int)) fars⟩) = some (tLane (lane1 m rh once (drV v 60) p.2).1) := fun night e => by rw [e]; rfl
      have hlt : ((p.1.map tLane).length : Nat) ≤ 100000 := by rw [List.length_map]; omega
      have hrm := hr.2.2 _ (oneI_mem (w := drW (drW p.2 m) (m - 1)) hr0)
      have hlc : ∀ y : Option T, updS (updS L c (some (T.lst (p.1.map tLane)))) n y c = some (T.lst (p.1.map tLane)) := fun y => by rw [updS_ne hnc.symm, updS_same]
      have hst : ∀ (night : Int) (_ : night = (if once = true then drV v 60 else drV (drW (drW (drW (drW p.2 m) (m - 1)) (rh.length : Int)) (fars.length : Int)) 60)),
          updS (updS (updS L c (some (T.lst (p.1.map tLane)))) n (some (tW (lane1 m rh once (drV v 60) p.2).2))) c (some (T.lst (p.1.map tLane ++ [tLane ⟨1 + drV p.2 m, (1 + drV p.2 m + drV (drW p.2 m) (m - 1)) % m + 1, oneI (drW (drW p.2 m) (m - 1)) rh, night + oneI (drW (drW p.2 m) (m - 1)) rh * oneI (drW (drW (drW p.2 m) (m - 1)) (rh.length : Int)) fars⟩]))) =
          updS (updS L c (some (.lst ((lanesF m rh once (drV v 60) (drW (drW v 60) (most + 1)) (i + 1)).1.map tLane)))) n (some (tW (lanesF m rh once (drV v 60) (drW (drW v 60) (most + 1)) (i + 1)).2)) := fun night e => by
        rw [updS_comm hnc, updS_updS]
        have e1 : (lanesF m rh once (drV v 60) (drW (drW v 60) (most + 1)) (i + 1)) = (p.1 ++ [(lane1 m rh once (drV v 60) p.2).1], (lane1 m rh once (drV v 60) p.2).2) := by rw [← hp]; rfl
        rw [e1, List.map_append]
        have e2 := Option.some.inj (fin night e)
        rw [e2]; rfl
      refine ws_if (eb_val (nv ct 4 rfl)) (fun h => ?_) (fun h => ?_)
      · refine wset ct 12 (nv ct 6 rfl) (ws_nil ?_)
        refine ws_expr (eapp (nv ct 5 rfl) (ev_tup (ea_cons (nv ct 8 rfl) (ea_cons (nv ct 9 rfl) (ea_cons (nv ct 10 rfl) (ea_cons (ev_add (nv ct 12 rfl) (ev_mul (nv ct 10 rfl) (nv ct 11 rfl) (.inl ⟨by omega, by omega⟩))) ea_nil)))) (by decide) rfl) (hlc _) (hlc _) hlt) ?_
        exact ws_nil ⟨hst _ (by rw [if_pos h]), _, _, _, _, _, _, rfl⟩
      · refine ws_nil ?_
        refine ws_expr (eapp (nv ct 5 rfl) (ev_tup (ea_cons (nv ct 8 rfl) (ea_cons (nv ct 9 rfl) (ea_cons (nv ct 10 rfl) (ea_cons (ev_add (nv ct 12 rfl) (ev_mul (nv ct 10 rfl) (nv ct 11 rfl) (.inl ⟨by omega, by omega⟩))) ea_nil)))) (by decide) rfl) (hlc _) (hlc _) hlt) ?_
        exact ws_nil ⟨hst _ (by rw [if_neg (by rw [h]; decide)]), _, _, _, _, _, _, rfl⟩
    · obtain ⟨rfl, a1, a2, a3, a4, a5, a6, rfl⟩ := hw
      refine ws_ret (nv ct 5 rfl) (exit_cellU hL hcl ?_)
      rw [len_range]; rfl
theorem d__law_parts (t : Txt K mg) (hc : Calm0 CX) : DefT CX P w K mg base 4 "_law_parts" ["_law_well_here", "_law_n", "_law_most", "_law_rhythms"] R_parts := by
  refine t.t__law_parts.def sc__law_parts hc b0__law_parts (fun ts L r L' h => ?_) (fun X ct po ts L r L' h => ?_)
  · obtain ⟨_, _, _, _, _, _, rfl, _⟩ := h; rfl
  · obtain ⟨n, v, b, m, most, rh, rfl, hL, ok, hb, m1, m8, o0, o12, hr, rfl, rfl⟩ := h
    have ok1 := drW_ok ok (s := 4) (by decide)
    obtain ⟨_, _, ok2⟩ := stsF_ok (m := m) (most := most) (rh := rh) (once := decide (0 < drV v 4)) m1 o0 o12 hr ok1
    refine wset ct 4 (Ev.fz (ec ct (d__law_streets t hc) (ea_cons (nv ct 0 rfl) (ea_cons (nv ct 1 rfl) (ea_cons (nv ct 2 rfl) (ea_cons (nv ct 3 rfl) (ea_cons (ev_gt (ec ct (d__law_draw t hc) (ea_cons (nv ct 0 rfl) (ea_cons ev_int ea_nil)) ⟨n, v, 4, b, rfl, hL, ok, by omega, by decide, by decide, rfl, rfl⟩) ev_int) ea_nil)))))
      ⟨n, drW v 4, b + 1, m, most, rh, decide (0 < drV v 4), rfl, updS_same, ok1, by omega, m1, m8, o0, o12, hr, rfl, rfl⟩)) ?_
    rw [updS_updS]
    refine wset ct 5 (Ev.fz (ev_lst ea_nil (by decide) rfl)) ?_
    generalize hq : stsF m most rh (decide (0 < drV v 4)) (drW v 4) = q at *
    refine ws_for ct po (ei_eq (kr2 ct t.f_range (ea_cons ev_int (ea_cons (ev_add (nv ct 1 rfl) ev_int) ea_nil)) (by omega) (by omega) (by omega) (by omega)) (by rw [show (m + 1 - 2) = m - 1 by omega]))
      (fun i ρ L1 => L1 = updS L n (some (tW q.2)) ∧ ∃ a1 a2 a3 a4 a5 a6 a7, ρ = [some (.cel n), some (I m), some (I most), some (.lst (rh.map I)), some (.lst (q.1.map tLane)), some (.lst ((pairsTo i).map tPair)), a1, a2, a3, a4, a5, a6, a7]) ⟨rfl, _, _, _, _, _, _, _, rfl⟩ (fun i x ρ' L1 hx hw => ?_) (fun ρ' L1 hw => ?_)
    · obtain ⟨rfl, a1, a2, a3, a4, a5, a6, a7, rfl⟩ := hw
      obtain ⟨hi, rfl⟩ := rangeT_get' hx
      refine ⟨_, _, (tn ct 6), ?_⟩
      have hpl := pairsTo_len (m := i) (by omega)
      refine wset ct 5 (Ev.fz (ev_cat (nv ct 5 rfl) (Ev.fz (elc0 (own := [("_law_p", 7)]) (xs := rangeT 1 (i + 1)) (f := I) ct (by decide +kernel) (ei_eq (kr2 ct t.f_range (ea_cons ev_int (ea_cons (nv ct 6 rfl) ea_nil)) (by omega) (by omega) (by omega) (by omega)) (by rw [show ((2 : Int) + (i : Int) - 1).toNat = i + 1 by omega])) (by rw [length_rangeT]; omega) (fun x2 hx2 _ c2 => (tn c2 7)) (fun x2 hx2 _ c2 => (ev_tup (ea_cons (nv c2 7 rfl) (ea_cons (nv c2 6 rfl) ea_nil)) (by decide) rfl)))) (.inl rfl) (.inl rfl) (by rw [List.length_map, List.length_map, length_rangeT]; omega))) ?_
      have e : (pairsTo i).map tPair ++ (TL.rangeT 1 (i + 1)).map (fun x2 => T.tup [I x2, I (2 + (i : Int))]) = (pairsTo (i + 1)).map tPair := by
        rw [pairsTo_succ, List.map_append, List.map_map]
        rfl
      rw [e]
      exact ws_nil ⟨rfl, _, _, _, _, _, _, _, rfl⟩
    · obtain ⟨rfl, a1, a2, a3, a4, a5, a6, a7, rfl⟩ := hw
      rw [len_range]
      have hps := pairsTo_len (m := (m - 1).toNat) (by omega)
      have ho := oneI_oftens q.2
      refine wset ct 8 (Ev.eq (ec ct (d__law_one t hc) (ea_cons (nv ct 0 rfl) (ea_cons (Ev.fz (ev_lst (ea_cons ev_int (ea_cons ev_int (ea_cons ev_int ea_nil))) (by decide) rfl)) ea_nil)) ⟨n, q.2, oftens.map I, _, rfl, updS_same, ok2, by omega, by decide, by decide, rfl, rfl⟩) (congrArg R.v (oneV_I (by decide)))) ?_
      rw [updS_updS, List.length_map]
      have ok3 := drW_ok ok2 (s := (oftens.length : Int)) (by decide)
      refine wpick (own := [("_law_pair", 10)]) (f := tPair) (xs := pairsTo (m - 1).toNat) (s := 2 * oneI q.2 oftens) (v := drW q.2 (oftens.length : Int)) ct 9 (ei_list (nv ct 5 rfl)) updS_same (by omega) (fun x hx _ _ c2 => tn c2 10) (fun i x hx Y c2 => ec_one (eb_eqI (ec c2 (d__law_draw t hc) (ea_cons (nv c2 0 rfl) (ea_cons (ev_mul ev_int (nv c2 8 rfl) (.inl ⟨by decide, by decide⟩)) ea_nil)) ⟨n, _, _, _, rfl, updS_same, drN_ok ok3 (by omega) i, ?_, by omega, by omega, rfl, rfl⟩) ev_int)) (fun x hx _ _ c2 => (nv c2 10 rfl)) ?_
      · have := (List.getElem?_eq_some_iff.mp hx).1
        omega
      rw [updS_updS]
      have ok4 := drN_ok ok3 (s := 2 * oneI q.2 oftens) (by omega) (pairsTo (m - 1).toNat).length
      refine wpick (own := [("_law_place", 12)]) (f := I) (xs := rangeT 1 m.toNat) (s := oneI q.2 oftens) (v := drN (drW q.2 (oftens.length : Int)) (2 * oneI q.2 oftens) (pairsTo (m - 1).toNat).length) ct 11 (ei_eq (kr2 ct t.f_range (ea_cons ev_int (ea_cons (ev_add (nv ct 1 rfl) ev_int) ea_nil)) (by omega) (by omega) (by omega) (by omega)) (by rw [show (m + 1 - 1) = m by omega])) updS_same (by rw [length_rangeT]; omega) (fun x hx _ _ c2 => tn c2 12) (fun i x hx Y c2 => ec_one (eb_eqI (ec c2 (d__law_draw t hc) (ea_cons (nv c2 0 rfl) (ea_cons (nv c2 8 rfl) ea_nil)) ⟨n, _, _, _, rfl, updS_same, drN_ok ok4 (by omega) i, ?_, by omega, by omega, rfl, rfl⟩) ev_int)) (fun x hx _ _ c2 => (nv c2 12 rfl)) ?_
      · have := (List.getElem?_eq_some_iff.mp hx).1
        rw [length_rangeT] at this
        omega
      rw [updS_updS, length_rangeT]
      refine ws_ret (Ev.eq (ev_tup (ea_cons (nv ct 1 rfl) (ea_cons (nv ct 4 rfl) (ea_cons (nv ct 9 rfl) (ea_cons (nv ct 11 rfl) ea_nil)))) (by decide) rfl) ?_) (exit_upd hL ?_)
      · unfold partsF; rw [hq]; rfl
      · unfold partsF; rw [hq]
theorem d__law_made (t : Txt K mg) (hc : Calm0 CX) : DefT CX P w K mg base 7 "_law_made" ["_law_parts_here"] (R_made (aT K)) := by
  refine t.t__law_made.def sc__law_made hc b0__law_made (fun ts L r L' h => ?_) (fun X ct po ts L r L' h => ?_)
  · obtain ⟨_, rfl, _⟩ := h; rfl
  · obtain ⟨q, rfl, ok, rfl, rfl⟩ := h
    refine ws_ret (emk (ns := twNs) ct (m_Town t hc) (ea_cons (ev_ixT (nv ct 0 rfl) ev_int rfl) (ea_cons (Ev.fz (klistL ct t.f_list (ea_cons (ev_ixT (nv ct 0 rfl) ev_int rfl) ea_nil) (.inl rfl))) ea_nil)) (ek_cons (Ev.fz (klistL ct t.f_list (ea_cons (ev_ixT (nv ct 0 rfl) ev_int rfl) ea_nil) (.inl rfl))) (ek_cons (Ev.fz (klistL ct t.f_list (ea_cons (ev_ixT (nv ct 0 rfl) ev_int rfl) ea_nil) (.inl rfl))) ek_nil)) (fun n hn => ?_)) exit_same
    exact ⟨_, ⟨n, q, _, _, rfl, ok, .inl rfl, .inl rfl, updS_same, rfl, rfl⟩, updS_same, fun m u hm => by rw [updS_updS]; exact updS_drop hn m u hm, hn⟩
end
section
variable {P : Program} {w : World} {K : PySem.W.Frag} {mg : Str → Option Value} {base : Heap}
def g__law_well (t : Txt K mg) (xs : Xs K) := famA_well (d__law_well (P := P) (w := w) (base := base) t (calmX P w))
def g__law_draw (t : Txt K mg) (xs : Xs K) := famA_draw (d__law_draw (P := P) (w := w) (base := base) t (calmX P w))
def g__law_one (t : Txt K mg) (xs : Xs K) := famA_one (d__law_one (P := P) (w := w) (base := base) t (calmX P w))
def g__law_parts (t : Txt K mg) (xs : Xs K) := famA_parts (d__law_parts (P := P) (w := w) (base := base) t (calmX P w))
def g__law_made (t : Txt K mg) (xs : Xs K) := famA_made (d__law_made (P := P) (w := w) (base := base) t (calmX P w))
end
noncomputable section
def m__law_is_alone (e1 : Exc) : Rs Bool :=
  bdV ([(subX e1.cls "BadTown"), (subX e1.cls "NoPlace"), (subX e1.cls "NoStreet"), (subX e1.cls "BadWalk")]) fun (kinds2 : (List Bool)) =>
  bdP (kinds2.length + ([(subX e1.cls "NoHome"), (subX e1.cls "NotHome"), (subX e1.cls "Stuck"), (subX e1.cls "NotNightly")]).length ≤ 100000) <|
  bdV (kinds2 ++ [(subX e1.cls "NoHome"), (subX e1.cls "NotHome"), (subX e1.cls "Stuck"), (subX e1.cls "NotNightly")]) fun (kinds4 : (List Bool)) =>
  bdP (kinds4.length + ([(subX e1.cls "Unlike"), (subX e1.cls "NoDay"), (subX e1.cls "BadStarts"), (subX e1.cls "TooGreat")]).length ≤ 100000) <|
  bdV (kinds4 ++ [(subX e1.cls "Unlike"), (subX e1.cls "NoDay"), (subX e1.cls "BadStarts"), (subX e1.cls "TooGreat")]) fun (kinds6 : (List Bool)) =>
  .rt ((decide ((countI kinds6 true) = 1)) && ((subX e1.cls "TownError") && true))
end
noncomputable section
def m__law_told (way1 : Int) (town2 : Tw) (day3 : Int) : Rs T :=
  bdL (tryF (
    bdF (ifR (decide (way1 = 0)) (p_next_home town2 day3) (p_last_home town2 day3)) fun (r5 : Int) =>
    .rt (I r5)) (catchL owns [("TownError", fun (e6 : Exc) =>
    bdO (oif (subX e6.cls "NoHome") (obd (okO (m__law_is_alone e6)) fun r7 => (some r7)) (some false)) fun b8 =>
    bdO (oif b8 (obd (e6.fl.lookup ("pair" : Str)) fun f9 => (some f9)) (some (S ("odd" : Str)))) fun c10 =>
    .rt c10)])) fun (s11 : Unit) =>
  .bad
end
noncomputable section
def m__law_due_b1 (way1 : Int) (parts_here2 : Tw) (day3 : Int) (s6 : Unit) (y7 : Int) : Fl (Unit) T :=
  bdO (atI ([(day3 + y7), (day3 - y7)]) way1) fun x8 =>
  bdV x8 fun (here9 : Int) =>
  bdO (okO (a_is_home parts_here2.st here9)) fun r10 =>
  ifF r10 (
    .rt (I here9)) (
    .nx ())
def m__law_due (way1 : Int) (parts_here2 : Tw) (day3 : Int) : Rs T :=
  bdO (okO (a_torn parts_here2)) fun r4 =>
  bdV r4 fun (pair5 : (Option (Int × Int))) =>
  ifF (!pair5.isNone) (
    .rt ((eO (e2 I I)) pair5)) (
    bdL (forL (m__law_due_b1 way1 parts_here2 day3) (TL.rangeT 0 (61 : Int).toNat) ()) fun (s11 : Unit) =>
    .rt (eU ()))
end
noncomputable section
def m_law_b1 (parts_here13 : Tw) (town15 : Tw) (day26 : Int) (s29 : Unit) (y30 : Int) : Fl (Unit) Bool :=
  bdO (okO (m__law_told y30 town15 day26)) fun r31 =>
  bdP (RepOk (eT r31)) <|
  bdO (okO (m__law_due y30 parts_here13 day26)) fun r33 =>
  bdP (RepOk (eT r33)) <|
  ifF (!decide ((reprT (eT r31)) = (reprT (eT r33)))) (
    .rt false) (
    .nx ())
def m_law_b2 (parts_here13 : Tw) (town15 : Tw) (s20 : W3) (y21 : Int) : Fl (W3) Bool :=
  bdO (okO (m_A_draw s20 90)) fun r22 =>
  bdV r22.1 fun (near23 : Int) =>
  bdO (okO (m_A_draw r22.2 180)) fun r24 =>
  bdO (okO (m_A_one r24.2 ([0, 0, (0 - r24.1), ((10 : Int) ^ (58 : Int).toNat), (0 - ((10 : Int) ^ (59 : Int).toNat))]))) fun r25 =>
  bdV (near23 + r25.1) fun (day26 : Int) =>
  bdO (okO (p_is_home town15 day26)) fun r27 =>
  bdO (okO (a_is_home parts_here13.st day26)) fun r28 =>
  ifF (!decide (r27 = r28)) (
    .rt false) (
    bdL (forL (m_law_b1 parts_here13 town15 day26) (TL.rangeT 0 (2 : Int).toNat) ()) fun (s35 : Unit) =>
    .nx r25.2)
def m_law_b3 (s4 : Unit) (y5 : Int) : Fl (Unit) Bool :=
  bdO (okO (m_A_well y5)) fun r6 =>
  bdV r6 fun (well_here7 : W3) =>
  bdO (okO (m_A_draw well_here7 8)) fun r9 =>
  bdV (1 + r9.1) fun (n10 : Int) =>
  bdO (okO (m_A_one r9.2 ([[1, 2, 3, 4, 5, 6], [2, 4], [3, 6, 2], [1]]))) fun r11 =>
  bdO (okO (m_A_parts r11.2 n10 9 r11.1)) fun r12 =>
  bdV r12.1 fun (parts_here13 : Tw) =>
  bdO (okO (m_A_made parts_here13)) fun r14 =>
  bdV r14 fun (town15 : Tw) =>
  bdO (okO (p_turn_of town15)) fun r16 =>
  bdP (RepOk (I r16)) <|
  bdO (okO (a_whole parts_here13)) fun r18 =>
  bdP (RepOk (I (2 * r18))) <|
  ifF (!decide ((reprT (I r16)) = (reprT (I (2 * r18))))) (
    .rt false) (
    bdL (forL (m_law_b2 parts_here13 town15) (TL.rangeT 0 (6 : Int).toNat) r12.2) fun (s36 : W3) =>
    .nx ())
def m_law (script1 : (List Int)) : Rs Bool :=
  bdO (okO (a_cell_at script1 0)) fun r2 =>
  bdP (([r2]).length + (cutT script1 (some 1) (some 8)).length ≤ 100000) <|
  bdL (forL m_law_b3 ([r2] ++ (cutT script1 (some 1) (some 8))) ()) fun (s37 : Unit) =>
  .rt true
end
section
variable {P : Program} {w : World} {K : PySem.W.Frag} {mg : Str → Option Value} {base : Heap}
theorem w_is_any (t : Txt K mg) (xs : Xs K) {X : Cx} (ct : Ct (L2N.CX P w) P w K mg base 1 ["thing"] (defScope s_is_any) (fun _ => true) X) (po : PassesOwn (model X.prog X.w) X.A X.env X.xe) (L : Store) (thing1 : T) : WB X (fnF K L (fun v => ((R.v (B v)), L)) L) [defBody s_is_any] [some (eT thing1)] L (p_is_any thing1) := by
  have hc := calmX P w
  unfold p_is_any
  refine wb_bdP fun h2 => ?_
  refine wb_bdO fun b4 e_b4 => ?_
  exact wb_ret (tv_and e_b4 (kisi ct t.f_isinstance (ea_cons (nv ct 0 rfl) (ea_cons (nty ct "int" t.f_int) ea_nil)) h2 (isA_known h2 _ (by decide))) fun _ z hz => (obP_ok hz fun h3 hz => (Ev.sm (ea := B) hz (ev_bool1 (ev_not (kisi ct t.f_isinstance (ea_cons (nv ct 0 rfl) (ea_cons (nty ct "bool" t.f_bool) ea_nil)) h3 (isA_known h3 _ (by decide)))))))) exit_same
theorem g_is_any (t : Txt K mg) (xs : Xs K) : DefT (L2N.CX P w) P w K mg base 2 "is_any" ["thing"] (fun ts L r L' => ∃ (thing1 : T) (v : Bool), ts = [eT thing1] ∧ p_is_any thing1 = .rt v ∧ r = (R.v (B v)) ∧ L' = L) :=
  t.t_is_any.def sc_is_any (calmX P w) b0_is_any (fun ts L r L' h => by obtain ⟨_, _, rfl, _⟩ := h; rfl) (fun X ct po ts L r L' h => by
    obtain ⟨thing1, v, rfl, e, rfl, rfl⟩ := h
    have h := w_is_any t xs ct po L' thing1 
    rw [e] at h
    exact h.ws)
theorem w_is_whole (t : Txt K mg) (xs : Xs K) {X : Cx} (ct : Ct (L2N.CX P w) P w K mg base 3 ["thing", "least", "most"] (defScope s_is_whole) (fun _ => true) X) (po : PassesOwn (model X.prog X.w) X.A X.env X.xe) (L : Store) (thing1 : T) (least2 : Int) (most3 : Int) : WB X (fnF K L (fun v => ((R.v (B v)), L)) L) [defBody s_is_whole] [some (eT thing1), some (I least2), some (I most3)] L (p_is_whole thing1 least2 most3) := by
  have hc := calmX P w
  unfold p_is_whole
  refine wb_bdO fun r4 e_r4 => ?_
  refine wb_bdO fun b6 e_b6 => ?_
  exact wb_ret (tv_and e_b6 (ec ct (g_is_any t xs) (ea_cons (nv ct 0 rfl) ea_nil) ⟨thing1, r4, rfl, (okO_ok e_r4), rfl, rfl⟩) fun _ z hz => (obd_ok hz fun d5 e_d5 hz => (Ev.sm (ea := B) hz (ev_bool1 (ev_leleI (nv ct 1 rfl) (tv_I e_d5 (nv ct 0 rfl)) fun _ => (nv ct 2 rfl)))))) exit_same
theorem g_is_whole (t : Txt K mg) (xs : Xs K) : DefK (L2N.CX P w) P w K mg base 4 "is_whole" ["thing", "least", "most"] 1 ["least", "most"] (fun ts L r L' => ∃ (thing1 : T) (least2 : Int) (most3 : Int) (v : Bool), ts = [eT thing1, I least2, I most3] ∧ p_is_whole thing1 least2 most3 = .rt v ∧ r = (R.v (B v)) ∧ L' = L) :=
  t.t_is_whole.defK sc_is_whole (calmX P w) bk_is_whole (fun ts L r L' h => by obtain ⟨_, _, _, _, rfl, _⟩ := h; rfl) (fun X ct po ts L r L' h => by
    obtain ⟨thing1, least2, most3, v, rfl, e, rfl, rfl⟩ := h
    have h := w_is_whole t xs ct po L' thing1 least2 most3 
    rw [e] at h
    exact h.ws)
theorem w_street_of (t : Txt K mg) (xs : Xs K) {X : Cx} (ct : Ct (L2N.CX P w) P w K mg base 5 ["town", "number"] (defScope s_street_of) (fun _ => true) X) (po : PassesOwn (model X.prog X.w) X.A X.env X.xe) (L : Store) (town1 : Tw) (number2 : T) : WB X (fnF K L (fun v => ((R.v (tLane v)), L)) L) [defBody s_street_of] [some ((tTw (aT K)) town1), some (eT number2)] L (p_street_of town1 number2) := by
  have hc := calmX P w
  unfold p_street_of
  refine wb_bdO fun r3 e_r3 => ?_
  refine wb_if (eb_not (eb_val (eck ct (g_is_whole t xs) (ea_cons (nv ct 1 rfl) ea_nil) (ek_cons ev_int (ek_cons (ev_sub (tv_lenV (ea := tLane) (xs := town1.st) ct t.f_len (ea_cons (e_lanes ct t (nv ct 0 rfl)) ea_nil)) ev_int) ek_nil)) ⟨number2, 0, ((town1.st.length : Int) - 1), r3, rfl, (okO_ok e_r3), rfl, rfl⟩))) (fun _ => ?_) (fun _ => ?_)
  · exact wb_raise ct (mk_NoStreet t xs ct (ea_cons (nv ct 1 rfl) ea_nil)) rfl rfl (fun n t h => h)
  · refine wb_nil ?_
    refine wb_bdO fun d4 e_d4 => ?_
    refine wb_bdO fun x5 e_x5 => ?_
    exact wb_ret (tv_ixV (ea := tLane) e_x5 (e_lanes ct t (nv ct 0 rfl)) (tv_I e_d4 (nv ct 1 rfl))) exit_same
theorem g_street_of (t : Txt K mg) (xs : Xs K) : DefT (L2N.CX P w) P w K mg base 6 "street_of" ["town", "number"] (fun ts L r L' => ∃ (town1 : Tw) (number2 : T) (v : Lane), ts = [(tTw (aT K)) town1, eT number2] ∧ p_street_of town1 number2 = .rt v ∧ r = (R.v (tLane v)) ∧ L' = L) :=
  t.t_street_of.def sc_street_of (calmX P w) b0_street_of (fun ts L r L' h => by obtain ⟨_, _, _, rfl, _⟩ := h; rfl) (fun X ct po ts L r L' h => by
    obtain ⟨town1, number2, v, rfl, e, rfl, rfl⟩ := h
    have h := w_street_of t xs ct po L' town1 number2 
    rw [e] at h
    exact h.ws)
theorem x_street_of (t : Txt K mg) (xs : Xs K) : DefX P w K mg base 6 "street_of" ["town", "number"] (fun ts L C fl L' => ∃ (town1 : Tw) (number2 : T) (q : Exc), ts = [(tTw (aT K)) town1, eT number2] ∧ p_street_of town1 number2 = .er q ∧ C = He.ga K q.cls ∧ fl = q.fl ∧ L' = L) :=
  t.t_street_of.defX sc_street_of b0_street_of (fun ts L C fl L' h => by obtain ⟨_, _, _, rfl, _⟩ := h; rfl) (fun X ct cf po ts L C fl L' h => by
    obtain ⟨town1, number2, q, rfl, e, rfl, rfl, rfl⟩ := h
    have h := w_street_of t xs ct po L' town1 number2 
    rw [e] at h
    exact h.wx)
theorem w_turns_on (t : Txt K mg) (xs : Xs K) {X : Cx} (ct : Ct (L2N.CX P w) P w K mg base 7 ["town", "number", "day", "rhythm", "night"] (defScope s_turns_on) (fun _ => true) X) (po : PassesOwn (model X.prog X.w) X.A X.env X.xe) (L : Store) (town1 : Tw) (number2 : T) (day3 : Int) : WB X (fnF K L (fun v => ((R.v (B v)), L)) L) [defBody s_turns_on] [some ((tTw (aT K)) town1), some (eT number2), some (I day3), none, none] L (p_turns_on town1 number2 day3) := by
  have hc := calmX P w
  unfold p_turns_on
  refine wb_rais (fun r4 e_r4 => ?_) (fun q e_q kk => wy_asg (ey_cut (ey ct (x_street_of t xs) (ea_cons (nv ct 0 rfl) (ea_cons (nv ct 1 rfl) ea_nil)) ⟨town1, number2, q, rfl, e_q, rfl, rfl, rfl⟩ ⟨rfl, rfl, (fun n t h => h)⟩) (eo_some ev_int) eo_none))
  refine wb_asg (em := (e2 I I)) (L1 := L) (ev_cutT (ec ct (g_street_of t xs) (ea_cons (nv ct 0 rfl) (ea_cons (nv ct 1 rfl) ea_nil)) ⟨town1, number2, r4, rfl, e_r4, rfl, rfl⟩) (eo_some ev_int) eo_none (fun h => absurd (show HT.sIx 4 0 (some 2) = 0 ∧ HT.sIx 4 4 none = 4 from h) (by decide))) (fun q5 => (tg_tup ct (tgs_cons (tn ct 3) (tgs_cons (tn ct 4) tgs_nil)) rfl)) (fun q5 _ => ?_)
  refine wb_bdP fun h6 => ?_
  exact wb_ret (ev_eqI (ev_mod (ev_sub (nv ct 2 rfl) (nv ct 4 rfl)) (nv ct 3 rfl) h6) ev_int) exit_same
theorem g_turns_on (t : Txt K mg) (xs : Xs K) : DefT (L2N.CX P w) P w K mg base 8 "turns_on" ["town", "number", "day"] (fun ts L r L' => ∃ (town1 : Tw) (number2 : T) (day3 : Int) (v : Bool), ts = [(tTw (aT K)) town1, eT number2, I day3] ∧ p_turns_on town1 number2 day3 = .rt v ∧ r = (R.v (B v)) ∧ L' = L) :=
  t.t_turns_on.def sc_turns_on (calmX P w) b0_turns_on (fun ts L r L' h => by obtain ⟨_, _, _, _, rfl, _⟩ := h; rfl) (fun X ct po ts L r L' h => by
    obtain ⟨town1, number2, day3, v, rfl, e, rfl, rfl⟩ := h
    have h := w_turns_on t xs ct po L' town1 number2 day3 
    rw [e] at h
    exact h.ws)
theorem x_turns_on (t : Txt K mg) (xs : Xs K) : DefX P w K mg base 8 "turns_on" ["town", "number", "day"] (fun ts L C fl L' => ∃ (town1 : Tw) (number2 : T) (day3 : Int) (q : Exc), ts = [(tTw (aT K)) town1, eT number2, I day3] ∧ p_turns_on town1 number2 day3 = .er q ∧ C = He.ga K q.cls ∧ fl = q.fl ∧ L' = L) :=
  t.t_turns_on.defX sc_turns_on b0_turns_on (fun ts L C fl L' h => by obtain ⟨_, _, _, _, rfl, _⟩ := h; rfl) (fun X ct cf po ts L C fl L' h => by
    obtain ⟨town1, number2, day3, q, rfl, e, rfl, rfl, rfl⟩ := h
    have h := w_turns_on t xs ct po L' town1 number2 day3 
    rw [e] at h
    exact h.wx)
theorem w_common_part (t : Txt K mg) (xs : Xs K) {X : Cx} (ct : Ct (L2N.CX P w) P w K mg base 1 ["one", "other"] (defScope s_common_part) (fun _ => true) X) (po : PassesOwn (model X.prog X.w) X.A X.env X.xe) (L : Store) (one1 : Int) (other2 : Int) : WB X (fnF K L (fun v => ((R.v (I v)), L)) L) [defBody s_common_part] [some (I one1), some (I other2)] L (p_common_part one1 other2) := by
  have hc := calmX P w
  unfold p_common_part
  refine wb_while (cm := p_common_part_b1c) (bm := p_common_part_b1) (s0 := (one1, other2)) (fuel := fuel) po (fun (s3 : Int × Int) => [some (I s3.1), some (I s3.2)]) (fun (s3 : Int × Int) => L) (.s (.s .nil)) rfl (fun s3 z hz => (EvB.sm hz (eb_truI (nv ct 1 rfl)))) (fun s3 _ => ?_) (fun s7 => ?_)
  · unfold p_common_part_b1
    refine wb_bdP fun h4 => ?_
    refine wb_par2 (e1 := I) (e2 := I) ct 0 1 (ea_cons (nv ct 1 rfl) (ea_cons (ev_mod (nv ct 0 rfl) (nv ct 1 rfl) h4) ea_nil)) (fun one5 other6 => ?_)
    refine wb_nil ?_
    exact wb_turn (.s (.s .nil)) rfl
  · exact wb_ret (nv ct 0 rfl) exit_same
theorem g_common_part (t : Txt K mg) (xs : Xs K) : DefT (L2N.CX P w) P w K mg base 2 "common_part" ["one", "other"] (fun ts L r L' => ∃ (one1 : Int) (other2 : Int) (v : Int), ts = [I one1, I other2] ∧ p_common_part one1 other2 = .rt v ∧ r = (R.v (I v)) ∧ L' = L) :=
  t.t_common_part.def sc_common_part (calmX P w) b0_common_part (fun ts L r L' h => by obtain ⟨_, _, _, rfl, _⟩ := h; rfl) (fun X ct po ts L r L' h => by
    obtain ⟨one1, other2, v, rfl, e, rfl, rfl⟩ := h
    have h := w_common_part t xs ct po L' one1 other2 
    rw [e] at h
    exact h.ws)
theorem w_least_common (t : Txt K mg) (xs : Xs K) {X : Cx} (ct : Ct (L2N.CX P w) P w K mg base 3 ["town", "found", "street"] (defScope s_least_common) (fun _ => true) X) (po : PassesOwn (model X.prog X.w) X.A X.env X.xe) (L : Store) (town1 : Tw) : WB X (fnF K L (fun v => ((R.v (I v)), L)) L) [defBody s_least_common] [some ((tTw (aT K)) town1), none, none] L (p_least_common town1) := by
  have hc := calmX P w
  unfold p_least_common
  refine wb_set (em := I) (v := 1) (L1 := L) ct 1 ev_int (fun found2 _ => ?_)
  refine wb_for (ea := tLane) (xs := town1.st) (bm := p_least_common_b1) (s0 := found2) ct po (ei_list (Ev.fz (e_streets ct t hc (nv ct 0 rfl)))) (fun (s3 : Int) => [none, some (I s3), none]) (fun (s3 : Int) => L) (.n (.s (.n .nil))) rfl (fun s3 y4 hy4 => ⟨_, _, (tn ct 2), ?_⟩) (fun s9 => ?_)
  · unfold p_least_common_b1
    refine wb_bdP fun h5 => ?_
    refine wb_bdO fun r6 e_r6 => ?_
    refine wb_bdP fun h7 => ?_
    refine wb_set (em := I) (v := ((s3 * y4.r) / r6)) (L1 := L) ct 1 (ev_fdivW (ev_mul (nv ct 1 rfl) (ev_ixT (nv ct 2 rfl) ev_int rfl) h5) (ec ct (g_common_part t xs) (ea_cons (nv ct 1 rfl) (ea_cons (ev_ixT (nv ct 2 rfl) ev_int rfl) ea_nil)) ⟨s3, y4.r, r6, rfl, (okO_ok e_r6), rfl, rfl⟩) h7) (fun found8 _ => ?_)
    refine wb_nil ?_
    exact wb_turn (.n (.s (.n .nil))) rfl
  · exact wb_ret (nv ct 1 rfl) exit_same
theorem g_least_common (t : Txt K mg) (xs : Xs K) : DefT (L2N.CX P w) P w K mg base 4 "least_common" ["town"] (fun ts L r L' => ∃ (town1 : Tw) (v : Int), ts = [(tTw (aT K)) town1] ∧ p_least_common town1 = .rt v ∧ r = (R.v (I v)) ∧ L' = L) :=
  t.t_least_common.def sc_least_common (calmX P w) b0_least_common (fun ts L r L' h => by obtain ⟨_, _, rfl, _⟩ := h; rfl) (fun X ct po ts L r L' h => by
    obtain ⟨town1, v, rfl, e, rfl, rfl⟩ := h
    have h := w_least_common t xs ct po L' town1 
    rw [e] at h
    exact h.ws)
theorem w_turn_of (t : Txt K mg) (xs : Xs K) {X : Cx} (ct : Ct (L2N.CX P w) P w K mg base 5 ["town"] (defScope s_turn_of) (fun _ => true) X) (po : PassesOwn (model X.prog X.w) X.A X.env X.xe) (L : Store) (town1 : Tw) : WB X (fnF K L (fun v => ((R.v (I v)), L)) L) [defBody s_turn_of] [some ((tTw (aT K)) town1)] L (p_turn_of town1) := by
  have hc := calmX P w
  unfold p_turn_of
  refine wb_bdO fun r2 e_r2 => ?_
  exact wb_ret (ev_mul ev_int (ec ct (g_least_common t xs) (ea_cons (nv ct 0 rfl) ea_nil) ⟨town1, r2, rfl, (okO_ok e_r2), rfl, rfl⟩) (.inl ⟨by decide, by decide⟩)) exit_same
theorem g_turn_of (t : Txt K mg) (xs : Xs K) : DefT (L2N.CX P w) P w K mg base 6 "turn_of" ["town"] (fun ts L r L' => ∃ (town1 : Tw) (v : Int), ts = [(tTw (aT K)) town1] ∧ p_turn_of town1 = .rt v ∧ r = (R.v (I v)) ∧ L' = L) :=
  t.t_turn_of.def sc_turn_of (calmX P w) b0_turn_of (fun ts L r L' h => by obtain ⟨_, _, rfl, _⟩ := h; rfl) (fun X ct po ts L r L' h => by
    obtain ⟨town1, v, rfl, e, rfl, rfl⟩ := h
    have h := w_turn_of t xs ct po L' town1 
    rw [e] at h
    exact h.ws)
theorem w_never_both (t : Txt K mg) (xs : Xs K) {X : Cx} (ct : Ct (L2N.CX P w) P w K mg base 3 ["town", "one", "other", "here", "there"] (defScope s_never_both) (fun _ => true) X) (po : PassesOwn (model X.prog X.w) X.A X.env X.xe) (L : Store) (town1 : Tw) (one2 : Int) (other3 : Int) : WB X (fnF K L (fun v => ((R.v (B v)), L)) L) [defBody s_never_both] [some ((tTw (aT K)) town1), some (I one2), some (I other3), none, none] L (p_never_both town1 one2 other3) := by
  have hc := calmX P w
  unfold p_never_both
  refine wb_bdO fun x4 e_x4 => ?_
  refine wb_bdO fun x5 e_x5 => ?_
  refine wb_par2 (e1 := tLane) (e2 := tLane) ct 3 4 (ea_cons (tv_ix (ea := tLane) e_x4 (Ev.fz (e_streets ct t hc (nv ct 0 rfl))) (nv ct 1 rfl) (.inl rfl)) (ea_cons (tv_ix (ea := tLane) e_x5 (Ev.fz (e_streets ct t hc (nv ct 0 rfl))) (nv ct 2 rfl) (.inl rfl)) ea_nil)) (fun here6 there7 => ?_)
  refine wb_bdO fun r8 e_r8 => ?_
  refine wb_bdP fun h9 => ?_
  exact wb_ret (ev_neI (ev_mod (ev_sub (ev_ixT (nv ct 3 rfl) ev_int rfl) (ev_ixT (nv ct 4 rfl) ev_int rfl)) (ec ct (g_common_part t xs) (ea_cons (ev_ixT (nv ct 3 rfl) ev_int rfl) (ea_cons (ev_ixT (nv ct 4 rfl) ev_int rfl) ea_nil)) ⟨here6.r, there7.r, r8, rfl, (okO_ok e_r8), rfl, rfl⟩) h9) ev_int) exit_same
theorem g_never_both (t : Txt K mg) (xs : Xs K) : DefT (L2N.CX P w) P w K mg base 4 "never_both" ["town", "one", "other"] (fun ts L r L' => ∃ (town1 : Tw) (one2 : Int) (other3 : Int) (v : Bool), ts = [(tTw (aT K)) town1, I one2, I other3] ∧ p_never_both town1 one2 other3 = .rt v ∧ r = (R.v (B v)) ∧ L' = L) :=
  t.t_never_both.def sc_never_both (calmX P w) b0_never_both (fun ts L r L' h => by obtain ⟨_, _, _, _, rfl, _⟩ := h; rfl) (fun X ct po ts L r L' h => by
    obtain ⟨town1, one2, other3, v, rfl, e, rfl, rfl⟩ := h
    have h := w_never_both t xs ct po L' town1 one2 other3 
    rw [e] at h
    exact h.ws)
theorem w_torn_pair (t : Txt K mg) (xs : Xs K) {X : Cx} (ct : Ct (L2N.CX P w) P w K mg base 5 ["town", "one", "other"] (defScope s_torn_pair) (fun _ => true) X) (po : PassesOwn (model X.prog X.w) X.A X.env X.xe) (L : Store) (town1 : Tw) : WB X (fnF K L (fun v => ((R.v ((eO (e2 I I)) v)), L)) L) [defBody s_torn_pair] [some ((tTw (aT K)) town1), none, none] L (p_torn_pair town1) := by
  have hc := calmX P w
  unfold p_torn_pair
  refine wb_bdP fun h2 => ?_
  refine wb_for (ea := I) (xs := (TL.rangeT 0 (town1.st.length : Int).toNat)) (bm := (p_torn_pair_b2 town1)) (s0 := ()) ct po (kr1 ct t.f_range (ea_cons (tv_len (ea := tLane) (xs := town1.st) ct t.f_len (ea_cons (Ev.fz (e_streets ct t hc (nv ct 0 rfl))) ea_nil) (.inl rfl)) ea_nil) h2.1 h2.2) (fun (s3 : Unit) => [some ((tTw (aT K)) town1), none, none]) (fun (s3 : Unit) => L) (.s (.n (.n .nil))) rfl (fun s3 y4 hy4 => ⟨_, _, (tn ct 1), ?_⟩) (fun s9 => ?_)
  · unfold p_torn_pair_b2
    refine wb_for (ea := I) (xs := (TL.rangeT (y4 + 1) (((town1.st.length : Int) : Int) - (y4 + 1)).toNat)) (bm := (p_torn_pair_b1 town1 y4)) (s0 := ()) ct po (kr2w ct t.f_range (ea_cons (ev_add (nv ct 1 rfl) ev_int) (ea_cons (tv_len (ea := tLane) (xs := town1.st) ct t.f_len (ea_cons (Ev.fz (e_streets ct t hc (nv ct 0 rfl))) ea_nil) (.inl rfl)) ea_nil))) (fun (s5 : Unit) => [some ((tTw (aT K)) town1), some (I y4), none]) (fun (s5 : Unit) => L) (.s (.s (.n .nil))) rfl (fun s5 y6 hy6 => ⟨_, _, (tn ct 2), ?_⟩) (fun s8 => ?_)
    · unfold p_torn_pair_b1
      refine wb_bdO fun r7 e_r7 => ?_
      refine wb_if (eb_val (ec ct (g_never_both t xs) (ea_cons (nv ct 0 rfl) (ea_cons (nv ct 1 rfl) (ea_cons (nv ct 2 rfl) ea_nil))) ⟨town1, y4, y6, r7, rfl, (okO_ok e_r7), rfl, rfl⟩)) (fun _ => ?_) (fun _ => ?_)
      · exact wb_ret (tv_opt (ea := (e2 I I)) (ev_tup (ea_cons (nv ct 1 rfl) (ea_cons (nv ct 2 rfl) ea_nil)) (by decide) rfl)) exit_same
      · refine wb_nil ?_
        refine wb_nil ?_
        exact wb_turn (.s (.s (.n .nil))) rfl
    · refine wb_nil ?_
      exact wb_turn (.s (.n (.n .nil))) rfl
  · exact wb_ret (tv_none (ea := (e2 I I)) ev_non) exit_same
theorem g_torn_pair (t : Txt K mg) (xs : Xs K) : DefT (L2N.CX P w) P w K mg base 6 "torn_pair" ["town"] (fun ts L r L' => ∃ (town1 : Tw) (v : (Option (Int × Int))), ts = [(tTw (aT K)) town1] ∧ p_torn_pair town1 = .rt v ∧ r = (R.v ((eO (e2 I I)) v)) ∧ L' = L) :=
  t.t_torn_pair.def sc_torn_pair (calmX P w) b0_torn_pair (fun ts L r L' h => by obtain ⟨_, _, rfl, _⟩ := h; rfl) (fun X ct po ts L r L' h => by
    obtain ⟨town1, v, rfl, e, rfl, rfl⟩ := h
    have h := w_torn_pair t xs ct po L' town1 
    rw [e] at h
    exact h.ws)
theorem w_is_home (t : Txt K mg) (xs : Xs K) {X : Cx} (ct : Ct (L2N.CX P w) P w K mg base 9 ["town", "day", "number"] (defScope s_is_home) (fun _ => true) X) (po : PassesOwn (model X.prog X.w) X.A X.env X.xe) (L : Store) (town1 : Tw) (day2 : Int) : WB X (fnF K L (fun v => ((R.v (B v)), L)) L) [defBody s_is_home] [some ((tTw (aT K)) town1), some (I day2), none] L (p_is_home town1 day2) := by
  have hc := calmX P w
  unfold p_is_home
  refine wb_bdP fun h3 => ?_
  refine wb_bdP fun h7 => ?_
  refine wb_bdO fun l8 e_l8 => ?_
  exact wb_ret (kall (bs := l8) ct t.f_all (ea_cons (Ev.fz (LcM.ev ct (tv_mapO (own := [("number", 2)]) (ea := I) (eb := B) e_l8 ct (kr1 ct t.f_range (ea_cons (tv_len (ea := tLane) (xs := town1.st) ct t.f_len (ea_cons (Ev.fz (e_streets ct t hc (nv ct 0 rfl))) ea_nil) (.inl rfl)) ea_nil) h3.1 h3.2) h7 (fun number4 hnumber4 _ c5 => (tn c5 2)) (fun number4 hnumber4 z hz _ c5 => (obd_ok hz fun r6 e_r6 hz => (Ev.sm (ea := B) hz (ec c5 (g_turns_on t xs) (ea_cons (nv c5 0 rfl) (ea_cons (nv c5 2 rfl) (ea_cons (nv c5 1 rfl) ea_nil))) ⟨town1, (I number4), day2, r6, rfl, (okO_ok e_r6), rfl, rfl⟩))))))) ea_nil) (.inl rfl)) exit_same
theorem g_is_home (t : Txt K mg) (xs : Xs K) : DefT (L2N.CX P w) P w K mg base 10 "is_home" ["town", "day"] (fun ts L r L' => ∃ (town1 : Tw) (day2 : Int) (v : Bool), ts = [(tTw (aT K)) town1, I day2] ∧ p_is_home town1 day2 = .rt v ∧ r = (R.v (B v)) ∧ L' = L) :=
  t.t_is_home.def sc_is_home (calmX P w) b0_is_home (fun ts L r L' h => by obtain ⟨_, _, _, rfl, _⟩ := h; rfl) (fun X ct po ts L r L' h => by
    obtain ⟨town1, day2, v, rfl, e, rfl, rfl⟩ := h
    have h := w_is_home t xs ct po L' town1 day2 
    rw [e] at h
    exact h.ws)
theorem w_home (t : Txt K mg) (xs : Xs K) {X : Cx} (ct : Ct (L2N.CX P w) P w K mg base 11 ["town", "pair", "whole", "day"] (defScope s_home) (fun _ => true) X) (po : PassesOwn (model X.prog X.w) X.A X.env X.xe) (L : Store) (town1 : Tw) : WB X (fnF K L (fun v => ((R.v ((e3 S I I) v)), L)) L) [defBody s_home] [some ((tTw (aT K)) town1), none, none, none] L (p_home town1) := by
  have hc := calmX P w
  unfold p_home
  refine wb_bdO fun r2 e_r2 => ?_
  refine wb_set (em := (eO (e2 I I))) (v := r2) (L1 := L) ct 1 (ec ct (g_torn_pair t xs) (ea_cons (nv ct 0 rfl) ea_nil) ⟨town1, r2, rfl, (okO_ok e_r2), rfl, rfl⟩) (fun pair3 _ => ?_)
  refine wb_if (tb_notN (ea := (e2 I I)) (fun _ => rfl) (nv ct 1 rfl)) (fun _ => ?_) (fun _ => ?_)
  · refine wb_bdO fun o4 e_o4 => ?_
    refine wb_bdO fun o5 e_o5 => ?_
    exact wb_ret (ev_tup (ea_cons ev_str (ea_cons (ev_ixT (tv_some (ea := (e2 I I)) e_o4 (nv ct 1 rfl)) ev_int rfl) (ea_cons (ev_ixT (tv_some (ea := (e2 I I)) e_o5 (nv ct 1 rfl)) ev_int rfl) ea_nil))) (by decide) rfl) exit_same
  · refine wb_nil ?_
    refine wb_bdO fun r6 e_r6 => ?_
    refine wb_set (em := I) (v := r6) (L1 := L) ct 2 (ec ct (g_least_common t xs) (ea_cons (nv ct 0 rfl) ea_nil) ⟨town1, r6, rfl, (okO_ok e_r6), rfl, rfl⟩) (fun whole7 _ => ?_)
    refine wb_bdP fun h8 => ?_
    refine wb_bdP fun h12 => ?_
    refine wb_bdO fun l13 e_l13 => ?_
    refine wb_bdO fun x14 e_x14 => ?_
    exact wb_ret (ev_tup (ea_cons ev_str (ea_cons (tv_ix (ea := I) e_x14 (Ev.fz (LcM.ev ct (tv_lcO (own := [("day", 3)]) (ea := I) (eb := I) e_l13 ct (kr1 ct t.f_range (ea_cons (nv ct 2 rfl) ea_nil) h8.1 h8.2) h12 (fun day9 hday9 _ c10 => (tn c10 3)) (fun day9 hday9 z hz _ c10 => ec_one (obd_ok hz fun r11 e_r11 hz => (EvB.sm hz (eb_val (ec c10 (g_is_home t xs) (ea_cons (nv c10 0 rfl) (ea_cons (nv c10 3 rfl) ea_nil)) ⟨town1, day9, r11, rfl, (okO_ok e_r11), rfl, rfl⟩))))) (fun day9 hday9 z _ hz _ c10 => (Ev.sm (ea := I) hz (nv c10 3 rfl)))))) ev_int (.inl rfl)) (ea_cons (nv ct 2 rfl) ea_nil))) (by decide) rfl) exit_same
theorem g_home (t : Txt K mg) (xs : Xs K) : DefT (L2N.CX P w) P w K mg base 12 "home" ["town"] (fun ts L r L' => ∃ (town1 : Tw) (v : (Str × Int × Int)), ts = [(tTw (aT K)) town1] ∧ p_home town1 = .rt v ∧ r = (R.v ((e3 S I I) v)) ∧ L' = L) :=
  t.t_home.def sc_home (calmX P w) b0_home (fun ts L r L' h => by obtain ⟨_, _, rfl, _⟩ := h; rfl) (fun X ct po ts L r L' h => by
    obtain ⟨town1, v, rfl, e, rfl, rfl⟩ := h
    have h := w_home t xs ct po L' town1 
    rw [e] at h
    exact h.ws)
theorem w_first_and_apart (t : Txt K mg) (xs : Xs K) {X : Cx} (ct : Ct (L2N.CX P w) P w K mg base 13 ["town", "told"] (defScope s_first_and_apart) (fun _ => true) X) (po : PassesOwn (model X.prog X.w) X.A X.env X.xe) (L : Store) (town1 : Tw) : WB X (fnF K L (fun v => ((R.v ((e2 I I) v)), L)) L) [defBody s_first_and_apart] [some ((tTw (aT K)) town1), none] L (p_first_and_apart town1) := by
  have hc := calmX P w
  unfold p_first_and_apart
  refine wb_bdO fun r2 e_r2 => ?_
  refine wb_set (em := (e3 S I I)) (v := r2) (L1 := L) ct 1 (ec ct (g_home t xs) (ea_cons (nv ct 0 rfl) ea_nil) ⟨town1, r2, rfl, (okO_ok e_r2), rfl, rfl⟩) (fun told3 _ => ?_)
  refine wb_if (tb_eqS (ev_ixT (nv ct 1 rfl) ev_int rfl) ev_str) (fun _ => ?_) (fun _ => ?_)
  · exact wb_raise ct (mk_NoHome t xs ct (ea_cons (ev_cutT (nv ct 1 rfl) (eo_some ev_int) eo_none (fun h => absurd (show HT.sIx 3 0 (some 1) = 0 ∧ HT.sIx 3 3 none = 3 from h) (by decide))) ea_nil)) rfl rfl (fun n t h => h)
  · refine wb_nil ?_
    exact wb_ret (ev_cutT (nv ct 1 rfl) (eo_some ev_int) eo_none (fun h => absurd (show HT.sIx 3 0 (some 1) = 0 ∧ HT.sIx 3 3 none = 3 from h) (by decide))) exit_same
theorem g_first_and_apart (t : Txt K mg) (xs : Xs K) : DefT (L2N.CX P w) P w K mg base 14 "first_and_apart" ["town"] (fun ts L r L' => ∃ (town1 : Tw) (v : (Int × Int)), ts = [(tTw (aT K)) town1] ∧ p_first_and_apart town1 = .rt v ∧ r = (R.v ((e2 I I) v)) ∧ L' = L) :=
  t.t_first_and_apart.def sc_first_and_apart (calmX P w) b0_first_and_apart (fun ts L r L' h => by obtain ⟨_, _, rfl, _⟩ := h; rfl) (fun X ct po ts L r L' h => by
    obtain ⟨town1, v, rfl, e, rfl, rfl⟩ := h
    have h := w_first_and_apart t xs ct po L' town1 
    rw [e] at h
    exact h.ws)
theorem x_first_and_apart (t : Txt K mg) (xs : Xs K) : DefX P w K mg base 14 "first_and_apart" ["town"] (fun ts L C fl L' => ∃ (town1 : Tw) (q : Exc), ts = [(tTw (aT K)) town1] ∧ p_first_and_apart town1 = .er q ∧ C = He.ga K q.cls ∧ fl = q.fl ∧ L' = L) :=
  t.t_first_and_apart.defX sc_first_and_apart b0_first_and_apart (fun ts L C fl L' h => by obtain ⟨_, _, rfl, _⟩ := h; rfl) (fun X ct cf po ts L C fl L' h => by
    obtain ⟨town1, q, rfl, e, rfl, rfl, rfl⟩ := h
    have h := w_first_and_apart t xs ct po L' town1 
    rw [e] at h
    exact h.wx)
theorem w_next_home (t : Txt K mg) (xs : Xs K) {X : Cx} (ct : Ct (L2N.CX P w) P w K mg base 15 ["town", "day", "first", "apart"] (defScope s_next_home) (fun _ => true) X) (po : PassesOwn (model X.prog X.w) X.A X.env X.xe) (L : Store) (town1 : Tw) (day2 : Int) : WB X (fnF K L (fun v => ((R.v (I v)), L)) L) [defBody s_next_home] [some ((tTw (aT K)) town1), some (I day2), none, none] L (p_next_home town1 day2) := by
  have hc := calmX P w
  unfold p_next_home
  refine wb_rais (fun r3 e_r3 => ?_) (fun q e_q kk => wy_asg (ey ct (x_first_and_apart t xs) (ea_cons (nv ct 0 rfl) ea_nil) ⟨town1, q, rfl, e_q, rfl, rfl, rfl⟩ ⟨rfl, rfl, (fun n t h => h)⟩))
  refine wb_asg (em := (e2 I I)) (L1 := L) (ec ct (g_first_and_apart t xs) (ea_cons (nv ct 0 rfl) ea_nil) ⟨town1, r3, rfl, e_r3, rfl, rfl⟩) (fun q4 => (tg_tup ct (tgs_cons (tn ct 2) (tgs_cons (tn ct 3) tgs_nil)) rfl)) (fun q4 _ => ?_)
  refine wb_bdP fun h5 => ?_
  exact wb_ret (ev_add (nv ct 1 rfl) (ev_mod (ev_sub (nv ct 2 rfl) (nv ct 1 rfl)) (nv ct 3 rfl) h5)) exit_same
theorem g_next_home (t : Txt K mg) (xs : Xs K) : DefT (L2N.CX P w) P w K mg base 16 "next_home" ["town", "day"] (fun ts L r L' => ∃ (town1 : Tw) (day2 : Int) (v : Int), ts = [(tTw (aT K)) town1, I day2] ∧ p_next_home town1 day2 = .rt v ∧ r = (R.v (I v)) ∧ L' = L) :=
  t.t_next_home.def sc_next_home (calmX P w) b0_next_home (fun ts L r L' h => by obtain ⟨_, _, _, rfl, _⟩ := h; rfl) (fun X ct po ts L r L' h => by
    obtain ⟨town1, day2, v, rfl, e, rfl, rfl⟩ := h
    have h := w_next_home t xs ct po L' town1 day2 
    rw [e] at h
    exact h.ws)
theorem x_next_home (t : Txt K mg) (xs : Xs K) : DefX P w K mg base 16 "next_home" ["town", "day"] (fun ts L C fl L' => ∃ (town1 : Tw) (day2 : Int) (q : Exc), ts = [(tTw (aT K)) town1, I day2] ∧ p_next_home town1 day2 = .er q ∧ C = He.ga K q.cls ∧ fl = q.fl ∧ L' = L) :=
  t.t_next_home.defX sc_next_home b0_next_home (fun ts L C fl L' h => by obtain ⟨_, _, _, rfl, _⟩ := h; rfl) (fun X ct cf po ts L C fl L' h => by
    obtain ⟨town1, day2, q, rfl, e, rfl, rfl, rfl⟩ := h
    have h := w_next_home t xs ct po L' town1 day2 
    rw [e] at h
    exact h.wx)
theorem w_last_home (t : Txt K mg) (xs : Xs K) {X : Cx} (ct : Ct (L2N.CX P w) P w K mg base 15 ["town", "day", "first", "apart"] (defScope s_last_home) (fun _ => true) X) (po : PassesOwn (model X.prog X.w) X.A X.env X.xe) (L : Store) (town1 : Tw) (day2 : Int) : WB X (fnF K L (fun v => ((R.v (I v)), L)) L) [defBody s_last_home] [some ((tTw (aT K)) town1), some (I day2), none, none] L (p_last_home town1 day2) := by
  have hc := calmX P w
  unfold p_last_home
  refine wb_rais (fun r3 e_r3 => ?_) (fun q e_q kk => wy_asg (ey ct (x_first_and_apart t xs) (ea_cons (nv ct 0 rfl) ea_nil) ⟨town1, q, rfl, e_q, rfl, rfl, rfl⟩ ⟨rfl, rfl, (fun n t h => h)⟩))
  refine wb_asg (em := (e2 I I)) (L1 := L) (ec ct (g_first_and_apart t xs) (ea_cons (nv ct 0 rfl) ea_nil) ⟨town1, r3, rfl, e_r3, rfl, rfl⟩) (fun q4 => (tg_tup ct (tgs_cons (tn ct 2) (tgs_cons (tn ct 3) tgs_nil)) rfl)) (fun q4 _ => ?_)
  refine wb_bdP fun h5 => ?_
  exact wb_ret (ev_sub (nv ct 1 rfl) (ev_mod (ev_sub (nv ct 1 rfl) (nv ct 2 rfl)) (nv ct 3 rfl) h5)) exit_same
theorem g_last_home (t : Txt K mg) (xs : Xs K) : DefT (L2N.CX P w) P w K mg base 16 "last_home" ["town", "day"] (fun ts L r L' => ∃ (town1 : Tw) (day2 : Int) (v : Int), ts = [(tTw (aT K)) town1, I day2] ∧ p_last_home town1 day2 = .rt v ∧ r = (R.v (I v)) ∧ L' = L) :=
  t.t_last_home.def sc_last_home (calmX P w) b0_last_home (fun ts L r L' h => by obtain ⟨_, _, _, rfl, _⟩ := h; rfl) (fun X ct po ts L r L' h => by
    obtain ⟨town1, day2, v, rfl, e, rfl, rfl⟩ := h
    have h := w_last_home t xs ct po L' town1 day2 
    rw [e] at h
    exact h.ws)
theorem x_last_home (t : Txt K mg) (xs : Xs K) : DefX P w K mg base 16 "last_home" ["town", "day"] (fun ts L C fl L' => ∃ (town1 : Tw) (day2 : Int) (q : Exc), ts = [(tTw (aT K)) town1, I day2] ∧ p_last_home town1 day2 = .er q ∧ C = He.ga K q.cls ∧ fl = q.fl ∧ L' = L) :=
  t.t_last_home.defX sc_last_home b0_last_home (fun ts L C fl L' h => by obtain ⟨_, _, _, rfl, _⟩ := h; rfl) (fun X ct cf po ts L C fl L' h => by
    obtain ⟨town1, day2, q, rfl, e, rfl, rfl, rfl⟩ := h
    have h := w_last_home t xs ct po L' town1 day2 
    rw [e] at h
    exact h.wx)
theorem w__law_cell_at (t : Txt K mg) (xs : Xs K) {X : Cx} (ct : Ct (L2N.CX P w) P w K mg base 1 ["_law_script", "_law_k"] (defScope s__law_cell_at) (fun _ => true) X) (po : PassesOwn (model X.prog X.w) X.A X.env X.xe) (L : Store) (script1 : (List Int)) (k2 : Int) : WB X (fnF K L (fun v => ((R.v (I v)), L)) L) [defBody s__law_cell_at] [some (eScr script1), some (I k2)] L (a_cell_at script1 k2) := by
  have hc := calmX P w
  unfold a_cell_at
  refine wb_if (eb_lt (nv ct 1 rfl) (tv_len (ea := I) (xs := script1) ct t.f_len (ea_cons (nv ct 0 rfl) ea_nil) (.inr (.inl rfl)))) (fun _ => ?_) (fun _ => ?_)
  · refine wb_bdO fun x3 e_x3 => ?_
    exact wb_ret (tv_ix (ea := I) e_x3 (nv ct 0 rfl) (nv ct 1 rfl) (.inr (.inl rfl))) exit_same
  · refine wb_nil ?_
    exact wb_ret ev_int exit_same
theorem g__law_cell_at (t : Txt K mg) (xs : Xs K) : DefT (L2N.CX P w) P w K mg base 2 "_law_cell_at" ["_law_script", "_law_k"] (fun ts L r L' => ∃ (script1 : (List Int)) (k2 : Int) (v : Int), ts = [eScr script1, I k2] ∧ a_cell_at script1 k2 = .rt v ∧ r = (R.v (I v)) ∧ L' = L) :=
  t.t__law_cell_at.def sc__law_cell_at (calmX P w) b0__law_cell_at (fun ts L r L' h => by obtain ⟨_, _, _, rfl, _⟩ := h; rfl) (fun X ct po ts L r L' h => by
    obtain ⟨script1, k2, v, rfl, e, rfl, rfl⟩ := h
    have h := w__law_cell_at t xs ct po L' script1 k2 
    rw [e] at h
    exact h.ws)
theorem w__law_whole (t : Txt K mg) (xs : Xs K) {X : Cx} (ct : Ct (L2N.CX P w) P w K mg base 1 ["_law_parts_here", "_law_d", "_law_one_here"] (defScope s__law_whole) (fun _ => true) X) (po : PassesOwn (model X.prog X.w) X.A X.env X.xe) (L : Store) (parts_here1 : Tw) : WB X (fnF K L (fun v => ((R.v (I v)), L)) L) [defBody s__law_whole] [some (tParts parts_here1), none, none] L (a_whole parts_here1) := by
  have hc := calmX P w
  unfold a_whole
  refine wb_bdP fun h9 => ?_
  refine wb_bdO fun l10 e_l10 => ?_
  refine wb_bdO fun x11 e_x11 => ?_
  exact wb_ret (tv_ix (ea := I) e_x11 (Ev.fz (LcM.ev ct (tv_lcO (own := [("_law_d", 1)]) (ea := I) (eb := I) e_l10 ct (kr2w ct t.f_range (ea_cons ev_int (ea_cons ev_int ea_nil))) h9 (fun d2 hd2 _ c3 => (tn c3 1)) (fun d2 hd2 z hz _ c3 => ec_one (obP_ok hz fun h7 hz => (obd_ok hz fun l8 e_l8 hz => (EvB.sm hz (tb_eq (ea := (eL tLane)) (y := l8) (z := []) (Dt.lst dtLane) c3 (Ev.fz (LcM.ev c3 (tv_lcO (own := [("_law_one_here", 2)]) (ea := tLane) (eb := tLane) e_l8 c3 (ei_list (ev_ixT (nv c3 0 rfl) ev_int rfl)) h7 (fun one_here4 hone_here4 _ c5 => (tn c5 2)) (fun one_here4 hone_here4 z hz _ c5 => ec_one (obP_ok hz fun h6 hz => (EvB.sm hz (eb_neI (ev_mod (nv c5 1 rfl) (ev_ixT (nv c5 2 rfl) ev_int rfl) h6) ev_int)))) (fun one_here4 hone_here4 z _ hz _ c5 => (Ev.sm (ea := tLane) hz (nv c5 2 rfl)))))) (Ev.fz (ev_lst ea_nil (by decide) rfl))))))) (fun d2 hd2 z _ hz _ c3 => (Ev.sm (ea := I) hz (nv c3 1 rfl)))))) ev_int (.inl rfl)) exit_same
theorem g__law_whole (t : Txt K mg) (xs : Xs K) : DefT (L2N.CX P w) P w K mg base 2 "_law_whole" ["_law_parts_here"] (fun ts L r L' => ∃ (parts_here1 : Tw) (v : Int), ts = [tParts parts_here1] ∧ a_whole parts_here1 = .rt v ∧ r = (R.v (I v)) ∧ L' = L) :=
  t.t__law_whole.def sc__law_whole (calmX P w) b0__law_whole (fun ts L r L' h => by obtain ⟨_, _, rfl, _⟩ := h; rfl) (fun X ct po ts L r L' h => by
    obtain ⟨parts_here1, v, rfl, e, rfl, rfl⟩ := h
    have h := w__law_whole t xs ct po L' parts_here1 
    rw [e] at h
    exact h.ws)
theorem w__law_is_home (t : Txt K mg) (xs : Xs K) {X : Cx} (ct : Ct (L2N.CX P w) P w K mg base 1 ["_law_parts_here", "_law_day", "_law_one_here"] (defScope s__law_is_home) (fun _ => true) X) (po : PassesOwn (model X.prog X.w) X.A X.env X.xe) (L : Store) (t_parts_here1 : T) (parts_here1 : (List Lane)) (day2 : Int) (hb_parts_here1 : PSt t_parts_here1 parts_here1): WB X (fnF K L (fun v => ((R.v (B v)), L)) L) [defBody s__law_is_home] [some t_parts_here1, some (I day2), none] L (a_is_home parts_here1 day2) := by
  have hc := calmX P w
  unfold a_is_home
  refine wb_bdP fun h6 => ?_
  refine wb_bdO fun l7 e_l7 => ?_
  exact wb_ret (tv_eq (ea := (eL tLane)) (y := l7) (z := []) (Dt.lst dtLane) ct (Ev.fz (LcM.ev ct (tv_lcO (own := [("_law_one_here", 2)]) (ea := tLane) (eb := tLane) e_l7 ct (ei_list (tv_ps1 hb_parts_here1 (nv ct 0 rfl) ev_int)) h6 (fun one_here3 hone_here3 _ c4 => (tn c4 2)) (fun one_here3 hone_here3 z hz _ c4 => ec_one (obP_ok hz fun h5 hz => (EvB.sm hz (eb_neI (ev_mod (ev_sub (nv c4 1 rfl) (ev_ixT (nv c4 2 rfl) ev_int rfl)) (ev_ixT (nv c4 2 rfl) ev_int rfl) h5) ev_int)))) (fun one_here3 hone_here3 z _ hz _ c4 => (Ev.sm (ea := tLane) hz (nv c4 2 rfl)))))) (Ev.fz (ev_lst ea_nil (by decide) rfl))) exit_same
theorem g__law_is_home (t : Txt K mg) (xs : Xs K) : DefT (L2N.CX P w) P w K mg base 2 "_law_is_home" ["_law_parts_here", "_law_day"] (fun ts L r L' => ∃ (t_parts_here1 : T) (parts_here1 : (List Lane)) (day2 : Int) (v : Bool), ts = [t_parts_here1, I day2] ∧ PSt t_parts_here1 parts_here1 ∧ a_is_home parts_here1 day2 = .rt v ∧ r = (R.v (B v)) ∧ L' = L) :=
  t.t__law_is_home.def sc__law_is_home (calmX P w) b0__law_is_home (fun ts L r L' h => by obtain ⟨_, _, _, _, rfl, _⟩ := h; rfl) (fun X ct po ts L r L' h => by
    obtain ⟨t_parts_here1, parts_here1, day2, v, rfl, hb_parts_here1, e, rfl, rfl⟩ := h
    have h := w__law_is_home t xs ct po L' t_parts_here1 parts_here1 day2 hb_parts_here1
    rw [e] at h
    exact h.ws)
theorem w__law_torn (t : Txt K mg) (xs : Xs K) {X : Cx} (ct : Ct (L2N.CX P w) P w K mg base 3 ["_law_parts_here", "_law_i", "_law_j", "_law_two", "_law_day"] (defScope s__law_torn) (fun _ => true) X) (po : PassesOwn (model X.prog X.w) X.A X.env X.xe) (L : Store) (parts_here1 : Tw) : WB X (fnF K L (fun v => ((R.v ((eO (e2 I I)) v)), L)) L) [defBody s__law_torn] [some (tParts parts_here1), none, none, none, none] L (a_torn parts_here1) := by
  have hc := calmX P w
  unfold a_torn
  refine wb_bdP fun h2 => ?_
  refine wb_for (ea := I) (xs := (TL.rangeT 0 (parts_here1.st.length : Int).toNat)) (bm := (a_torn_b2 parts_here1)) (s0 := ()) ct po (kr1 ct t.f_range (ea_cons (tv_len (ea := tLane) (xs := parts_here1.st) ct t.f_len (ea_cons (ev_ixT (nv ct 0 rfl) ev_int rfl) ea_nil) (.inl rfl)) ea_nil) h2.1 h2.2) (fun (s3 : Unit) => [some (tParts parts_here1), none, none, none, none]) (fun (s3 : Unit) => L) (.s (.n (.n (.n (.n .nil))))) rfl (fun s3 y4 hy4 => ⟨_, _, (tn ct 1), ?_⟩) (fun s15 => ?_)
  · unfold a_torn_b2
    refine wb_for (ea := I) (xs := (TL.rangeT (y4 + 1) (((parts_here1.st.length : Int) : Int) - (y4 + 1)).toNat)) (bm := (a_torn_b1 parts_here1 y4)) (s0 := ()) ct po (kr2w ct t.f_range (ea_cons (ev_add (nv ct 1 rfl) ev_int) (ea_cons (tv_len (ea := tLane) (xs := parts_here1.st) ct t.f_len (ea_cons (ev_ixT (nv ct 0 rfl) ev_int rfl) ea_nil) (.inl rfl)) ea_nil))) (fun (s5 : Unit) => [some (tParts parts_here1), some (I y4), none, none, none]) (fun (s5 : Unit) => L) (.s (.s (.n (.n (.n .nil))))) rfl (fun s5 y6 hy6 => ⟨_, _, (tn ct 2), ?_⟩) (fun s14 => ?_)
    · unfold a_torn_b1
      refine wb_bdO fun x7 e_x7 => ?_
      refine wb_bdO fun x8 e_x8 => ?_
      refine wb_set (em := (e2 I (eL tLane))) (v := (parts_here1.n, [x7, x8])) (L1 := L) ct 3 (ev_tup (ea_cons (ev_ixT (nv ct 0 rfl) ev_int rfl) (ea_cons (Ev.fz (ev_lst (ea_cons (tv_ix (ea := tLane) e_x7 (ev_ixT (nv ct 0 rfl) ev_int rfl) (nv ct 1 rfl) (.inl rfl)) (ea_cons (tv_ix (ea := tLane) e_x8 (ev_ixT (nv ct 0 rfl) ev_int rfl) (nv ct 2 rfl) (.inl rfl)) ea_nil)) (by decide) rfl)) ea_nil)) (by decide) rfl) (fun two9 _ => ?_)
      refine wb_bdO fun l13 e_l13 => ?_
      refine wb_if (tb_eq (ea := (eL I)) (y := l13) (z := []) (Dt.lst dtI) ct (Ev.fz (LcM.ev ct (tv_lcO (own := [("_law_day", 4)]) (ea := I) (eb := I) e_l13 ct (kr1 ct t.f_range (ea_cons ev_int ea_nil) (by decide) (by decide)) (by rw [length_rangeT]; decide) (fun day10 hday10 _ c11 => (tn c11 4)) (fun day10 hday10 z hz _ c11 => ec_one (obd_ok hz fun r12 e_r12 hz => (EvB.sm hz (eb_val (ec c11 (g__law_is_home t xs) (ea_cons (nv c11 3 rfl) (ea_cons (nv c11 4 rfl) ea_nil)) ⟨((e2 I (eL tLane)) two9), two9.2, day10, r12, rfl, ⟨_, _, rfl⟩, (okO_ok e_r12), rfl, rfl⟩))))) (fun day10 hday10 z _ hz _ c11 => (Ev.sm (ea := I) hz (nv c11 4 rfl)))))) (Ev.fz (ev_lst ea_nil (by decide) rfl))) (fun _ => ?_) (fun _ => ?_)
      · exact wb_ret (tv_opt (ea := (e2 I I)) (ev_tup (ea_cons (nv ct 1 rfl) (ea_cons (nv ct 2 rfl) ea_nil)) (by decide) rfl)) exit_same
      · refine wb_nil ?_
        refine wb_nil ?_
        exact wb_turn (.s (.s (.n (.n (.n .nil))))) rfl
    · refine wb_nil ?_
      exact wb_turn (.s (.n (.n (.n (.n .nil))))) rfl
  · exact wb_ret (tv_none (ea := (e2 I I)) ev_non) exit_same
theorem g__law_torn (t : Txt K mg) (xs : Xs K) : DefT (L2N.CX P w) P w K mg base 4 "_law_torn" ["_law_parts_here"] (fun ts L r L' => ∃ (parts_here1 : Tw) (v : (Option (Int × Int))), ts = [tParts parts_here1] ∧ a_torn parts_here1 = .rt v ∧ r = (R.v ((eO (e2 I I)) v)) ∧ L' = L) :=
  t.t__law_torn.def sc__law_torn (calmX P w) b0__law_torn (fun ts L r L' h => by obtain ⟨_, _, rfl, _⟩ := h; rfl) (fun X ct po ts L r L' h => by
    obtain ⟨parts_here1, v, rfl, e, rfl, rfl⟩ := h
    have h := w__law_torn t xs ct po L' parts_here1 
    rw [e] at h
    exact h.ws)
theorem w__law_is_alone (t : Txt K mg) (xs : Xs K) {X : Cx} (ct : Cq false (L2N.CX P w) P w K mg base 1 ["_law_e", "_law_kinds"] (defScope s__law_is_alone) (fun _ => true) X) (L : Store) (e1 : Exc) (a d : Addr) (hown : e1.cls ∈ owns) (su : Su X a d (He.ga K e1.cls)) : WB X (fnF K L (fun v => ((R.v (B v)), L)) L) [defBody s__law_is_alone] [some (excT a d (He.ga K e1.cls) e1.fl), none] L (m__law_is_alone e1) := by
  unfold m__law_is_alone
  refine wb_set (em := (eL B)) (v := [(subX e1.cls "BadTown"), (subX e1.cls "NoPlace"), (subX e1.cls "NoStreet"), (subX e1.cls "BadWalk")]) (L1 := L) ct 1 (Ev.fz (ev_lst (ea_cons (tv_isX xs.xo su hown ct t.f_isinstance (ea_cons (nv ct 0 rfl) (ea_cons (ev_glob ct t.mg_BadTown rfl (by decide +kernel)) ea_nil))) (ea_cons (tv_isX xs.xo su hown ct t.f_isinstance (ea_cons (nv ct 0 rfl) (ea_cons (ev_glob ct t.mg_NoPlace rfl (by decide +kernel)) ea_nil))) (ea_cons (tv_isX xs.xo su hown ct t.f_isinstance (ea_cons (nv ct 0 rfl) (ea_cons (ev_glob ct t.mg_NoStreet rfl (by decide +kernel)) ea_nil))) (ea_cons (tv_isX xs.xo su hown ct t.f_isinstance (ea_cons (nv ct 0 rfl) (ea_cons (ev_glob ct t.mg_BadWalk rfl (by decide +kernel)) ea_nil))) ea_nil)))) (by decide) rfl)) (fun kinds2 _ => ?_)
  refine wb_bdP fun h3 => ?_
  refine wb_set (em := (eL B)) (v := (kinds2 ++ [(subX e1.cls "NoHome"), (subX e1.cls "NotHome"), (subX e1.cls "Stuck"), (subX e1.cls "NotNightly")])) (L1 := L) ct 1 (Ev.fz (tv_cat (ea := B) (xs := kinds2) (ys := [(subX e1.cls "NoHome"), (subX e1.cls "NotHome"), (subX e1.cls "Stuck"), (subX e1.cls "NotNightly")]) (nv ct 1 rfl) (Ev.fz (ev_lst (ea_cons (tv_isX xs.xo su hown ct t.f_isinstance (ea_cons (nv ct 0 rfl) (ea_cons (ev_glob ct t.mg_NoHome rfl (by decide +kernel)) ea_nil))) (ea_cons (tv_isX xs.xo su hown ct t.f_isinstance (ea_cons (nv ct 0 rfl) (ea_cons (ev_glob ct t.mg_NotHome rfl (by decide +kernel)) ea_nil))) (ea_cons (tv_isX xs.xo su hown ct t.f_isinstance (ea_cons (nv ct 0 rfl) (ea_cons (ev_glob ct t.mg_Stuck rfl (by decide +kernel)) ea_nil))) (ea_cons (tv_isX xs.xo su hown ct t.f_isinstance (ea_cons (nv ct 0 rfl) (ea_cons (ev_glob ct t.mg_NotNightly rfl (by decide +kernel)) ea_nil))) ea_nil)))) (by decide) rfl)) (.inl rfl) (.inl rfl) h3)) (fun kinds4 _ => ?_)
  refine wb_bdP fun h5 => ?_
  refine wb_set (em := (eL B)) (v := (kinds4 ++ [(subX e1.cls "Unlike"), (subX e1.cls "NoDay"), (subX e1.cls "BadStarts"), (subX e1.cls "TooGreat")])) (L1 := L) ct 1 (Ev.fz (tv_cat (ea := B) (xs := kinds4) (ys := [(subX e1.cls "Unlike"), (subX e1.cls "NoDay"), (subX e1.cls "BadStarts"), (subX e1.cls "TooGreat")]) (nv ct 1 rfl) (Ev.fz (ev_lst (ea_cons (tv_isX xs.xo su hown ct t.f_isinstance (ea_cons (nv ct 0 rfl) (ea_cons (ev_glob ct t.mg_Unlike rfl (by decide +kernel)) ea_nil))) (ea_cons (tv_isX xs.xo su hown ct t.f_isinstance (ea_cons (nv ct 0 rfl) (ea_cons (ev_glob ct t.mg_NoDay rfl (by decide +kernel)) ea_nil))) (ea_cons (tv_isX xs.xo su hown ct t.f_isinstance (ea_cons (nv ct 0 rfl) (ea_cons (ev_glob ct t.mg_BadStarts rfl (by decide +kernel)) ea_nil))) (ea_cons (tv_isX xs.xo su hown ct t.f_isinstance (ea_cons (nv ct 0 rfl) (ea_cons (ev_glob ct t.mg_TooGreat rfl (by decide +kernel)) ea_nil))) ea_nil)))) (by decide) rfl)) (.inl rfl) (.inl rfl) h5)) (fun kinds6 _ => ?_)
  exact wb_ret (ev_and (ev_eqI (tv_count (ea := B) dtB ct (nv ct 1 rfl) ev_bl) ev_int) fun _ => (ev_and (tv_isX xs.xo su hown ct t.f_isinstance (ea_cons (nv ct 0 rfl) (ea_cons (ev_glob ct t.mg_TownError rfl (by decide +kernel)) ea_nil))) fun _ => (ev_bool1 (tv_isXV xs.xo su hown ct t.f_isinstance (ea_cons (nv ct 0 rfl) (ea_cons (nty ct "ValueError" t.f_ValueError) ea_nil)))))) exit_same
theorem g__law_is_alone (t : Txt K mg) (xs : Xs K) : DefH (L2N.CX P w) P w K mg base 2 "_law_is_alone" ["_law_e"] (fun a d C ts L r L' => ∃ (e1 : Exc) (v : Bool), ts = [excT a d (He.ga K e1.cls) e1.fl] ∧ e1.cls ∈ owns ∧ C = He.ga K e1.cls ∧ m__law_is_alone e1 = .rt v ∧ r = (R.v (B v)) ∧ L' = L) :=
  t.t__law_is_alone.defH sc__law_is_alone (calmX P w) b0__law_is_alone (fun a d C ts L r L' h => by obtain ⟨_, _, rfl, _⟩ := h; rfl) (fun X a d C ct su ts L r L' h => by
    obtain ⟨e1, v, rfl, hown, rfl, e, rfl, rfl⟩ := h
    have h := w__law_is_alone t xs ct L' e1 a d hown su
    rw [e] at h
    exact h.ws)
theorem w__law_told (t : Txt K mg) (xs : Xs K) {X : Cx} (ct : Ct (L2N.CX P w) P w K mg base 17 ["_law_way", "_law_town", "_law_day", "_law_e"] (defScope s__law_told) (fun _ => true) X) (cf : Cf X) (po : PassesOwn (model X.prog X.w) X.A X.env X.xe) (L : Store) (way1 : Int) (town2 : Tw) (day3 : Int) : WB X (fnF K L (fun v => ((R.v (eT v)), L)) L) [defBody s__law_told] [some (I way1), some ((tTw (aT K)) town2), some (I day3), none] L (m__law_told way1 town2 day3) := by
  have hc := calmX P w
  unfold m__law_told
  refine wb_try (E := fun (s4 : Unit) => [none, none, none, none]) (S := fun (s4 : Unit) => L) ct cf xs.xo rfl (fun X ct cf po => ?_) ?_ (fun q r hr hq => (fun n t h => h)) (fun s11 => ?_)
  · refine wb_rais (fun r5 e_r5 => ?_) (fun q e_q kk => wy_ret (ey_ifR e_q (eb_eqI (nv ct 0 rfl) ev_int) (fun _ e_q => (ey ct (x_next_home t xs) (ea_cons (nv ct 1 rfl) (ea_cons (nv ct 2 rfl) ea_nil)) ⟨town2, day3, q, rfl, e_q, rfl, rfl, rfl⟩ ⟨rfl, rfl, ⟨Sub.refl _, rfl⟩⟩)) (fun _ e_q => (ey ct (x_last_home t xs) (ea_cons (nv ct 1 rfl) (ea_cons (nv ct 2 rfl) ea_nil)) ⟨town2, day3, q, rfl, e_q, rfl, rfl, rfl⟩ ⟨rfl, rfl, ⟨Sub.refl _, rfl⟩⟩))))
    exact wb_ret (tv_ifR (ea := fun y => .v (I y)) e_r5 (eb_eqI (nv ct 0 rfl) ev_int) (fun _ e_y => (ec ct (g_next_home t xs) (ea_cons (nv ct 1 rfl) (ea_cons (nv ct 2 rfl) ea_nil)) ⟨town2, day3, r5, rfl, e_y, rfl, rfl⟩)) (fun _ e_y => (ec ct (g_last_home t xs) (ea_cons (nv ct 1 rfl) (ea_cons (nv ct 2 rfl) ea_nil)) ⟨town2, day3, r5, rfl, e_y, rfl, rfl⟩))) exit_same
  · refine .as (i := 3) t.mg_TownError (by decide +kernel) (by intro h; cases h) rfl (by decide +kernel) (by decide +kernel) (by rintro s r L ⟨h1, h2⟩; exact ⟨h1.gone rfl, h2⟩) (fun e6 a_e6 d_e6 X hown _ ct su => ?_) ?_
    · refine wb_bdO fun b8 e_b8 => ?_
      refine wb_bdO fun c10 e_c10 => ?_
      exact wb_ret (tv_if (ea := eT) e_c10 (EvW.tst (tb_and e_b8 (eb_val (tv_isX xs.xo su hown ct t.f_isinstance (ea_cons (nv ct 3 rfl) (ea_cons (ev_glob ct t.mg_NoHome rfl (by decide +kernel)) ea_nil)))) fun _ z hz => (obd_ok hz fun r7 e_r7 hz => (EvW.sm hz (ew_and1 (eb_val (tv_callH su ct (g__law_is_alone t xs) (ea_cons (nv ct 3 rfl) ea_nil) ⟨e6, r7, rfl, hown, rfl, okO_ok e_r7, rfl, rfl⟩))))))) (fun _ z hz => (obd_ok hz fun f9 e_f9 hz => (Ev.sm (ea := eT) hz (tv_xfld e_f9 xs.xo su hown ct (nv ct 3 rfl))))) (fun _ z hz => (Ev.sm (ea := eT) hz ev_str))) exit_same
    · exact .nil
  · exact .bad
theorem g__law_told (t : Txt K mg) (xs : Xs K) : DefT (L2N.CX P w) P w K mg base 18 "_law_told" ["_law_way", "_law_town", "_law_day"] (fun ts L r L' => ∃ (way1 : Int) (town2 : Tw) (day3 : Int) (v : T), ts = [I way1, (tTw (aT K)) town2, I day3] ∧ m__law_told way1 town2 day3 = .rt v ∧ r = (R.v (eT v)) ∧ L' = L) :=
  t.t__law_told.defC sc__law_told (calmX P w) b0__law_told (fun ts L r L' h => by obtain ⟨_, _, _, _, rfl, _⟩ := h; rfl) (fun X ct cf po ts L r L' h => by
    obtain ⟨way1, town2, day3, v, rfl, e, rfl, rfl⟩ := h
    have h := w__law_told t xs ct cf po L' way1 town2 day3 
    rw [e] at h
    exact h.ws)
theorem w__law_due (t : Txt K mg) (xs : Xs K) {X : Cx} (ct : Ct (L2N.CX P w) P w K mg base 5 ["_law_way", "_law_parts_here", "_law_day", "_law_pair", "_law_k", "_law_here"] (defScope s__law_due) (fun _ => true) X) (po : PassesOwn (model X.prog X.w) X.A X.env X.xe) (L : Store) (way1 : Int) (parts_here2 : Tw) (day3 : Int) : WB X (fnF K L (fun v => ((R.v (eT v)), L)) L) [defBody s__law_due] [some (I way1), some (tParts parts_here2), some (I day3), none, none, none] L (m__law_due way1 parts_here2 day3) := by
  have hc := calmX P w
  unfold m__law_due
  refine wb_bdO fun r4 e_r4 => ?_
  refine wb_set (em := (eO (e2 I I))) (v := r4) (L1 := L) ct 3 (ec ct (g__law_torn t xs) (ea_cons (nv ct 1 rfl) ea_nil) ⟨parts_here2, r4, rfl, (okO_ok e_r4), rfl, rfl⟩) (fun pair5 _ => ?_)
  refine wb_if (tb_notN (ea := (e2 I I)) (fun _ => rfl) (nv ct 3 rfl)) (fun _ => ?_) (fun _ => ?_)
  · exact wb_ret (nv ct 3 rfl) exit_same
  · refine wb_nil ?_
    refine wb_for (ea := I) (xs := (TL.rangeT 0 (61 : Int).toNat)) (bm := (m__law_due_b1 way1 parts_here2 day3)) (s0 := ()) ct po (kr1 ct t.f_range (ea_cons ev_int ea_nil) (by decide) (by decide)) (fun (s6 : Unit) => [some (I way1), some (tParts parts_here2), some (I day3), none, none, none]) (fun (s6 : Unit) => L) (.s (.s (.s (.n (.n (.n .nil)))))) rfl (fun s6 y7 hy7 => ⟨_, _, (tn ct 4), ?_⟩) (fun s11 => ?_)
    · unfold m__law_due_b1
      refine wb_bdO fun x8 e_x8 => ?_
      refine wb_set (em := I) (v := x8) (L1 := L) ct 5 (tv_ix (ea := I) e_x8 (Ev.fz (ev_lst (ea_cons (ev_add (nv ct 2 rfl) (nv ct 4 rfl)) (ea_cons (ev_sub (nv ct 2 rfl) (nv ct 4 rfl)) ea_nil)) (by decide) rfl)) (nv ct 0 rfl) (.inl rfl)) (fun here9 _ => ?_)
      refine wb_bdO fun r10 e_r10 => ?_
      refine wb_if (eb_val (ec ct (g__law_is_home t xs) (ea_cons (nv ct 1 rfl) (ea_cons (nv ct 5 rfl) ea_nil)) ⟨(tParts parts_here2), parts_here2.st, here9, r10, rfl, (PSt.parts _), (okO_ok e_r10), rfl, rfl⟩)) (fun _ => ?_) (fun _ => ?_)
      · exact wb_ret (nv ct 5 rfl) exit_same
      · refine wb_nil ?_
        refine wb_nil ?_
        exact wb_turn (.s (.s (.s (.n (.n (.n .nil)))))) rfl
    · exact wb_ret ev_non exit_same
theorem g__law_due (t : Txt K mg) (xs : Xs K) : DefT (L2N.CX P w) P w K mg base 6 "_law_due" ["_law_way", "_law_parts_here", "_law_day"] (fun ts L r L' => ∃ (way1 : Int) (parts_here2 : Tw) (day3 : Int) (v : T), ts = [I way1, tParts parts_here2, I day3] ∧ m__law_due way1 parts_here2 day3 = .rt v ∧ r = (R.v (eT v)) ∧ L' = L) :=
  t.t__law_due.def sc__law_due (calmX P w) b0__law_due (fun ts L r L' h => by obtain ⟨_, _, _, _, rfl, _⟩ := h; rfl) (fun X ct po ts L r L' h => by
    obtain ⟨way1, parts_here2, day3, v, rfl, e, rfl, rfl⟩ := h
    have h := w__law_due t xs ct po L' way1 parts_here2 day3 
    rw [e] at h
    exact h.ws)
theorem w_law (t : Txt K mg) (xs : Xs K) {X : Cx} (ct : Ct (L2N.CX P w) P w K mg base 19 ["_law_script", "_law_cell", "_law_well_here", "_law_n", "_law_parts_here", "_law_town", "_law_k", "_law_near", "_law_day", "_law_way"] (defScope s_law) (fun _ => true) X) (po : PassesOwn (model X.prog X.w) X.A X.env X.xe) (L : Store) (script1 : (List Int)) : WB X (fnF K L (fun v => ((R.v (B v)), L)) L) [defBody s_law] [some (eScr script1), none, none, none, none, none, none, none, none, none] L (m_law script1) := by
  have hc := calmX P w
  unfold m_law
  refine wb_bdO fun r2 e_r2 => ?_
  refine wb_bdP fun h3 => ?_
  refine wb_for (ea := I) (xs := ([r2] ++ (cutT script1 (some 1) (some 8)))) (bm := m_law_b3) (s0 := ()) ct po (ei_list (Ev.fz (tv_cat (ea := I) (xs := [r2]) (ys := (cutT script1 (some 1) (some 8))) (Ev.fz (ev_lst (ea_cons (ec ct (g__law_cell_at t xs) (ea_cons (nv ct 0 rfl) (ea_cons ev_int ea_nil)) ⟨script1, 0, r2, rfl, (okO_ok e_r2), rfl, rfl⟩) ea_nil) (by decide) rfl)) (Ev.fz (tv_cut (ea := I) (xs := script1) (nv ct 0 rfl) (.inr (.inl rfl)) (eo_some ev_int) (eo_some ev_int))) (.inl rfl) (.inl rfl) h3))) (fun (s4 : Unit) => [none, none, none, none, none, none, none, none, none, none]) (fun (s4 : Unit) => L) (.n (.n (.n (.n (.n (.n (.n (.n (.n (.n .nil)))))))))) rfl (fun s4 y5 hy5 => ⟨_, _, (tn ct 1), ?_⟩) (fun s37 => ?_)
  · unfold m_law_b3
    refine wb_bdO fun r6 e_r6 => ?_
    refine wb_setC (em := tW) (v := r6) (L1 := L) ct 2 (ec ct (g__law_well t xs) (ea_cons (nv ct 1 rfl) ea_nil) ⟨y5, r6, rfl, (okO_ok e_r6), rfl, rfl⟩) (fun well_here7 _ m8 hm_m8 => ?_)
    have hL_m8 := hm_m8
    refine wb_bdO fun r9 e_r9 => ?_
    refine wb_set (em := I) (v := (1 + r9.1)) (L1 := (updS L m8 (some (tW r9.2)))) ct 3 (ev_add ev_int (ec ct (g__law_draw t xs) (ea_cons (nv ct 2 rfl) (ea_cons ev_int ea_nil)) ⟨m8, well_here7, 8, L, r9, rfl, rfl, okO_ok e_r9, rfl, rfl⟩)) (fun n10 _ => ?_)
    refine wb_bdO fun r11 e_r11 => ?_
    refine wb_bdO fun r12 e_r12 => ?_
    refine wb_set (em := tParts) (v := r12.1) (L1 := (updS L m8 (some (tW r12.2)))) ct 4 (ec ct (g__law_parts t xs) (ea_cons (nv ct 2 rfl) (ea_cons (nv ct 3 rfl) (ea_cons ev_int (ea_cons (ec ct (g__law_one t xs) (ea_cons (nv ct 2 rfl) (ea_cons (Ev.fz (ev_lst (ea_cons (Ev.fz (ev_lst (ea_cons ev_int (ea_cons ev_int (ea_cons ev_int (ea_cons ev_int (ea_cons ev_int (ea_cons ev_int ea_nil)))))) (by decide) rfl)) (ea_cons (Ev.fz (ev_lst (ea_cons ev_int (ea_cons ev_int ea_nil)) (by decide) rfl)) (ea_cons (Ev.fz (ev_lst (ea_cons ev_int (ea_cons ev_int (ea_cons ev_int ea_nil))) (by decide) rfl)) (ea_cons (Ev.fz (ev_lst (ea_cons ev_int ea_nil) (by decide) rfl)) ea_nil)))) (by decide) rfl)) ea_nil)) ⟨(List Int), (eL I), m8, r9.2, ([[1, 2, 3, 4, 5, 6], [2, 4], [3, 6, 2], [1]]), L, r11, rfl, rfl, okO_ok e_r11, rfl, rfl⟩) ea_nil)))) ⟨m8, r11.2, n10, 9, r11.1, L, r12, rfl, rfl, okO_ok e_r12, rfl, rfl⟩) (fun parts_here13 _ => ?_)
    refine wb_bdO fun r14 e_r14 => ?_
    refine wb_set (em := (tTw (aT K))) (v := r14) (L1 := (updS L m8 (some (tW r12.2)))) ct 5 (Ev.fz (ec ct (g__law_made t xs) (ea_cons (nv ct 4 rfl) ea_nil) ⟨parts_here13, r14, rfl, (okO_ok e_r14), rfl, rfl⟩)) (fun town15 _ => ?_)
    refine wb_bdO fun r16 e_r16 => ?_
    refine wb_bdP fun h17 => ?_
    refine wb_bdO fun r18 e_r18 => ?_
    refine wb_bdP fun h19 => ?_
    refine wb_if (tb_neS (tv_repr (t := I r16) h17 ct t.f_repr (ea_cons (ec ct (g_turn_of t xs) (ea_cons (nv ct 5 rfl) ea_nil) ⟨town15, r16, rfl, (okO_ok e_r16), rfl, rfl⟩) ea_nil)) (tv_repr (t := I (2 * r18)) h19 ct t.f_repr (ea_cons (ev_mul ev_int (ec ct (g__law_whole t xs) (ea_cons (nv ct 4 rfl) ea_nil) ⟨parts_here13, r18, rfl, (okO_ok e_r18), rfl, rfl⟩) (.inl ⟨by decide, by decide⟩)) ea_nil))) (fun _ => ?_) (fun _ => ?_)
    · exact wb_ret ev_bl (exit_pure (fun n t h => (updS_drop hL_m8 n t h)))
    · refine wb_nil ?_
      refine wb_for (ea := I) (xs := (TL.rangeT 0 (6 : Int).toNat)) (bm := (m_law_b2 parts_here13 town15)) (s0 := r12.2) ct po (kr1 ct t.f_range (ea_cons ev_int ea_nil) (by decide) (by decide)) (fun (s20 : W3) => [none, some (I y5), some (.cel m8), some (I n10), some (tParts parts_here13), some ((tTw (aT K)) town15), none, none, none, none]) (fun (s20 : W3) => (updS L m8 (some (tW s20)))) (.n (.s (.s (.s (.s (.s (.n (.n (.n (.n .nil)))))))))) rfl (fun s20 y21 hy21 => ⟨_, _, (tn ct 6), ?_⟩) (fun s36 => ?_)
      · unfold m_law_b2
        refine wb_bdO fun r22 e_r22 => ?_
        refine wb_set (em := I) (v := r22.1) (L1 := (updS L m8 (some (tW r22.2)))) ct 7 (ec ct (g__law_draw t xs) (ea_cons (nv ct 2 rfl) (ea_cons ev_int ea_nil)) ⟨m8, s20, 90, L, r22, rfl, rfl, okO_ok e_r22, rfl, rfl⟩) (fun near23 _ => ?_)
        refine wb_bdO fun r24 e_r24 => ?_
        refine wb_bdO fun r25 e_r25 => ?_
        refine wb_set (em := I) (v := (near23 + r25.1)) (L1 := (updS L m8 (some (tW r25.2)))) ct 8 (ev_add (nv ct 7 rfl) (ec ct (g__law_one t xs) (ea_cons (nv ct 2 rfl) (ea_cons (Ev.fz (ev_lst (ea_cons ev_int (ea_cons ev_int (ea_cons (ev_sub ev_int (ec ct (g__law_draw t xs) (ea_cons (nv ct 2 rfl) (ea_cons ev_int ea_nil)) ⟨m8, r22.2, 180, L, r24, rfl, rfl, okO_ok e_r24, rfl, rfl⟩)) (ea_cons (ev_pow ev_int ev_int ⟨by decide, by decide, by decide⟩) (ea_cons (ev_sub ev_int (ev_pow ev_int ev_int ⟨by decide, by decide, by decide⟩)) ea_nil))))) (by decide) rfl)) ea_nil)) ⟨Int, I, m8, r24.2, ([0, 0, (0 - r24.1), ((10 : Int) ^ (58 : Int).toNat), (0 - ((10 : Int) ^ (59 : Int).toNat))]), L, r25, rfl, rfl, okO_ok e_r25, rfl, rfl⟩)) (fun day26 _ => ?_)
        refine wb_bdO fun r27 e_r27 => ?_
        refine wb_bdO fun r28 e_r28 => ?_
        refine wb_if (tb_ne (ea := B) (y := r27) (z := r28) dtB ct (ec ct (g_is_home t xs) (ea_cons (nv ct 5 rfl) (ea_cons (nv ct 8 rfl) ea_nil)) ⟨town15, day26, r27, rfl, (okO_ok e_r27), rfl, rfl⟩) (ec ct (g__law_is_home t xs) (ea_cons (nv ct 4 rfl) (ea_cons (nv ct 8 rfl) ea_nil)) ⟨(tParts parts_here13), parts_here13.st, day26, r28, rfl, (PSt.parts _), (okO_ok e_r28), rfl, rfl⟩)) (fun _ => ?_) (fun _ => ?_)
        · exact wb_ret ev_bl (exit_pure (fun n t h => (updS_drop hL_m8 n t h)))
        · refine wb_nil ?_
          refine wb_for (ea := I) (xs := (TL.rangeT 0 (2 : Int).toNat)) (bm := (m_law_b1 parts_here13 town15 day26)) (s0 := ()) ct po (kr1 ct t.f_range (ea_cons ev_int ea_nil) (by decide) (by decide)) (fun (s29 : Unit) => [none, some (I y5), some (.cel m8), some (I n10), some (tParts parts_here13), some ((tTw (aT K)) town15), none, some (I near23), some (I day26), none]) (fun (s29 : Unit) => (updS L m8 (some (tW r25.2)))) (.n (.s (.s (.s (.s (.s (.n (.s (.s (.n .nil)))))))))) rfl (fun s29 y30 hy30 => ⟨_, _, (tn ct 9), ?_⟩) (fun s35 => ?_)
          · unfold m_law_b1
            refine wb_bdO fun r31 e_r31 => ?_
            refine wb_bdP fun h32 => ?_
            refine wb_bdO fun r33 e_r33 => ?_
            refine wb_bdP fun h34 => ?_
            refine wb_if (tb_neS (tv_repr (t := eT r31) h32 ct t.f_repr (ea_cons (ec ct (g__law_told t xs) (ea_cons (nv ct 9 rfl) (ea_cons (nv ct 5 rfl) (ea_cons (nv ct 8 rfl) ea_nil))) ⟨y30, town15, day26, r31, rfl, (okO_ok e_r31), rfl, rfl⟩) ea_nil)) (tv_repr (t := eT r33) h34 ct t.f_repr (ea_cons (ec ct (g__law_due t xs) (ea_cons (nv ct 9 rfl) (ea_cons (nv ct 4 rfl) (ea_cons (nv ct 8 rfl) ea_nil))) ⟨y30, parts_here13, day26, r33, rfl, (okO_ok e_r33), rfl, rfl⟩) ea_nil))) (fun _ => ?_) (fun _ => ?_)
            · exact wb_ret ev_bl (exit_pure (fun n t h => (updS_drop hL_m8 n t h)))
            · refine wb_nil ?_
              refine wb_nil ?_
              exact wb_turn (.n (.s (.s (.s (.s (.s (.n (.s (.s (.n .nil)))))))))) rfl
          · refine wb_nil ?_
            exact wb_turn (.n (.s (.s (.s (.s (.s (.n (.n (.n (.n .nil)))))))))) rfl
      · refine wb_drop hL_m8 ?_
        refine wb_nil ?_
        exact wb_turn (.n (.n (.n (.n (.n (.n (.n (.n (.n (.n .nil)))))))))) rfl
  · exact wb_ret ev_bl exit_same
end
section
theorem alone_NoHome (q : Exc) (h : q.cls = "NoHome") : m__law_is_alone q = .rt true := by
  unfold m__law_is_alone
  rw [h, bdV_eq, bdP_yes (by simp), bdV_eq, bdP_yes (by simp), bdV_eq]
  rfl
noncomputable def dayT (st : List Lane) (w d : Int) : T := match tornF st with
  | some (i, j) => (e2 I I) ((i : Int), (j : Int))
  | none => I (if w = 0 then nextD st d else lastD st d)
theorem told_ok {t : Tw} (ok : StOk t.st) {w : Int} (d : Int) : m__law_told w t d = .rt (dayT t.st w d) := by
  unfold m__law_told dayT
  cases e : tornF t.st with
  | none =>
    rw [p_next_ok ok e, p_last_ok ok e]
    by_cases hw : w = 0
    · rw [decide_eq_true hw, ifR_t, bdF_rt, tryF_rt, bdL_rt, if_pos hw]
    · rw [decide_eq_false hw, ifR_f, bdF_rt, tryF_rt, bdL_rt, if_neg hw]
  | some q =>
    obtain ⟨i, j⟩ := q
    rw [p_next_no ok e, p_last_no ok e]
    have e1 : ifR (decide (w = 0)) (.er (xHome i j) : Rs Int) (.er (xHome i j)) = .er (xHome i j) := by
      unfold ifR; split <;> rfl
    rw [e1, bdF_er, tryF_some (catchL_one (show ("NoHome" : Str) ∈ owns by decide) (show subX "NoHome" "TownError" = true by decide))]
    rw [show subX (xHome i j).cls "NoHome" = true from by show subX "NoHome" "NoHome" = true; decide, oif_t, okO_some (alone_NoHome _ rfl), obd_some, bdO_some, oif_t]
    rfl
theorem due_ok {t : Tw} (ok : StOk t.st) {w : Int} (hw : w = 0 ∨ w = 1) (d : Int) : m__law_due w t d = .rt (dayT t.st w d) := by
  have l60 := lcmL_le ok
  unfold m__law_due dayT
  rw [okO_some (a_torn_ok ok), bdO_some, bdV_eq]
  cases e : tornF t.st with
  | some q => rfl
  | none =>
    show bdL (forL (m__law_due_b1 w t d) (TL.rangeT 0 (61 : Int).toNat) ()) _ = _
    have hb : ∀ k : Nat, m__law_due_b1 w t d () (k : Int) = ifF (homeB t.st (if w = 0 then d + (k : Int) else d - (k : Int))) (.rt (I (if w = 0 then d + (k : Int) else d - (k : Int)))) (.nx ()) := fun k => by
      unfold m__law_due_b1
      rcases hw with rfl | rfl
      · rw [atI_nat (by decide) (by simp)]
        show bdO (some (d + (k : Int))) _ = _
        rw [bdO_some, bdV_eq, okO_some (a_ishome_ok ok _), bdO_some]; rfl
      · rw [atI_nat (by decide) (by simp)]
        show bdO (some (d - (k : Int))) _ = _
        rw [bdO_some, bdV_eq, okO_some (a_ishome_ok ok _), bdO_some]; rfl
    rcases hw with rfl | rfl
    · obtain ⟨n1, n2, n3, n4⟩ := nextD_first ok e d
      have es := rangeT_split (lo := 0) (n := (61 : Int).toNat) (k := (nextD t.st d - d).toNat) (by have : (61 : Int).toNat = 61 := rfl; omega)
      rw [forL_hit es (v := I (nextD t.st d)) (fun x hx => by
        have hm := mem_rangeT.mp hx
        obtain ⟨k, rfl⟩ : ∃ k : Nat, x = k := ⟨x.toNat, by omega⟩
        rw [hb k, if_pos rfl, n4 _ (by omega) (by omega)]; rfl) (by
        rw [show (0 : Int) + (((nextD t.st d - d).toNat : Nat) : Int) = (((nextD t.st d - d).toNat : Nat) : Int) by omega, hb, if_pos rfl, show d + (((nextD t.st d - d).toNat : Nat) : Int) = nextD t.st d by omega, n3]; rfl)]
      rfl
    · obtain ⟨n1, n2, n3, n4⟩ := lastD_first ok e d
      have es := rangeT_split (lo := 0) (n := (61 : Int).toNat) (k := (d - lastD t.st d).toNat) (by have : (61 : Int).toNat = 61 := rfl; omega)
      rw [forL_hit es (v := I (lastD t.st d)) (fun x hx => by
        have hm := mem_rangeT.mp hx
        obtain ⟨k, rfl⟩ : ∃ k : Nat, x = k := ⟨x.toNat, by omega⟩
        rw [hb k, if_neg (by decide), n4 _ (by omega) (by omega)]; rfl) (by
        rw [show (0 : Int) + (((d - lastD t.st d).toNat : Nat) : Int) = (((d - lastD t.st d).toNat : Nat) : Int) by omega, hb, if_neg (by decide), show d - (((d - lastD t.st d).toNat : Nat) : Int) = lastD t.st d by omega, n3]; rfl)]
      rfl
theorem dayT_rep {st : List Lane} (ok : StOk st) {w d : Int} (hd : d.natAbs < 10 ^ 70) : RepOk (dayT st w d) := by
  have l60 := lcmL_le ok
  unfold dayT
  cases e : tornF st with
  | some q =>
    obtain ⟨i, j⟩ := q
    have := torn_lt ok e
    have := ok.1
    exact repP (by omega) (by omega)
  | none =>
    have h1 := nextD_first ok e d
    have h2 := lastD_first ok e d
    refine repI ?_
    have : (10 : Nat) ^ 70 + 1000 < 10 ^ 80 := by decide
    split <;> omega
theorem way_ok {q : Tw} (ok : PartsOk q) {d : Int} (hd : d.natAbs < 10 ^ 70) {y : Int} (hy : y = 0 ∨ y = 1) : m_law_b1 q q.made d () y = .nx () := by
  have hr : RepOk (eT (dayT q.made.st y d)) := dayT_rep (st := q.st) ok.stOk hd
  have hr2 : RepOk (eT (dayT q.st y d)) := dayT_rep (st := q.st) ok.stOk hd
  unfold m_law_b1
  rw [okO_some (told_ok (t := q.made) ok.stOk d), bdO_some, bdP_yes hr, okO_some (due_ok (t := q) ok.stOk hy d), bdO_some, bdP_yes hr2]
  rw [decide_eq_true (show reprT (eT (dayT q.made.st y d)) = reprT (eT (dayT q.st y d)) from rfl)]; rfl
theorem day_ok {q : Tw} (ok : PartsOk q) {s : W3} {b : Nat} (hs : s.Ok b) (hb : b ≤ 1000) (y : Int) : ∃ s', m_law_b2 q q.made s y = .nx s' ∧ s'.Ok (b + 3) := by
  have d1 := drV_ge (w := s) (s := 90) (by decide)
  have d2 := drV_lt (w := s) (s := 90) (by decide)
  unfold m_law_b2
  rw [A_draw hs (by decide), bdO_some, bdV_eq]
  have w1 := drW_ok hs (s := 90) (by decide)
  have f1 := drV_ge (w := drW s 90) (s := 180) (by decide)
  have f2 := drV_lt (w := drW s 90) (s := 180) (by decide)
  rw [A_draw w1 (by decide), bdO_some]
  have w2 := drW_ok w1 (s := 180) (by decide)
  obtain ⟨x, w', e1, hx, w3⟩ := A_one (xs := [0, 0, 0 - drV (drW s 90) 180, (10 : Int) ^ (58 : Int).toNat, 0 - (10 : Int) ^ (59 : Int).toNat]) w2 (by simp) (by omega) (by simp)
  show ∃ s', bdO (okO (m_A_one (drW (drW s 90) 180) [0, 0, 0 - drV (drW s 90) 180, (10 : Int) ^ (58 : Int).toNat, 0 - (10 : Int) ^ (59 : Int).toNat])) _ = _ ∧ _
  rw [e1, bdO_some, bdV_eq]
  have hd : (drV s 90 + x).natAbs < 10 ^ 70 := by
    have : (10 : Int) ^ (58 : Int).toNat = 10 ^ 58 := rfl
    have : (10 : Int) ^ (59 : Int).toNat = 10 ^ 59 := rfl
    simp only [List.mem_cons, List.not_mem_nil, or_false] at hx
    rcases hx with rfl | rfl | rfl | rfl | rfl <;> omega
  rw [okO_some (p_ishome_ok (t := q.made) ok.stOk _), bdO_some, okO_some (a_ishome_ok ok.stOk _), bdO_some]
  show ∃ s', ifF (!decide (homeB q.st (drV s 90 + x) = homeB q.st (drV s 90 + x))) _ _ = _ ∧ _
  rw [decide_eq_true rfl, show (!true) = false from rfl, ifF_f, forL_unit fun z hz => ?_]
  · exact ⟨w', rfl, w3⟩
  · have hm := mem_rangeT.mp hz
    have : (2 : Int).toNat = 2 := rfl
    exact way_ok ok hd (by omega)
theorem cell_ok (y : Int) : m_law_b3 () y = .nx () := by
  unfold m_law_b3
  rw [show okO (m_A_well y) = some (well0 y) from rfl, bdO_some, bdV_eq]
  have w0 := well0_ok y
  have d1 := drV_ge (w := well0 y) (s := 8) (by decide)
  have d2 := drV_lt (w := well0 y) (s := 8) (by decide)
  rw [A_draw w0 (by decide), bdO_some, bdV_eq]
  have w1 := drW_ok w0 (s := 8) (by decide)
  obtain ⟨rh, v1, e1, hrh, w2⟩ := A_one (xs := ([[1, 2, 3, 4, 5, 6], [2, 4], [3, 6, 2], [1]] : List (List Int))) w1 (by decide) (by omega) (by decide)
  rw [e1, bdO_some]
  have hr : RhOk rh := by
    have : ∀ r ∈ ([[1, 2, 3, 4, 5, 6], [2, 4], [3, 6, 2], [1]] : List (List Int)), RhOk r := by
      unfold RhOk; decide
    exact this rh hrh
  obtain ⟨q, v2, e2, ok, hqn, w3⟩ := A_parts (n := 1 + drV (well0 y) 8) w2 (by omega) (by omega) (most := 9) (by decide) (by decide) hr
  show bdO (okO (m_A_parts v1 (1 + drV (well0 y) 8) 9 rh)) _ = _
  have l60 := lcmL_le ok.stOk
  rw [e2, bdO_some, bdV_eq, A_made ok, bdO_some, bdV_eq, okO_some (p_turn_ok (t := q.made) ok.stOk), bdO_some]
  have hrep : RepOk (I (2 * (lcmL q.st : Int))) := repI (by
    have : (1000 : Nat) < 10 ^ 80 := by decide
    omega)
  rw [show lcmL q.made.st = lcmL q.st from rfl, bdP_yes hrep, okO_some (a_whole_ok ok.stOk), bdO_some, bdP_yes hrep, decide_eq_true rfl, show (!true) = false from rfl, ifF_f]
  obtain ⟨s, e3, hs⟩ := forL_inv (ρ := Bool) (body := m_law_b2 q q.made) (xs := TL.rangeT 0 (6 : Int).toNat) (fun ys s => s.Ok (102 + 3 * ys.length)) (s := v2) w3 (fun ys x zs s e0 hs => by
    have hl : ys.length < 6 := by
      have := congrArg List.length e0
      rw [length_rangeT, List.length_append, List.length_cons] at this
      have : (6 : Int).toNat = 6 := rfl
      omega
    obtain ⟨s', e4, h4⟩ := day_ok ok hs (by omega) x
    exact ⟨s', e4, h4.mono (by rw [List.length_append, List.length_singleton]; omega)⟩)
  rw [e3]; rfl
theorem law_math (ns : List Int) (h : ns.length ≤ 63) : m_law ns = .rt true := by
  unfold m_law
  obtain ⟨c, ec⟩ := a_cell_ok (ns := ns) (k := 0) (by decide)
  have hl : (cutT ns (some 1) (some 8)).length ≤ 63 := by
    unfold cutT
    rw [List.length_take, List.length_drop]
    omega
  rw [okO_some ec, bdO_some, bdP_yes (by show 1 + _ ≤ 100000; omega), forL_unit fun y _ => cell_ok y]
  rfl
end
abbrev depth : Nat := 20
theorem law_ok {P : Program} {w : World} {K : PySem.W.Frag} {mg : Str → Option Value} {fa : Addr} (t : Txt K mg) (xs : Xs K) (hx : mg "law" = some (.ref fa)) :
    ∃ fd : FuncData, (∀ (s : Shared) (u : Value), BindsTo s fd ⟨[u], []⟩ [("_law_script", u)]) ∧ ∀ base : Heap, K.In base → base.Ns mainGlobals mg → FnT P w K mg base (L2N.CX P w) depth fa fd ["_law_script"] lawRel := by
  refine t.t_law.law hx sc_law (calmX P w) b0_law fun base _ _ X ct po ts L r L' h => ?_
  obtain ⟨ns, rfl, h63, rfl, rfl⟩ := h
  have h := w_law t xs ct po L' ns
  rw [law_math ns h63] at h
  exact h.ws
def fnD : List He.DefD := [⟨("is_any", none), "is_any", "is_any", defArgs s_is_any, defBody s_is_any, defScope s_is_any, [], []⟩,
  ⟨("is_whole", none), "is_whole", "is_whole", defArgs s_is_whole, defBody s_is_whole, defScope s_is_whole, [], []⟩,
  ⟨("is_street", none), "is_street", "is_street", defArgs s_is_street, defBody s_is_street, defScope s_is_street, [], []⟩,
  ⟨("is_pair", none), "is_pair", "is_pair", defArgs s_is_pair, defBody s_is_pair, defScope s_is_pair, [], []⟩,
  ⟨("check_streets", none), "check_streets", "check_streets", defArgs s_check_streets, defBody s_check_streets, defScope s_check_streets, [], []⟩,
  ⟨("check_broad", none), "check_broad", "check_broad", defArgs s_check_broad, defBody s_check_broad, defScope s_check_broad, [], []⟩,
  ⟨("check_inns", none), "check_inns", "check_inns", defArgs s_check_inns, defBody s_check_inns, defScope s_check_inns, [], []⟩,
  ⟨("street_of", none), "street_of", "street_of", defArgs s_street_of, defBody s_street_of, defScope s_street_of, [], []⟩,
  ⟨("turns_on", none), "turns_on", "turns_on", defArgs s_turns_on, defBody s_turns_on, defScope s_turns_on, [], []⟩,
  ⟨("common_part", none), "common_part", "common_part", defArgs s_common_part, defBody s_common_part, defScope s_common_part, [], []⟩,
  ⟨("least_common", none), "least_common", "least_common", defArgs s_least_common, defBody s_least_common, defScope s_least_common, [], []⟩,
  ⟨("turn_of", none), "turn_of", "turn_of", defArgs s_turn_of, defBody s_turn_of, defScope s_turn_of, [], []⟩,
  ⟨("never_both", none), "never_both", "never_both", defArgs s_never_both, defBody s_never_both, defScope s_never_both, [], []⟩,
  ⟨("torn_pair", none), "torn_pair", "torn_pair", defArgs s_torn_pair, defBody s_torn_pair, defScope s_torn_pair, [], []⟩,
  ⟨("is_home", none), "is_home", "is_home", defArgs s_is_home, defBody s_is_home, defScope s_is_home, [], []⟩,
  ⟨("home", none), "home", "home", defArgs s_home, defBody s_home, defScope s_home, [], []⟩,
  ⟨("first_and_apart", none), "first_and_apart", "first_and_apart", defArgs s_first_and_apart, defBody s_first_and_apart, defScope s_first_and_apart, [], []⟩,
  ⟨("next_home", none), "next_home", "next_home", defArgs s_next_home, defBody s_next_home, defScope s_next_home, [], []⟩,
  ⟨("last_home", none), "last_home", "last_home", defArgs s_last_home, defBody s_last_home, defScope s_last_home, [], []⟩,
  ⟨("_law_cell_at", none), "_law_cell_at", "_law_cell_at", defArgs s__law_cell_at, defBody s__law_cell_at, defScope s__law_cell_at, [], []⟩,
  ⟨("_law_well", none), "_law_well", "_law_well", defArgs s__law_well, defBody s__law_well, defScope s__law_well, [], []⟩,
  ⟨("_law_draw", none), "_law_draw", "_law_draw", defArgs s__law_draw, defBody s__law_draw, defScope s__law_draw, [], []⟩,
  ⟨("_law_one", none), "_law_one", "_law_one", defArgs s__law_one, defBody s__law_one, defScope s__law_one, [], []⟩,
  ⟨("_law_streets", none), "_law_streets", "_law_streets", defArgs s__law_streets, defBody s__law_streets, defScope s__law_streets, [], []⟩,
  ⟨("_law_parts", none), "_law_parts", "_law_parts", defArgs s__law_parts, defBody s__law_parts, defScope s__law_parts, [], []⟩,
  ⟨("_law_made", none), "_law_made", "_law_made", defArgs s__law_made, defBody s__law_made, defScope s__law_made, [], []⟩,
  ⟨("_law_whole", none), "_law_whole", "_law_whole", defArgs s__law_whole, defBody s__law_whole, defScope s__law_whole, [], []⟩,
  ⟨("_law_is_home", none), "_law_is_home", "_law_is_home", defArgs s__law_is_home, defBody s__law_is_home, defScope s__law_is_home, [], []⟩,
  ⟨("_law_torn", none), "_law_torn", "_law_torn", defArgs s__law_torn, defBody s__law_torn, defScope s__law_torn, [], []⟩,
  ⟨("_law_is_alone", none), "_law_is_alone", "_law_is_alone", defArgs s__law_is_alone, defBody s__law_is_alone, defScope s__law_is_alone, [], []⟩,
  ⟨("_law_told", none), "_law_told", "_law_told", defArgs s__law_told, defBody s__law_told, defScope s__law_told, [], []⟩,
  ⟨("_law_due", none), "_law_due", "_law_due", defArgs s__law_due, defBody s__law_due, defScope s__law_due, [], []⟩,
  ⟨("law", none), "law", "law", defArgs s_law, defBody s_law, defScope s_law, [], []⟩,
  ⟨("Town", some "__init__"), "__init__", "Town.__init__", defArgs s_Town___init__, defBody s_Town___init__, defScope s_Town___init__, [], [("broad", .non), ("inns", .non)]⟩,
  ⟨("Town", some "count"), "count", "Town.count", defArgs s_Town_count, defBody s_Town_count, defScope s_Town_count, [], []⟩,
  ⟨("Town", some "streets"), "streets", "Town.streets", defArgs s_Town_streets, defBody s_Town_streets, defScope s_Town_streets, [], []⟩,
  ⟨("Town", some "broad"), "broad", "Town.broad", defArgs s_Town_broad, defBody s_Town_broad, defScope s_Town_broad, [], []⟩,
  ⟨("Town", some "inns"), "inns", "Town.inns", defArgs s_Town_inns, defBody s_Town_inns, defScope s_Town_inns, [], []⟩,
  ⟨("Town", some "__eq__"), "__eq__", "Town.__eq__", defArgs s_Town___eq__, defBody s_Town___eq__, defScope s_Town___eq__, [], []⟩,
  ⟨("Town", some "__repr__"), "__repr__", "Town.__repr__", defArgs s_Town___repr__, defBody s_Town___repr__, defScope s_Town___repr__, [], []⟩,
  ⟨("TownError", some "__init__"), "__init__", "TownError.__init__", defArgs s_TownError___init__, defBody s_TownError___init__, defScope s_TownError___init__, [(.str "refused")], []⟩,
  ⟨("BadTown", some "__init__"), "__init__", "BadTown.__init__", defArgs s_BadTown___init__, defBody s_BadTown___init__, defScope s_BadTown___init__, [.non], []⟩,
  ⟨("NoPlace", some "__init__"), "__init__", "NoPlace.__init__", defArgs s_NoPlace___init__, defBody s_NoPlace___init__, defScope s_NoPlace___init__, [], []⟩,
  ⟨("NoStreet", some "__init__"), "__init__", "NoStreet.__init__", defArgs s_NoStreet___init__, defBody s_NoStreet___init__, defScope s_NoStreet___init__, [], []⟩,
  ⟨("BadWalk", some "__init__"), "__init__", "BadWalk.__init__", defArgs s_BadWalk___init__, defBody s_BadWalk___init__, defScope s_BadWalk___init__, [], []⟩,
  ⟨("NoHome", some "__init__"), "__init__", "NoHome.__init__", defArgs s_NoHome___init__, defBody s_NoHome___init__, defScope s_NoHome___init__, [], []⟩,
  ⟨("NotHome", some "__init__"), "__init__", "NotHome.__init__", defArgs s_NotHome___init__, defBody s_NotHome___init__, defScope s_NotHome___init__, [], []⟩,
  ⟨("Stuck", some "__init__"), "__init__", "Stuck.__init__", defArgs s_Stuck___init__, defBody s_Stuck___init__, defScope s_Stuck___init__, [], []⟩,
  ⟨("NotNightly", some "__init__"), "__init__", "NotNightly.__init__", defArgs s_NotNightly___init__, defBody s_NotNightly___init__, defScope s_NotNightly___init__, [], []⟩,
  ⟨("NoDay", some "__init__"), "__init__", "NoDay.__init__", defArgs s_NoDay___init__, defBody s_NoDay___init__, defScope s_NoDay___init__, [], []⟩,
  ⟨("BadStarts", some "__init__"), "__init__", "BadStarts.__init__", defArgs s_BadStarts___init__, defBody s_BadStarts___init__, defScope s_BadStarts___init__, [], []⟩,
  ⟨("TooGreat", some "__init__"), "__init__", "TooGreat.__init__", defArgs s_TooGreat___init__, defBody s_TooGreat___init__, defScope s_TooGreat___init__, [], []⟩]
def faD : List He.Fa := [.glo "is_any", .glo "is_whole", .glo "is_street", .glo "is_pair", .glo "check_streets", .glo "check_broad", .glo "check_inns", .glo "street_of", .glo "turns_on", .glo "common_part", .glo "least_common", .glo "turn_of", .glo "never_both", .glo "torn_pair", .glo "is_home", .glo "home", .glo "first_and_apart", .glo "next_home", .glo "last_home", .glo "_law_cell_at", .glo "_law_well", .glo "_law_draw", .glo "_law_one", .glo "_law_streets", .glo "_law_parts", .glo "_law_made", .glo "_law_whole", .glo "_law_is_home", .glo "_law_torn", .glo "_law_is_alone", .glo "_law_told", .glo "_law_due", .glo "law", .mkr "Town", .glo "Town", .meth "Town" "count", .glo "Town", .meth "Town" "streets", .glo "Town", .meth "Town" "broad", .glo "Town", .meth "Town" "inns", .glo "Town", .meth "Town" "__eq__", .glo "Town", .meth "Town" "__repr__", .glo "Town", .glo "Town", .cls "Town", .noat "Town" "many", .noat "Town" "lanes", .noat "Town" "wides", .noat "Town" "beds", .glo "TownError", .glo "BadTown", .glo "NoPlace", .glo "NoStreet", .glo "BadWalk", .glo "NoHome", .glo "NotHome", .glo "Stuck", .glo "NotNightly", .glo "Unlike", .glo "NoDay", .glo "BadStarts", .glo "TooGreat", .free "all", .free "bool", .free "enumerate", .free "int", .free "isinstance", .free "len", .free "list", .free "range", .free "repr", .free "sorted", .free "tuple", .free "ValueError", .int "MOST_PLACES" 8, .int "MOST_STREETS" 12, .int "MOST_RHYTHM" 6]
def exD (K : PySem.W.Frag) : Bool := veB K && (cinB K (He.ga K "TownError") (He.ma K (He.ga K "TownError") "__init__") && (xkB K (He.ga K "TownError") (He.ma K (He.ga K "TownError") "__init__") ["why"] && (xkB K (He.ga K "BadTown") (He.ma K (He.ga K "BadTown") "__init__") ["why", "at"] && (xkB K (He.ga K "NoPlace") (He.ma K (He.ga K "NoPlace") "__init__") ["why", "place"] && (xkB K (He.ga K "NoStreet") (He.ma K (He.ga K "NoStreet") "__init__") ["why", "number"] && (xkB K (He.ga K "BadWalk") (He.ma K (He.ga K "BadWalk") "__init__") ["why", "at"] && (xkB K (He.ga K "NoHome") (He.ma K (He.ga K "NoHome") "__init__") ["why", "pair"] && (xkB K (He.ga K "NotHome") (He.ma K (He.ga K "NotHome") "__init__") ["why", "day"] && (xkB K (He.ga K "Stuck") (He.ma K (He.ga K "Stuck") "__init__") ["why", "place", "day"] && (xkB K (He.ga K "NotNightly") (He.ma K (He.ga K "NotNightly") "__init__") ["why", "number"] && (xkB K (He.ga K "Unlike") (He.ma K (He.ga K "TownError") "__init__") ["why"] && (xkB K (He.ga K "NoDay") (He.ma K (He.ga K "NoDay") "__init__") ["why", "day"] && (xkB K (He.ga K "BadStarts") (He.ma K (He.ga K "BadStarts") "__init__") ["why", "at"] && (xkB K (He.ga K "TooGreat") (He.ma K (He.ga K "TooGreat") "__init__") ["why", "most"] && (xoB K owns dsts)))))))))))))))
theorem xs_of {K : PySem.W.Frag} (h : (veB K && (cinB K (He.ga K "TownError") (He.ma K (He.ga K "TownError") "__init__") && (xkB K (He.ga K "TownError") (He.ma K (He.ga K "TownError") "__init__") ["why"] && (xkB K (He.ga K "BadTown") (He.ma K (He.ga K "BadTown") "__init__") ["why", "at"] && (xkB K (He.ga K "NoPlace") (He.ma K (He.ga K "NoPlace") "__init__") ["why", "place"] && (xkB K (He.ga K "NoStreet") (He.ma K (He.ga K "NoStreet") "__init__") ["why", "number"] && (xkB K (He.ga K "BadWalk") (He.ma K (He.ga K "BadWalk") "__init__") ["why", "at"] && (xkB K (He.ga K "NoHome") (He.ma K (He.ga K "NoHome") "__init__") ["why", "pair"] && (xkB K (He.ga K "NotHome") (He.ma K (He.ga K "NotHome") "__init__") ["why", "day"] && (xkB K (He.ga K "Stuck") (He.ma K (He.ga K "Stuck") "__init__") ["why", "place", "day"] && (xkB K (He.ga K "NotNightly") (He.ma K (He.ga K "NotNightly") "__init__") ["why", "number"] && (xkB K (He.ga K "Unlike") (He.ma K (He.ga K "TownError") "__init__") ["why"] && (xkB K (He.ga K "NoDay") (He.ma K (He.ga K "NoDay") "__init__") ["why", "day"] && (xkB K (He.ga K "BadStarts") (He.ma K (He.ga K "BadStarts") "__init__") ["why", "at"] && (xkB K (He.ga K "TooGreat") (He.ma K (He.ga K "TooGreat") "__init__") ["why", "most"] && (xoB K owns dsts)))))))))))))))) = true) : Xs K := ⟨and_l h, and_l (and_r h), xk_ok (and_l (and_r (and_r h))), xk_ok (and_l (and_r (and_r (and_r h)))), xk_ok (and_l (and_r (and_r (and_r (and_r h))))), xk_ok (and_l (and_r (and_r (and_r (and_r (and_r h)))))), xk_ok (and_l (and_r (and_r (and_r (and_r (and_r (and_r h))))))), xk_ok (and_l (and_r (and_r (and_r (and_r (and_r (and_r (and_r h)))))))), xk_ok (and_l (and_r (and_r (and_r (and_r (and_r (and_r (and_r (and_r h))))))))), xk_ok (and_l (and_r (and_r (and_r (and_r (and_r (and_r (and_r (and_r (and_r h)))))))))), xk_ok (and_l (and_r (and_r (and_r (and_r (and_r (and_r (and_r (and_r (and_r (and_r h))))))))))), xk_ok (and_l (and_r (and_r (and_r (and_r (and_r (and_r (and_r (and_r (and_r (and_r (and_r h)))))))))))), xk_ok (and_l (and_r (and_r (and_r (and_r (and_r (and_r (and_r (and_r (and_r (and_r (and_r (and_r h))))))))))))), xk_ok (and_l (and_r (and_r (and_r (and_r (and_r (and_r (and_r (and_r (and_r (and_r (and_r (and_r (and_r h)))))))))))))), xk_ok (and_l (and_r (and_r (and_r (and_r (and_r (and_r (and_r (and_r (and_r (and_r (and_r (and_r (and_r (and_r h))))))))))))))), xo_ok (and_r (and_r (and_r (and_r (and_r (and_r (and_r (and_r (and_r (and_r (and_r (and_r (and_r (and_r (and_r h)))))))))))))))⟩
abbrev hkD : PySem.W.Hook := TL.hookS 6 faD fnD exD
def obD (s : PySem.W.SharedT) : TL.AlS := TL.obsS 6 faD fnD exD (HandSHeadRun.getT s)
theorem obD_eq (s : PySem.W.SharedT) : obD s = hkD.obs s.abs := TL.obsS_eq (HandSHeadRun.getT_eq s)
def loose0 : List Str := ["TownError", "BadTown", "NoPlace", "NoStreet", "BadWalk", "NoHome", "NotHome", "Stuck", "NotNightly", "Unlike", "NoDay", "BadStarts", "TooGreat", "MOST_PLACES", "MOST_STREETS", "MOST_RHYTHM", "is_any", "is_whole", "is_street", "is_pair", "check_streets", "check_broad", "check_inns", "Town", "street_of", "turns_on", "common_part", "least_common", "turn_of", "never_both"]
def loose1 : List Str := ["torn_pair", "is_home", "home", "first_and_apart", "next_home", "last_home", "_law_cell_at", "_law_well", "_law_draw", "_law_one", "_law_streets", "_law_parts", "_law_made", "_law_whole", "_law_is_home", "_law_torn", "_law_is_alone", "_law_told", "_law_due"]
abbrev looseL : List Str := loose0 ++ loose1
abbrev rowL : PySem.W.OpenRow := PySem.W.OpenLaw.row PySem.Challenge.rw_nightturn_k12_home_days_near_and_far
theorem runL (w : World) : HandSHeadRun.RunEq rowL (PySem.W.view rowL.prog [53]) hkD obD 20000 looseL w := by
  intro os
  kernel_rfl
theorem txt_of {K : PySem.W.Frag} {h : Heap} {mg : Str → Option Value} (X : K.In h) (G : h.Ns mainGlobals mg) (c : He.SaysD faD fnD K) : Txt K mg :=
  ⟨(by obtain ⟨fd, F⟩ := c.def_ 0 rfl; exact ⟨_, fd, F, He.glo_ok X G (c.fact 0 rfl)⟩),
   (by obtain ⟨fd, F⟩ := c.def_ 1 rfl; exact ⟨_, fd, F, He.glo_ok X G (c.fact 1 rfl)⟩),
   (by obtain ⟨fd, F⟩ := c.def_ 2 rfl; exact ⟨_, fd, F, He.glo_ok X G (c.fact 2 rfl)⟩),
   (by obtain ⟨fd, F⟩ := c.def_ 3 rfl; exact ⟨_, fd, F, He.glo_ok X G (c.fact 3 rfl)⟩),
   (by obtain ⟨fd, F⟩ := c.def_ 4 rfl; exact ⟨_, fd, F, He.glo_ok X G (c.fact 4 rfl)⟩),
   (by obtain ⟨fd, F⟩ := c.def_ 5 rfl; exact ⟨_, fd, F, He.glo_ok X G (c.fact 5 rfl)⟩),
   (by obtain ⟨fd, F⟩ := c.def_ 6 rfl; exact ⟨_, fd, F, He.glo_ok X G (c.fact 6 rfl)⟩),
   (by obtain ⟨fd, F⟩ := c.def_ 7 rfl; exact ⟨_, fd, F, He.glo_ok X G (c.fact 7 rfl)⟩),
   (by obtain ⟨fd, F⟩ := c.def_ 8 rfl; exact ⟨_, fd, F, He.glo_ok X G (c.fact 8 rfl)⟩),
   (by obtain ⟨fd, F⟩ := c.def_ 9 rfl; exact ⟨_, fd, F, He.glo_ok X G (c.fact 9 rfl)⟩),
   (by obtain ⟨fd, F⟩ := c.def_ 10 rfl; exact ⟨_, fd, F, He.glo_ok X G (c.fact 10 rfl)⟩),
   (by obtain ⟨fd, F⟩ := c.def_ 11 rfl; exact ⟨_, fd, F, He.glo_ok X G (c.fact 11 rfl)⟩),
   (by obtain ⟨fd, F⟩ := c.def_ 12 rfl; exact ⟨_, fd, F, He.glo_ok X G (c.fact 12 rfl)⟩),
   (by obtain ⟨fd, F⟩ := c.def_ 13 rfl; exact ⟨_, fd, F, He.glo_ok X G (c.fact 13 rfl)⟩),
   (by obtain ⟨fd, F⟩ := c.def_ 14 rfl; exact ⟨_, fd, F, He.glo_ok X G (c.fact 14 rfl)⟩),
   (by obtain ⟨fd, F⟩ := c.def_ 15 rfl; exact ⟨_, fd, F, He.glo_ok X G (c.fact 15 rfl)⟩),
   (by obtain ⟨fd, F⟩ := c.def_ 16 rfl; exact ⟨_, fd, F, He.glo_ok X G (c.fact 16 rfl)⟩),
   (by obtain ⟨fd, F⟩ := c.def_ 17 rfl; exact ⟨_, fd, F, He.glo_ok X G (c.fact 17 rfl)⟩),
   (by obtain ⟨fd, F⟩ := c.def_ 18 rfl; exact ⟨_, fd, F, He.glo_ok X G (c.fact 18 rfl)⟩),
   (by obtain ⟨fd, F⟩ := c.def_ 19 rfl; exact ⟨_, fd, F, He.glo_ok X G (c.fact 19 rfl)⟩),
   (by obtain ⟨fd, F⟩ := c.def_ 20 rfl; exact ⟨_, fd, F, He.glo_ok X G (c.fact 20 rfl)⟩),
   (by obtain ⟨fd, F⟩ := c.def_ 21 rfl; exact ⟨_, fd, F, He.glo_ok X G (c.fact 21 rfl)⟩),
   (by obtain ⟨fd, F⟩ := c.def_ 22 rfl; exact ⟨_, fd, F, He.glo_ok X G (c.fact 22 rfl)⟩),
   (by obtain ⟨fd, F⟩ := c.def_ 23 rfl; exact ⟨_, fd, F, He.glo_ok X G (c.fact 23 rfl)⟩),
   (by obtain ⟨fd, F⟩ := c.def_ 24 rfl; exact ⟨_, fd, F, He.glo_ok X G (c.fact 24 rfl)⟩),
   (by obtain ⟨fd, F⟩ := c.def_ 25 rfl; exact ⟨_, fd, F, He.glo_ok X G (c.fact 25 rfl)⟩),
   (by obtain ⟨fd, F⟩ := c.def_ 26 rfl; exact ⟨_, fd, F, He.glo_ok X G (c.fact 26 rfl)⟩),
   (by obtain ⟨fd, F⟩ := c.def_ 27 rfl; exact ⟨_, fd, F, He.glo_ok X G (c.fact 27 rfl)⟩),
   (by obtain ⟨fd, F⟩ := c.def_ 28 rfl; exact ⟨_, fd, F, He.glo_ok X G (c.fact 28 rfl)⟩),
   (by obtain ⟨fd, F⟩ := c.def_ 29 rfl; exact ⟨_, fd, F, He.glo_ok X G (c.fact 29 rfl)⟩),
   (by obtain ⟨fd, F⟩ := c.def_ 30 rfl; exact ⟨_, fd, F, He.glo_ok X G (c.fact 30 rfl)⟩),
   (by obtain ⟨fd, F⟩ := c.def_ 31 rfl; exact ⟨_, fd, F, He.glo_ok X G (c.fact 31 rfl)⟩),
   (by obtain ⟨fd, F⟩ := c.def_ 32 rfl; exact ⟨_, fd, F, He.glo_ok X G (c.fact 32 rfl)⟩),
   (by obtain ⟨fd, F⟩ := c.def_ 33 rfl; exact ⟨_, _, fd, F, He.glo_ok X G (c.fact 34 rfl), He.mkr_ok (c.fact 33 rfl)⟩),
   (by obtain ⟨fd, F⟩ := c.def_ 34 rfl; exact ⟨_, _, fd, F, He.glo_ok X G (c.fact 36 rfl), He.meth_ok (c.fact 35 rfl)⟩),
   (by obtain ⟨fd, F⟩ := c.def_ 35 rfl; exact ⟨_, _, fd, F, He.glo_ok X G (c.fact 38 rfl), He.meth_ok (c.fact 37 rfl)⟩),
   (by obtain ⟨fd, F⟩ := c.def_ 36 rfl; exact ⟨_, _, fd, F, He.glo_ok X G (c.fact 40 rfl), He.meth_ok (c.fact 39 rfl)⟩),
   (by obtain ⟨fd, F⟩ := c.def_ 37 rfl; exact ⟨_, _, fd, F, He.glo_ok X G (c.fact 42 rfl), He.meth_ok (c.fact 41 rfl)⟩),
   (by obtain ⟨fd, F⟩ := c.def_ 38 rfl; exact ⟨_, _, fd, F, He.glo_ok X G (c.fact 44 rfl), He.meth_ok (c.fact 43 rfl)⟩),
   (by obtain ⟨fd, F⟩ := c.def_ 39 rfl; exact ⟨_, _, fd, F, He.glo_ok X G (c.fact 46 rfl), He.meth_ok (c.fact 45 rfl)⟩),
   (He.glo_ok X G (c.fact 47 rfl)),
   (He.cls_ok (c.fact 48 rfl)),
   (He.noat_ok (c.fact 49 rfl)),
   (He.noat_ok (c.fact 50 rfl)),
   (He.noat_ok (c.fact 51 rfl)),
   (He.noat_ok (c.fact 52 rfl)),
   (He.glo_ok X G (c.fact 53 rfl)),
   (c.def_ 40 rfl),
   (He.glo_ok X G (c.fact 54 rfl)),
   (c.def_ 41 rfl),
   (He.glo_ok X G (c.fact 55 rfl)),
   (c.def_ 42 rfl),
   (He.glo_ok X G (c.fact 56 rfl)),
   (c.def_ 43 rfl),
   (He.glo_ok X G (c.fact 57 rfl)),
   (c.def_ 44 rfl),
   (He.glo_ok X G (c.fact 58 rfl)),
   (c.def_ 45 rfl),
   (He.glo_ok X G (c.fact 59 rfl)),
   (c.def_ 46 rfl),
   (He.glo_ok X G (c.fact 60 rfl)),
   (c.def_ 47 rfl),
   (He.glo_ok X G (c.fact 61 rfl)),
   (c.def_ 48 rfl),
   (He.glo_ok X G (c.fact 62 rfl)),
   (He.glo_ok X G (c.fact 63 rfl)),
   (c.def_ 49 rfl),
   (He.glo_ok X G (c.fact 64 rfl)),
   (c.def_ 50 rfl),
   (He.glo_ok X G (c.fact 65 rfl)),
   (c.def_ 51 rfl),
   (He.free_ok X G (c.fact 66 rfl)),
   (He.free_ok X G (c.fact 67 rfl)),
   (He.free_ok X G (c.fact 68 rfl)),
   (He.free_ok X G (c.fact 69 rfl)),
   (He.free_ok X G (c.fact 70 rfl)),
   (He.free_ok X G (c.fact 71 rfl)),
   (He.free_ok X G (c.fact 72 rfl)),
   (He.free_ok X G (c.fact 73 rfl)),
   (He.free_ok X G (c.fact 74 rfl)),
   (He.free_ok X G (c.fact 75 rfl)),
   (He.free_ok X G (c.fact 76 rfl)),
   (He.free_ok X G (c.fact 77 rfl)),
   (He.int_ok X G (c.fact 78 rfl)),
   (He.int_ok X G (c.fact 79 rfl)),
   (He.int_ok X G (c.fact 80 rfl))⟩
end Law
open PySem PySem.W PySem.Calls PyProof.Rows
theorem PySem.Challenge.cw_nightturn_k12_home_days_near_and_far_holds : PySem.Challenge.rw_nightturn_k12_home_days_near_and_far.Holds := by
  w_on; o_law
  refine HandSHeadRun.head_any (r := Law.rowL) (q := view Law.rowL.prog [53]) (H := Law.hkD) (ob := Law.obD) (M := 20000) (loose := Law.looseL) (d := HandSHeadRun.topDef Law.rowL.prog 53) (kwd := []) Law.obD_eq
    (by kernel_rfl) (fun s => by kernel_rfl) Law.runL (by kernel_rfl) (by kernel_rfl) (by kernel_rfl) (by rfl) (by first | assumption | decide +kernel) (by decide +kernel) ⟨rfl, rfl, rfl, rfl, rfl, by decide +kernel⟩ ?hw ?hc
  case hw => w_witness2
  case hc =>
    refine TL.walk_TE (l := PySem.Challenge.rw_nightturn_k12_home_days_near_and_far) (j := Law.depth) (y := "_law_script") (CX := fun w => L2N.CX PySem.Challenge.rw_nightturn_k12_home_days_near_and_far.prog w) rfl (by kernel_rfl) ⟨rfl, by decide, by decide⟩ (fun w => TL.calmX _ w) ?F
    intro w mg fa h Y G hmg0
    obtain ⟨K, KX, c⟩ := Y
    have hmg : mg ("law" : PySem.Str) = some (.ref fa) := by
      have e : (HandSHeadRun.topDef Law.rowL.prog 53).name = ("law" : PySem.Str) := by kernel_rfl
      rw [← e]
      exact hmg0
    have t := Law.txt_of KX G c.d
    have h0 : Law.exD K = true := c.more
    have xs : Law.Xs K := Law.xs_of h0
    obtain ⟨fd, hb, hF⟩ := Law.law_ok (P := PySem.Challenge.rw_nightturn_k12_home_days_near_and_far.prog) (w := w) t xs hmg
    exact ⟨K, fd, KX, hb, hF⟩
