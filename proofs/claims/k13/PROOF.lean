import PyProof.Rows.All
import Wide.All
import OpenK.AllK
import Wide.FinOn
import HandS.ForMost
import HandS.Deep
import HandS.IsInst
import HandS.Defaults
import HandS.SortInts
import HandS.SortRule
import HandS.Wide
import HandS.MakeKwOnly
import HandS.HeadHook2
import HandS.Head2
import HandS.HeadEnd
import PyProof.Rows.PlainNe
import HandS.OwnEq
import HandS.HeadHook4
import HandS.SetFor
import HandS.Strs
import KE.KTupSum
import KE.KRevSl
import PyProof.SeqRoads
import PyProof.ListOps
import HandS.Style
import HandS.TupAny
import PyProof.Rows.ReprOcc
import PySem.Challenge.RW_nightturn_k13_papers_of_home_nights
set_option Elab.async false
set_option linter.all false
set_option maxRecDepth 100000
set_option maxHeartbeats 4000000
/-! The tree layer, part A: trees, worlds, steps. -/
namespace TL
open PySem PySem.Spec PyProof.Rows L2

/-- a python value as a tree: an atom, a mutable cell of the store, or frozen data -/
inductive T where
  | v (x : V)
  | cel (n : Nat)
  | lst (xs : List T)
  | scr (xs : List T)
  | tup (xs : List T)
  | dK (ks : List Key) (xs : List T)
  | dT (ks : List (List Key)) (xs : List T)
  | set (S : Int → Bool) (n : Nat)
  | ins (C : Addr) (ns : List Str) (xs : List T)

abbrev I (i : Int) : T := .v (.int i)
abbrev B (b : Bool) : T := .v (.bl b)
abbrev S (x : Str) : T := .v (.str x)
abbrev N0 : T := .v .non

/-- what is frozen, and where the cells stand -/
structure Wd where
  F : Addr → Prop
  ad : Nat → Option Addr

abbrev Store := Nat → Option T
abbrev TEnv := List (Option T)
def updS (L : Store) (n : Nat) (o : Option T) : Store := fun m => if m = n then o else L m
theorem updS_same {L : Store} {n : Nat} {o : Option T} : updS L n o n = o := by unfold updS; rw [if_pos rfl]
theorem updS_ne {L : Store} {n m : Nat} {o : Option T} (h : m ≠ n) : updS L n o m = L m := by unfold updS; rw [if_neg h]

mutual
inductive Rp (K : PySem.W.Frag) (W : Wd) (H : Hp) : T → V → Prop
  | v (x : V) : Rp K W H (.v x) x
  | cel {n : Nat} {a : Addr} (h : W.ad n = some a) : Rp K W H (.cel n) (.ref a)
  | lst {a : Addr} {ts : List T} {vs : List V} (f : W.F a) (h : H a = some (.lst vs)) (r : RpL K W H ts vs) : Rp K W H (.lst ts) (.ref a)
  | scr {a : Addr} {ts : List T} {vs : List V} (h : (W.F a ∧ ∃ o, H a = some (.frz o (.lst vs))) ∨ ∃ (o : Obj) (its : Array Value) (n : Nat), K.lookup a = some o ∧ o.cls = .type "list" ∧ o.dict = none ∧ o.data = .seq its n ∧ its.size ≤ sizeLine ∧ Vals vs its.toList)
      (r : RpL K W H ts vs) : Rp K W H (.scr ts) (.ref a)
  | tup {a : Addr} {ts : List T} {vs : List V} (f : W.F a) (h : H a = some (.tup vs)) (r : RpL K W H ts vs) : Rp K W H (.tup ts) (.ref a)
  | dK {a : Addr} {ks : List Key} {ts : List T} {vs : List V} (f : W.F a) (h : Rd H a (.dK (ks.zip vs))) (l : ks.length = vs.length) (r : RpL K W H ts vs) : Rp K W H (.dK ks ts) (.ref a)
  | dT {a : Addr} {ks : List (List Key)} {ts : List T} {vs : List V} (f : W.F a) (h : Rd H a (.dT (ks.zip vs))) (l : ks.length = vs.length) (r : RpL K W H ts vs) : Rp K W H (.dT ks ts) (.ref a)
  | set {a : Addr} {S : Int → Bool} {n : Nat} (f : W.F a) (h : Rd H a (.set S n)) : Rp K W H (.set S n) (.ref a)
  | ins {a C dx : Addr} {ns : List Str} {ts : List T} {vs : List V} (f : W.F a) (h : H a = some (.ins C dx (ns.zip vs))) (l : ns.length = vs.length) (r : RpL K W H ts vs) : Rp K W H (.ins C ns ts) (.ref a)
inductive RpL (K : PySem.W.Frag) (W : Wd) (H : Hp) : List T → List V → Prop
  | nil : RpL K W H [] []
  | cons {t : T} {ts : List T} {x : V} {xs : List V} (h : Rp K W H t x) (r : RpL K W H ts xs) : RpL K W H (t :: ts) (x :: xs)
end

section
variable {K : PySem.W.Frag} {W W' : Wd} {H H' : Hp}
/-- what may be locked while a loop walks it -/
def NoLk : HO → Bool
  | .dK _ => false
  | .dT _ => false
  | .set _ _ => false
  | .frz _ u => NoLk u
  | _ => true
structure Keep (F : Addr → Prop) (H H' : Hp) : Prop where
  o : ∀ a o, F a → NoLk o = true → H a = some o → H' a = some o
  d : ∀ a u, F a → NoLk u = false → Rd H a u → Rd H' a u
theorem Keep.refl {F : Addr → Prop} {H : Hp} : Keep F H H := ⟨fun _ _ _ _ h => h, fun _ _ _ _ h => h⟩
theorem Keep.all {F : Addr → Prop} {H H' : Hp} (h : ∀ a o, F a → H a = some o → H' a = some o) : Keep F H H' := ⟨fun a o f _ e => h a o f e, fun a u f _ r => by
  rcases r with r | ⟨o, r⟩
  · exact .inl (h a _ f r)
  · exact .inr ⟨o, h a _ f r⟩⟩
mutual
theorem Rp.mono (hF : ∀ a, W.F a → W'.F a) (ha : ∀ (n : Nat) (a : Addr), W.ad n = some a → W'.ad n = some a) (hH : Keep W.F H H') : ∀ (t : T) (x : V), Rp K W H t x → Rp K W' H' t x
  | .v _, _, h => by cases h; exact .v _
  | .cel n, _, h => by cases h with | cel h => exact .cel (ha _ _ h)
  | .lst ts, _, h => by cases h with | lst f h r => exact .lst (hF _ f) (hH.o _ _ f rfl h) (RpL.mono hF ha hH ts _ r)
  | .scr ts, _, h => by
    cases h with
    | scr h r =>
      refine .scr ?_ (RpL.mono hF ha hH ts _ r)
      rcases h with ⟨f, o, h⟩ | h
      · exact .inl ⟨hF _ f, o, hH.o _ _ f rfl h⟩
      · exact .inr h
  | .tup ts, _, h => by cases h with | tup f h r => exact .tup (hF _ f) (hH.o _ _ f rfl h) (RpL.mono hF ha hH ts _ r)
  | .dK ks ts, _, h => by cases h with | dK f h l r => exact .dK (hF _ f) (hH.d _ _ f rfl h) l (RpL.mono hF ha hH ts _ r)
  | .dT ks ts, _, h => by cases h with | dT f h l r => exact .dT (hF _ f) (hH.d _ _ f rfl h) l (RpL.mono hF ha hH ts _ r)
  | .set S n, _, h => by cases h with | set f h => exact .set (hF _ f) (hH.d _ _ f rfl h)
  | .ins C ns ts, _, h => by cases h with | ins f h l r => exact .ins (hF _ f) (hH.o _ _ f rfl h) l (RpL.mono hF ha hH ts _ r)
theorem RpL.mono (hF : ∀ a, W.F a → W'.F a) (ha : ∀ (n : Nat) (a : Addr), W.ad n = some a → W'.ad n = some a) (hH : Keep W.F H H') : ∀ (ts : List T) (xs : List V), RpL K W H ts xs → RpL K W' H' ts xs
  | [], _, h => by cases h; exact .nil
  | t :: ts, _, h => by cases h with | cons h r => exact .cons (Rp.mono hF ha hH t _ h) (RpL.mono hF ha hH ts _ r)
end
theorem RpL.length : ∀ {ts : List T} {xs : List V}, RpL K W H ts xs → ts.length = xs.length
  | [], _, h => by cases h; rfl
  | _ :: _, _, h => by cases h with | cons _ r => exact congrArg Nat.succ r.length
theorem RpL.append : ∀ {ts us : List T} {xs ys : List V}, RpL K W H ts xs → RpL K W H us ys → RpL K W H (ts ++ us) (xs ++ ys)
  | [], _, _, _, h, h2 => by cases h; exact h2
  | _ :: _, _, _, _, h, h2 => by cases h with | cons h r => exact .cons h (r.append h2)
theorem RpL.get : ∀ {ts : List T} {xs : List V} {i : Nat} {t : T}, RpL K W H ts xs → ts[i]? = some t → ∃ x, xs[i]? = some x ∧ Rp K W H t x
  | [], _, _, _, h, e => by simp at e
  | t :: ts, _, 0, _, h, e => by
    cases h with
    | cons h r =>
      simp at e; subst e; exact ⟨_, rfl, h⟩
  | t :: ts, _, i + 1, _, h, e => by
    cases h with
    | cons h r =>
      obtain ⟨x, e1, e2⟩ := r.get (i := i) (by simpa using e)
      exact ⟨x, by simpa using e1, e2⟩
theorem RpL.get' : ∀ {ts : List T} {xs : List V} {i : Nat} {x : V}, RpL K W H ts xs → xs[i]? = some x → ∃ t, ts[i]? = some t ∧ Rp K W H t x := fun {ts xs i x} r e => by
  obtain ⟨h, _⟩ := List.getElem?_eq_some_iff.mp e
  have h2 : i < ts.length := by rw [r.length]; exact h
  obtain ⟨x', e1, e2⟩ := r.get (List.getElem?_eq_getElem h2)
  rw [e] at e1; cases e1
  exact ⟨_, List.getElem?_eq_getElem h2, e2⟩
theorem RpL.set : ∀ {ts : List T} {xs : List V} {t : T} {x : V} (i : Nat), RpL K W H ts xs → Rp K W H t x → RpL K W H (ts.set i t) (xs.set i x)
  | [], _, _, _, _, h, _ => by cases h; exact .nil
  | _ :: _, _, _, _, 0, h, q => by cases h with | cons _ r => exact .cons q r
  | _ :: _, _, _, _, i + 1, h, q => by cases h with | cons h r => exact .cons h (r.set i q)
theorem RpL.take : ∀ {ts : List T} {xs : List V} (n : Nat), RpL K W H ts xs → RpL K W H (ts.take n) (xs.take n)
  | _, _, 0, _ => by simp only [List.take_zero]; exact .nil
  | [], _, n + 1, h => by cases h; exact .nil
  | _ :: _, _, n + 1, h => by cases h with | cons h r => exact .cons h (r.take n)
theorem RpL.drop : ∀ {ts : List T} {xs : List V} (n : Nat), RpL K W H ts xs → RpL K W H (ts.drop n) (xs.drop n)
  | _, _, 0, h => h
  | [], _, n + 1, h => by cases h; exact .nil
  | _ :: _, _, n + 1, h => by cases h with | cons h r => exact r.drop n
theorem RpL.reverse {ts : List T} {xs : List V} (h : RpL K W H ts xs) : RpL K W H ts.reverse xs.reverse := by
  induction ts generalizing xs with
  | nil => cases h; exact .nil
  | cons t ts ih =>
    cases h with
    | cons h r =>
      rw [List.reverse_cons, List.reverse_cons]
      exact (ih r).append (.cons h .nil)
/-- atoms -/
theorem RpL.atoms {α : Type} (f : α → V) : ∀ {l : List α} {xs : List V}, RpL K W H (l.map fun a => T.v (f a)) xs → xs = l.map f
  | [], _, h => by cases h; rfl
  | _ :: _, _, h => by
    cases h with
    | cons h r =>
      cases h
      exact congrArg _ (RpL.atoms f r)
theorem RpL.of_atoms {α : Type} (f : α → V) : ∀ (l : List α), RpL K W H (l.map fun a => T.v (f a)) (l.map f)
  | [] => .nil
  | _ :: l => .cons (.v _) (RpL.of_atoms f l)
end

/-- a cell's content -/
def CellR (K : PySem.W.Frag) (W : Wd) (H : Hp) : T → Addr → Prop
  | .lst ts, a => ∃ vs, H a = some (.lst vs) ∧ RpL K W H ts vs
  | .dK ks ts, a => ∃ vs, H a = some (.dK (ks.zip vs)) ∧ ks.length = vs.length ∧ RpL K W H ts vs
  | .dT ks ts, a => ∃ vs, H a = some (.dT (ks.zip vs)) ∧ ks.length = vs.length ∧ RpL K W H ts vs
  | .set S n, a => H a = some (.set S n)
  | .ins C ns ts, a => ∃ dx vs, H a = some (.ins C dx (ns.zip vs)) ∧ ns.length = vs.length ∧ RpL K W H ts vs
  | _, _ => False
theorem CellR.mono {K : PySem.W.Frag} {W W' : Wd} {H H' : Hp} {t : T} {a : Addr} (hF : ∀ a, W.F a → W'.F a) (ha : ∀ (n : Nat) (a : Addr), W.ad n = some a → W'.ad n = some a) (hH : Keep W.F H H') (he : H' a = H a) (h : CellR K W H t a) : CellR K W' H' t a := by
  cases t with
  | v x => exact h
  | cel n => exact h
  | tup ts => exact h
  | scr ts => exact h
  | lst ts => obtain ⟨vs, e, r⟩ := h; exact ⟨vs, he.trans e, RpL.mono hF ha hH _ _ r⟩
  | dK ks ts => obtain ⟨vs, e, l, r⟩ := h; exact ⟨vs, he.trans e, l, RpL.mono hF ha hH _ _ r⟩
  | dT ks ts => obtain ⟨vs, e, l, r⟩ := h; exact ⟨vs, he.trans e, l, RpL.mono hF ha hH _ _ r⟩
  | set S n => exact he.trans h
  | ins C ns ts => obtain ⟨dx, vs, e, l, r⟩ := h; exact ⟨dx, vs, he.trans e, l, RpL.mono hF ha hH _ _ r⟩
theorem CellR.some {K : PySem.W.Frag} {W : Wd} {H : Hp} {t : T} {a : Addr} (h : CellR K W H t a) : H a ≠ none := by
  cases t with
  | v x => exact h.elim
  | cel n => exact h.elim
  | tup ts => exact h.elim
  | scr ts => exact h.elim
  | lst ts => obtain ⟨vs, e, r⟩ := h; rw [e]; exact fun z => nomatch z
  | dK ks ts => obtain ⟨vs, e, l, r⟩ := h; rw [e]; exact fun z => nomatch z
  | dT ks ts => obtain ⟨vs, e, l, r⟩ := h; rw [e]; exact fun z => nomatch z
  | set S n =>
    have e : H a = _ := h
    rw [e]; exact fun z => nomatch z
  | ins C ns ts => obtain ⟨dx, vs, e, l, r⟩ := h; rw [e]; exact fun z => nomatch z
/-- frozen: the cell is from now on a tree -/
theorem CellR.rp {K : PySem.W.Frag} {W : Wd} {H : Hp} {t : T} {a : Addr} (f : W.F a) (h : CellR K W H t a) : Rp K W H t (.ref a) := by
  cases t with
  | v x => exact h.elim
  | cel n => exact h.elim
  | tup ts => exact h.elim
  | scr ts => exact h.elim
  | lst ts => obtain ⟨vs, e, r⟩ := h; exact .lst f e r
  | dK ks ts => obtain ⟨vs, e, l, r⟩ := h; exact .dK f (.inl e) l r
  | dT ks ts => obtain ⟨vs, e, l, r⟩ := h; exact .dT f (.inl e) l r
  | set S n => exact .set f (.inl h)
  | ins C ns ts => obtain ⟨dx, vs, e, l, r⟩ := h; exact .ins f e l r

def Live (L : Store) (n : Nat) : Prop := ∃ t, L n = some t
structure SR (K : PySem.W.Frag) (W : Wd) (H : Hp) (L : Store) : Prop where
  fin : ∃ b : Nat, ∀ n, b ≤ n → W.ad n = none
  at_ : ∀ n, Live L n → W.ad n ≠ none
  fh : ∀ a, W.F a → H a ≠ none
  nf : ∀ (n : Nat) (a : Addr), Live L n → W.ad n = some a → ¬ W.F a
  inj : ∀ (n m : Nat) (a : Addr), Live L n → Live L m → W.ad n = some a → W.ad m = some a → n = m
  cel : ∀ (n : Nat) (t : T) (a : Addr), L n = some t → W.ad n = some a → CellR K W H t a
structure Step (W : Wd) (L : Store) (H : Hp) (W' : Wd) (L' : Store) (H' : Hp) : Prop where
  F : ∀ a, W.F a → W'.F a
  F' : ∀ a, W'.F a → W.F a ∨ H a = none ∨ ∃ n, Live L n ∧ W.ad n = some a
  ad : ∀ (n : Nat) (a : Addr), W.ad n = some a → W'.ad n = some a
  new : ∀ (n : Nat) (a : Addr), W.ad n = none → W'.ad n = some a → H a = none
  live : ∀ n, W.ad n ≠ none → Live L' n → Live L n
  keep : ∀ a o, H a = some o → (∀ n, Live L n → W.ad n ≠ some a) → H' a = some o
  dom : ∀ a, H a ≠ none → H' a ≠ none
theorem Step.refl {W : Wd} {L : Store} {H : Hp} : Step W L H W L H :=
  ⟨fun _ h => h, fun _ h => .inl h, fun _ _ h => h, fun n a h e => by (rw [h] at e; cases e), fun _ _ h => h, fun _ _ h _ => h, fun _ h => h⟩
section
variable {K : PySem.W.Frag} {W W1 W2 : Wd} {L L1 Lb : Store} {H H1 H2 : Hp}
theorem none_of_dom {p : Addr} (d : ∀ a, H a ≠ none → H1 a ≠ none) (h : H1 p = none) : H p = none := by
  cases e : H p with
  | none => rfl
  | some o => exact absurd h (d p (by rw [e]; exact fun z => nomatch z))
theorem SR.adh (s : SR K W H L) (n : Nat) (a : Addr) (l : Live L n) (e : W.ad n = some a) : H a ≠ none := by
  obtain ⟨t, l⟩ := l
  exact (s.cel n t a l e).some
theorem Step.trans (a : Step W L H W1 L1 H1) (b : Step W1 L1 H1 W2 Lb H2) : Step W L H W2 Lb H2 where
  F := fun x h => b.F x (a.F x h)
  F' := fun x h => by
    rcases b.F' x h with h | h | ⟨n, h1, h2⟩
    · exact a.F' x h
    · exact .inr (.inl (none_of_dom a.dom h))
    · cases q : W.ad n with
      | none => exact .inr (.inl (a.new n x q h2))
      | some y =>
        have e := a.ad n y q
        rw [h2] at e; cases e
        exact .inr (.inr ⟨n, a.live n (by rw [q]; exact fun z => nomatch z) h1, q⟩)
  ad := fun n x h => b.ad n x (a.ad n x h)
  new := fun n x h e => by
    cases q : W1.ad n with
    | none => exact none_of_dom a.dom (b.new n x q e)
    | some y =>
      have e1 := b.ad n y q
      rw [e] at e1; cases e1
      exact a.new n x h q
  live := fun n hn h => a.live n hn (b.live n (by
    cases q : W.ad n with
    | none => exact absurd q hn
    | some y => rw [a.ad n y q]; exact fun z => nomatch z) h)
  keep := fun x o e h => b.keep x o (a.keep x o e h) fun n l z => by
    cases q : W.ad n with
    | none =>
      have e1 := a.new n x q z
      rw [e] at e1; cases e1
    | some y =>
      have e1 := a.ad n y q
      rw [z] at e1; cases e1
      exact h n (a.live n (by rw [q]; exact fun z => nomatch z) l) q
  dom := fun x h => b.dom x (a.dom x h)
/-- frozen things are kept -/
theorem Step.rd (a : Step W L H W1 L1 H1) (s : SR K W H L) : Keep W.F H H1 := .all fun x o f e => a.keep x o e fun n l z => s.nf n x l z f
theorem Rp.step {t : T} {x : V} (r : Rp K W H t x) (a : Step W L H W1 L1 H1) (s : SR K W H L) : Rp K W1 H1 t x := Rp.mono a.F a.ad (a.rd s) t x r
theorem RpL.step {ts : List T} {xs : List V} (r : RpL K W H ts xs) (a : Step W L H W1 L1 H1) (s : SR K W H L) : RpL K W1 H1 ts xs := RpL.mono a.F a.ad (a.rd s) ts xs r

theorem rd_new {F : Addr → Prop} {p : Addr} {o : HO} (hp : H p = none) : Keep F H (upd H p o) := .all fun x u _ h => by rw [upd_ne (ne_of_none h hp)]; exact h
/-- a new object, not (yet) ours -/
theorem SR.new {p : Addr} {o : HO} (s : SR K W H L) (hp : H p = none) : SR K W (upd H p o) L where
  fin := s.fin
  at_ := s.at_
  fh := fun a f => by
    by_cases e : a = p
    · subst e; rw [upd_same]; exact fun z => nomatch z
    · rw [upd_ne e]; exact s.fh a f
  nf := s.nf
  inj := s.inj
  cel := fun n t a h e => (s.cel n t a h e).mono (fun _ h => h) (fun _ _ h => h) (rd_new hp) (upd_ne fun z => by
    subst z
    exact s.adh n a ⟨t, h⟩ e hp)
theorem Step.newp {p : Addr} {o : HO} (hp : H p = none) : Step W L H W L (upd H p o) where
  F := fun _ h => h
  F' := fun _ h => .inl h
  ad := fun _ _ h => h
  new := fun n a h e => by rw [h] at e; cases e
  live := fun _ _ h => h
  keep := fun a o' e _ => by rw [upd_ne (ne_of_none e hp)]; exact e
  dom := fun a h => by
    by_cases e : a = p
    · subst e; exact absurd hp h
    · rw [upd_ne e]; exact h
theorem Rp.newp {p : Addr} {o : HO} {t : T} {x : V} (hp : H p = none) (r : Rp K W H t x) : Rp K W (upd H p o) t x := Rp.mono (fun _ h => h) (fun _ _ h => h) (rd_new hp) t x r
theorem RpL.newp {p : Addr} {o : HO} {ts : List T} {xs : List V} (hp : H p = none) (r : RpL K W H ts xs) : RpL K W (upd H p o) ts xs := RpL.mono (fun _ h => h) (fun _ _ h => h) (rd_new hp) ts xs r
/-- freeze an address that is no live cell -/
def Wd.frz (W : Wd) (a : Addr) : Wd := ⟨fun b => W.F b ∨ b = a, W.ad⟩
theorem SR.frz {a : Addr} (s : SR K W H L) (ha : H a ≠ none) (hn : ∀ n : Nat, Live L n → W.ad n ≠ some a) : SR K (W.frz a) H L where
  fin := s.fin
  at_ := s.at_
  fh := fun b f => by
    rcases f with f | f
    · exact s.fh b f
    · subst f; exact ha
  nf := fun n b l e f => by
    rcases f with f | f
    · exact s.nf n b l e f
    · subst f; exact hn n l e
  inj := s.inj
  cel := fun n t b h e => (s.cel n t b h e).mono (W' := W.frz a) (fun _ h => Or.inl h) (fun _ _ h => h) .refl rfl
theorem Rp.frz {a : Addr} {t : T} {x : V} (r : Rp K W H t x) : Rp K (W.frz a) H t x := Rp.mono (W' := W.frz a) (fun _ h => Or.inl h) (fun _ _ h => h) .refl t x r
theorem RpL.frz {a : Addr} {ts : List T} {xs : List V} (r : RpL K W H ts xs) : RpL K (W.frz a) H ts xs := RpL.mono (W' := W.frz a) (fun _ h => Or.inl h) (fun _ _ h => h) .refl ts xs r
theorem CellR.frz {a b : Addr} {t : T} (r : CellR K W H t b) : CellR K (W.frz a) H t b := r.mono (W' := W.frz a) (fun _ h => Or.inl h) (fun _ _ h => h) .refl rfl
/-- a step, then a freeze of what was new at its start -/
theorem Step.frz {a : Addr} (h : Step W L H W1 L1 H1) (ha : H a = none ∨ ∃ n, Live L n ∧ W.ad n = some a) : Step W L H (W1.frz a) L1 H1 where
  F := fun b f => .inl (h.F b f)
  F' := fun b f => by
    rcases f with f | f
    · exact h.F' b f
    · subst f; exact .inr ha
  ad := h.ad
  new := h.new
  live := h.live
  keep := h.keep
  dom := h.dom
/-- adopt an address as a cell, by a number that is free -/
def Wd.cell (W : Wd) (n : Nat) (a : Addr) : Wd := ⟨W.F, fun m => if m = n then some a else W.ad m⟩
theorem cell_same {n : Nat} {a : Addr} : (W.cell n a).ad n = some a := by show (if n = n then some a else W.ad n) = _; rw [if_pos rfl]
theorem cell_ne {n m : Nat} {a : Addr} (h : m ≠ n) : (W.cell n a).ad m = W.ad m := by show (if m = n then some a else W.ad m) = _; rw [if_neg h]
theorem cell_up {n : Nat} {a : Addr} (hn : W.ad n = none) : ∀ (m : Nat) (b : Addr), W.ad m = some b → (W.cell n a).ad m = some b := fun m b h => by
  rw [cell_ne (fun z => by subst z; rw [hn] at h; cases h)]; exact h
theorem SR.cell {n : Nat} {a : Addr} {t : T} (s : SR K W H L) (h0 : W.ad n = none) (hc : CellR K W H t a) (hf : ¬ W.F a) (hn : ∀ m : Nat, Live L m → W.ad m ≠ some a) : SR K (W.cell n a) H (updS L n (some t)) where
  fin := by
    obtain ⟨b, hb⟩ := s.fin
    refine ⟨max b (n + 1), fun m hm => ?_⟩
    rw [cell_ne (by omega)]
    exact hb m (by omega)
  at_ := fun m ⟨u, l⟩ => by
    by_cases e : m = n
    · subst e; rw [cell_same]; exact fun z => nomatch z
    · rw [cell_ne e]; rw [updS_ne e] at l; exact s.at_ m ⟨u, l⟩
  fh := s.fh
  nf := fun m b ⟨u, l⟩ e => by
    by_cases q : m = n
    · subst q; rw [cell_same] at e; cases e; exact hf
    · rw [cell_ne q] at e; rw [updS_ne q] at l; exact s.nf m b ⟨u, l⟩ e
  inj := fun m1 m2 b ⟨u1, l1⟩ ⟨u2, l2⟩ e1 e2 => by
    by_cases q1 : m1 = n
    · by_cases q2 : m2 = n
      · rw [q1, q2]
      · rw [updS_ne q2] at l2
        rw [cell_ne q2] at e2
        rw [q1, cell_same] at e1; cases e1
        exact absurd e2 (hn m2 ⟨u2, l2⟩)
    · rw [updS_ne q1] at l1
      rw [cell_ne q1] at e1
      by_cases q2 : m2 = n
      · rw [q2, cell_same] at e2; cases e2
        exact absurd e1 (hn m1 ⟨u1, l1⟩)
      · rw [updS_ne q2] at l2
        rw [cell_ne q2] at e2
        exact s.inj m1 m2 b ⟨u1, l1⟩ ⟨u2, l2⟩ e1 e2
  cel := fun m u b l e => by
    have up : ∀ (u : T) (c : Addr), CellR K W H u c → CellR K (W.cell n a) H u c := fun u c h => h.mono (W := W) (W' := W.cell n a) (fun _ h => h) (cell_up h0) .refl rfl
    by_cases q : m = n
    · rw [q, updS_same] at l; cases l
      rw [q, cell_same] at e; cases e
      exact up _ _ hc
    · rw [updS_ne q] at l
      rw [cell_ne q] at e
      exact up _ _ (s.cel m u b l e)
theorem Rp.cell {n : Nat} {a : Addr} {t : T} {x : V} (h0 : W.ad n = none) (r : Rp K W H t x) : Rp K (W.cell n a) H t x := Rp.mono (W := W) (W' := W.cell n a) (fun _ h => h) (cell_up h0) .refl t x r
theorem RpL.cell {n : Nat} {a : Addr} {ts : List T} {xs : List V} (h0 : W.ad n = none) (r : RpL K W H ts xs) : RpL K (W.cell n a) H ts xs := RpL.mono (W := W) (W' := W.cell n a) (fun _ h => h) (cell_up h0) .refl ts xs r
theorem Step.cell {n : Nat} {a : Addr} {t : Option T} (h : Step W L H W1 L1 H1) (h0 : W1.ad n = none) (ha : H a = none) : Step W L H (W1.cell n a) (updS L1 n t) H1 where
  F := h.F
  F' := h.F'
  ad := fun m b e => cell_up h0 m b (h.ad m b e)
  new := fun m b e1 e2 => by
    by_cases q : m = n
    · rw [q, cell_same] at e2; cases e2; exact ha
    · rw [cell_ne q] at e2; exact h.new m b e1 e2
  live := fun m hm ⟨u, l⟩ => by
    have q : m ≠ n := fun z => by
      subst z
      cases e : W.ad m with
      | none => exact hm e
      | some b => rw [h.ad m b e] at h0; cases h0
    rw [updS_ne q] at l
    exact h.live m hm ⟨u, l⟩
  keep := h.keep
  dom := h.dom
/-- a live cell is written -/
theorem SR.write {a : Addr} {n : Nat} {t t' : T} {o : HO} (s : SR K W H L) (hl : L n = some t) (ha : W.ad n = some a) (hc : CellR K W (upd H a o) t' a) : SR K W (upd H a o) (updS L n (some t')) where
  fin := s.fin
  at_ := fun m ⟨u, l⟩ => by
    by_cases e : m = n
    · subst e; exact s.at_ m ⟨t, hl⟩
    · rw [updS_ne e] at l; exact s.at_ m ⟨u, l⟩
  fh := fun b f => by
    by_cases e : b = a
    · subst e; rw [upd_same]; exact fun z => nomatch z
    · rw [upd_ne e]; exact s.fh b f
  nf := fun m b ⟨u, l⟩ e => by
    by_cases hm : m = n
    · subst hm; exact s.nf m b ⟨t, hl⟩ e
    · rw [updS_ne hm] at l; exact s.nf m b ⟨u, l⟩ e
  inj := fun m1 m2 b ⟨u1, l1⟩ ⟨u2, l2⟩ e1 e2 => by
    have k : ∀ m u, updS L n (some t') m = some u → Live L m := fun m u l => by
      by_cases hm : m = n
      · subst hm; exact ⟨t, hl⟩
      · rw [updS_ne hm] at l; exact ⟨u, l⟩
    exact s.inj m1 m2 b (k m1 u1 l1) (k m2 u2 l2) e1 e2
  cel := fun m u b l e => by
    by_cases hm : m = n
    · subst hm
      rw [updS_same] at l
      cases l
      rw [ha] at e; cases e
      exact hc
    · rw [updS_ne hm] at l
      have hb : b ≠ a := fun z => by subst z; exact hm (s.inj m n b ⟨u, l⟩ ⟨t, hl⟩ e ha)
      exact (s.cel m u b l e).mono (fun _ h => h) (fun _ _ h => h) (.all fun x v f h => by
        have hx : x ≠ a := fun z => by subst z; exact s.nf n x ⟨t, hl⟩ ha f
        rw [upd_ne hx]; exact h) (upd_ne hb)
theorem Step.write {a : Addr} {n : Nat} {t t' : T} {o : HO} (hl : L n = some t) (ha : W.ad n = some a) : Step W L H W (updS L n (some t')) (upd H a o) where
  F := fun _ h => h
  F' := fun _ h => .inl h
  ad := fun _ _ h => h
  new := fun m b h e => by rw [h] at e; cases e
  live := fun m hm ⟨u, l⟩ => by
    by_cases e : m = n
    · subst e; exact ⟨t, hl⟩
    · rw [updS_ne e] at l; exact ⟨u, l⟩
  keep := fun b o' e h => by
    have hb : b ≠ a := fun z => by subst z; exact h n ⟨t, hl⟩ ha
    rw [upd_ne hb]; exact e
  dom := fun b h => by
    by_cases hb : b = a
    · subst hb; rw [upd_same]; exact fun z => nomatch z
    · rw [upd_ne hb]; exact h
theorem Rp.write {a : Addr} {n : Nat} {t u : T} {x : V} {o : HO} (s : SR K W H L) (hl : L n = some t) (ha : W.ad n = some a) (r : Rp K W H u x) : Rp K W (upd H a o) u x :=
  Rp.mono (fun _ h => h) (fun _ _ h => h) (.all fun y v f h => by
    have hx : y ≠ a := fun z => by subst z; exact s.nf n y ⟨t, hl⟩ ha f
    rw [upd_ne hx]; exact h) u x r
theorem RpL.write {a : Addr} {n : Nat} {t : T} {us : List T} {xs : List V} {o : HO} (s : SR K W H L) (hl : L n = some t) (ha : W.ad n = some a) (r : RpL K W H us xs) : RpL K W (upd H a o) us xs :=
  RpL.mono (fun _ h => h) (fun _ _ h => h) (.all fun y v f h => by
    have hx : y ≠ a := fun z => by subst z; exact s.nf n y ⟨t, hl⟩ ha f
    rw [upd_ne hx]; exact h) us xs r
/-- some live cells are let go: they are no cells of ours any more -/
theorem SR.less (s : SR K W H L) (h : ∀ n t, L1 n = some t → L n = some t) : SR K W H L1 where
  fin := s.fin
  at_ := fun n ⟨t, l⟩ => s.at_ n ⟨t, h n t l⟩
  fh := s.fh
  nf := fun n a ⟨t, l⟩ e => s.nf n a ⟨t, h n t l⟩ e
  inj := fun n m a ⟨t, l⟩ ⟨u, l2⟩ e1 e2 => s.inj n m a ⟨t, h n t l⟩ ⟨u, h m u l2⟩ e1 e2
  cel := fun n t a l e => s.cel n t a (h n t l) e
theorem Step.less (a : Step W L H W1 L1 H1) (h : ∀ n t, Lb n = some t → L1 n = some t) : Step W L H W1 Lb H1 :=
  ⟨a.F, a.F', a.ad, a.new, fun n hn ⟨t, l⟩ => a.live n hn ⟨t, h n t l⟩, a.keep, a.dom⟩
theorem less_kill {n : Nat} : ∀ m t, updS L n none m = some t → L m = some t := fun m t h => by
  by_cases e : m = n
  · subst e; rw [updS_same] at h; cases h
  · rw [updS_ne e] at h; exact h
/-- a live cell is frozen -/
theorem SR.kill {a : Addr} {n : Nat} {t : T} (s : SR K W H L) (hl : L n = some t) (ha : W.ad n = some a) : SR K (W.frz a) H (updS L n none) :=
  (s.less (less_kill (n := n))).frz (s.adh n a ⟨t, hl⟩ ha) fun m ⟨u, l⟩ e => by
    by_cases hm : m = n
    · subst hm; rw [updS_same] at l; cases l
    · rw [updS_ne hm] at l; exact hm (s.inj m n a ⟨u, l⟩ ⟨t, hl⟩ e ha)
theorem Step.kill {a : Addr} {n : Nat} {t : T} (hl : L n = some t) (ha : W.ad n = some a) : Step W L H (W.frz a) (updS L n none) H :=
  (Step.refl.less (less_kill (n := n))).frz (.inr ⟨n, ⟨t, hl⟩, ha⟩)
end

/-! ### environments -/
def EnvR (K : PySem.W.Frag) (W : Wd) (H : Hp) (ρ : TEnv) (σ : L2.St) : Prop := ρ.length = σ.length ∧ ∀ (i : Nat) (t : T), ρ[i]? = some (some t) → ∃ x, σ[i]? = some (some x) ∧ Rp K W H t x
section
variable {K : PySem.W.Frag} {W W1 : Wd} {L L1 : Store} {H H1 : Hp} {ρ : TEnv} {σ : L2.St}
theorem EnvR.step (e : EnvR K W H ρ σ) (a : Step W L H W1 L1 H1) (s : SR K W H L) : EnvR K W1 H1 ρ σ :=
  ⟨e.1, fun i t h => let ⟨x, h1, h2⟩ := e.2 i t h; ⟨x, h1, h2.step a s⟩⟩
theorem EnvR.set {i : Nat} {t : T} {x : V} (e : EnvR K W H ρ σ) (r : Rp K W H t x) : EnvR K W H (ρ.set i (some t)) (σ.set i (some x)) := by
  refine ⟨by rw [List.length_set, List.length_set]; exact e.1, fun j u h => ?_⟩
  by_cases hj : i = j
  · subst hj
    have hi : i < ρ.length := by
      have := (List.getElem?_eq_some_iff.mp h).1
      rwa [List.length_set] at this
    rw [List.getElem?_set_self hi] at h
    cases h
    exact ⟨x, by rw [List.getElem?_set_self (by rw [← e.1]; exact hi)], r⟩
  · rw [List.getElem?_set_ne hj] at h
    obtain ⟨y, h1, h2⟩ := e.2 j u h
    exact ⟨y, by rw [List.getElem?_set_ne hj]; exact h1, h2⟩
def wipeT (ρ : TEnv) : List Nat → TEnv
  | [] => ρ
  | v :: vs => (wipeT ρ vs).set v none
theorem EnvR.forget {i : Nat} {o : Option V} (e : EnvR K W H ρ σ) : EnvR K W H (ρ.set i none) (σ.set i o) := by
  refine ⟨by rw [List.length_set, List.length_set]; exact e.1, fun j u h => ?_⟩
  by_cases hj : i = j
  · subst hj
    have hi : i < ρ.length := by
      have := (List.getElem?_eq_some_iff.mp h).1
      rwa [List.length_set] at this
    rw [List.getElem?_set_self hi] at h
    cases h
  · rw [List.getElem?_set_ne hj] at h
    obtain ⟨y, h1, h2⟩ := e.2 j u h
    exact ⟨y, by rw [List.getElem?_set_ne hj]; exact h1, h2⟩
theorem EnvR.wipe (e : EnvR K W H ρ σ) : ∀ vs : List Nat, EnvR K W H (wipeT ρ vs) (L2.wipe σ vs)
  | [] => e
  | v :: vs => by
    unfold wipeT L2.wipe
    exact (EnvR.wipe e vs).forget
end
end TL


/-! The tree layer, part B: contexts, expressions. -/
namespace TL
open PySem PySem.Spec PyProof.Rows L2

/-- results: a tree; a new object that is nobody's yet -/
inductive R where
  | v (t : T)
  | n (t : T)
def RR (K : PySem.W.Frag) (W : Wd) (Lz : Store) (H0 H : Hp) : R → V → Prop
  | .v t, x => Rp K W H t x
  | .n t, x => ∃ a, x = .ref a ∧ H0 a = none ∧ ¬ W.F a ∧ (∀ n : Nat, Live Lz n → W.ad n ≠ some a) ∧ CellR K W H t a

/-- where the code stands -/
structure Ct (CX : CXT) (P : Program) (w : World) (K : PySem.W.Frag) (mg : Str → Option Value) (base : Heap) (k : Nat) (N : List Str) (sc : Scope) (fs : Str → Bool) (X : Cx) : Prop where
  hP : X.prog = P
  hw : X.w = w
  hK : X.K = K
  hmg : X.mg = mg
  hb : X.base = base
  hN : X.N = N
  hsc : X.env.scope = sc
  calm : X.calm = true
  room : Room k X.A
  gd : X.A.guards = some []
  nd : N.Nodup
  kind : sc.kind = .function
  fn : X.fn = fs
  cx : ∀ (st : List Env) (H : Hp) (s : Shared) (e : Value) (s' : Shared), CX st H s E0 e s' → False

def wpE (X : Cx) (e : Expr) (σ : L2.St) (H : Hp) (Q : VK) : Prop := ∀ (pins : List (Addr × Obj)) (s : Shared), Inv X pins σ H s → wpAny (model X.prog X.w) X.A (eval e X.env) (EP X pins σ Q) X.xe s
def wpT (X : Cx) (e : Expr) (σ : L2.St) (H : Hp) (Q : Bool → Hp → Prop) : Prop := ∀ (pins : List (Addr × Obj)) (s : Shared), Inv X pins σ H s → wpAny (model X.prog X.w) X.A (isTrue e X.env (eval e X.env)) (TP X pins σ Q) X.xe s
def wpW (X : Cx) (e : Expr) (σ : L2.St) (H : Hp) (Q : Bool → Hp → Prop) : Prop := ∀ (wh : Sem Value) (pins : List (Addr × Obj)) (s : Shared), Inv X pins σ H s → wpAny (model X.prog X.w) X.A (isTrue e X.env wh) (TP X pins σ Q) X.xe s
def wpA (X : Cx) (es : List Expr) (σ : L2.St) (H : Hp) (Q : List V → Hp → Prop) : Prop := ∀ (pos : Pos) (pins : List (Addr × Obj)) (s : Shared), Inv X pins σ H s → wpAny (model X.prog X.w) X.A (spliced (backTo pos (starEach es X.env))) (AP X pins σ Q) X.xe s
theorem pe_wp {X : Cx} {e : Expr} : PE X e (wpE X e) := ⟨fun pins s _ _ _ I h => h pins s I⟩
theorem pt_wp {X : Cx} {e : Expr} : PT X e (wpT X e) := ⟨fun pins s _ _ _ I h => h pins s I⟩
theorem pw_wp {X : Cx} {e : Expr} : PW X e (wpW X e) := ⟨fun wh pins s _ _ _ I h => h wh pins s I⟩
theorem pa_wp {X : Cx} {es : List Expr} : PA X es (wpA X es) := ⟨fun pos pins s _ _ _ I h => h pos pins s I⟩
theorem wp_pe {X : Cx} {e : Expr} {t : TE} {σ : L2.St} {H : Hp} {Q : VK} (h : PE X e t) (q : t σ H Q) : wpE X e σ H Q := fun pins s I => h.run pins s σ H Q I q
theorem wp_pt {X : Cx} {e : Expr} {t : TT} {σ : L2.St} {H : Hp} {Q : Bool → Hp → Prop} (h : PT X e t) (q : t σ H Q) : wpT X e σ H Q := fun pins s I => h.run pins s σ H Q I q
theorem wp_pw {X : Cx} {e : Expr} {t : TT} {σ : L2.St} {H : Hp} {Q : Bool → Hp → Prop} (h : PW X e t) (q : t σ H Q) : wpW X e σ H Q := fun wh pins s I => h.run wh pins s σ H Q I q
theorem wp_pa {X : Cx} {es : List Expr} {t : TA} {σ : L2.St} {H : Hp} {Q : List V → Hp → Prop} (h : PA X es t) (q : t σ H Q) : wpA X es σ H Q := fun pos pins s I => h.run pos pins s σ H Q I q

/-- e gives r, the store is L' behind it -/
structure Ev (X : Cx) (e : Expr) (ρ : TEnv) (L : Store) (r : R) (L' : Store) : Prop where
  go : ∀ (W : Wd) (H : Hp) (σ : L2.St) (Q : VK), SR X.K W H L → EnvR X.K W H ρ σ → (∀ x W' H', Step W L H W' L' H' → SR X.K W' H' L' → RR X.K W' L' H H' r x → Q x H') → wpE X e σ H Q
instance {X : Cx} {e : Expr} {ρ : TEnv} {L : Store} {r : R} {L' : Store} : CoeFun (Ev X e ρ L r L') (fun _ => ∀ (W : Wd) (H : Hp) (σ : L2.St) (Q : VK), SR X.K W H L → EnvR X.K W H ρ σ → (∀ x W' H', Step W L H W' L' H' → SR X.K W' H' L' → RR X.K W' L' H H' r x → Q x H') → wpE X e σ H Q) := ⟨Ev.go⟩
structure EvB (X : Cx) (e : Expr) (ρ : TEnv) (L : Store) (b : Bool) (L' : Store) : Prop where
  go : ∀ (W : Wd) (H : Hp) (σ : L2.St) (Q : Bool → Hp → Prop), SR X.K W H L → EnvR X.K W H ρ σ → (∀ W' H', Step W L H W' L' H' → SR X.K W' H' L' → Q b H') → wpT X e σ H Q
instance {X : Cx} {e : Expr} {ρ : TEnv} {L : Store} {b : Bool} {L' : Store} : CoeFun (EvB X e ρ L b L') (fun _ => ∀ (W : Wd) (H : Hp) (σ : L2.St) (Q : Bool → Hp → Prop), SR X.K W H L → EnvR X.K W H ρ σ → (∀ W' H', Step W L H W' L' H' → SR X.K W' H' L' → Q b H') → wpT X e σ H Q) := ⟨EvB.go⟩
structure EvW (X : Cx) (e : Expr) (ρ : TEnv) (L : Store) (b : Bool) (L' : Store) : Prop where
  go : ∀ (W : Wd) (H : Hp) (σ : L2.St) (Q : Bool → Hp → Prop), SR X.K W H L → EnvR X.K W H ρ σ → (∀ W' H', Step W L H W' L' H' → SR X.K W' H' L' → Q b H') → wpW X e σ H Q
instance {X : Cx} {e : Expr} {ρ : TEnv} {L : Store} {b : Bool} {L' : Store} : CoeFun (EvW X e ρ L b L') (fun _ => ∀ (W : Wd) (H : Hp) (σ : L2.St) (Q : Bool → Hp → Prop), SR X.K W H L → EnvR X.K W H ρ σ → (∀ W' H', Step W L H W' L' H' → SR X.K W' H' L' → Q b H') → wpW X e σ H Q) := ⟨EvW.go⟩
structure EvA (X : Cx) (es : List Expr) (ρ : TEnv) (L : Store) (ts : List T) (L' : Store) : Prop where
  go : ∀ (W : Wd) (H : Hp) (σ : L2.St) (Q : List V → Hp → Prop), SR X.K W H L → EnvR X.K W H ρ σ → (∀ xs W' H', Step W L H W' L' H' → SR X.K W' H' L' → RpL X.K W' H' ts xs → Q xs H') → wpA X es σ H Q
instance {X : Cx} {es : List Expr} {ρ : TEnv} {L : Store} {ts : List T} {L' : Store} : CoeFun (EvA X es ρ L ts L') (fun _ => ∀ (W : Wd) (H : Hp) (σ : L2.St) (Q : List V → Hp → Prop), SR X.K W H L → EnvR X.K W H ρ σ → (∀ xs W' H', Step W L H W' L' H' → SR X.K W' H' L' → RpL X.K W' H' ts xs → Q xs H') → wpA X es σ H Q) := ⟨EvA.go⟩

section
variable {CX : CXT} {P : Program} {w : World} {K : PySem.W.Frag} {mg : Str → Option Value} {base : Heap} {k : Nat} {N : List Str} {sc : Scope} {fs : Str → Bool} {X : Cx}
variable {e a b c : Expr} {es : List Expr} {ρ : TEnv} {L L1 Lb Lc : Store} {t u : T} {ts : List T} {pos : Pos} {i j : Int}

/-- a new object is frozen -/
theorem Ev.fz (h : Ev X e ρ L (.n t) L1) : Ev X e ρ L (.v t) L1 := ⟨fun W H σ Q s en q => h W H σ Q s en fun x W1 H1 st s1 r => by
  obtain ⟨a, rfl, hn, hf, hc, cr⟩ := r
  exact q _ (W1.frz a) H1 (st.frz (.inl hn)) (s1.frz cr.some hc) (CellR.rp (.inr rfl) cr.frz)⟩
theorem Ev.eq {r r' : R} (h : Ev X e ρ L r L1) (e1 : r = r') : Ev X e ρ L r' L1 := e1 ▸ h
theorem EvB.eq {x y : Bool} (h : EvB X e ρ L x L1) (e1 : x = y) : EvB X e ρ L y L1 := e1 ▸ h

/-! names and constants -/
def nmOk (N : List Str) (sc : Scope) (i : Nat) (x : Str) : Bool :=
  decide (N[i]? = some x) && (match sc.names.lookup x with | some .local => true | some .cell => true | some .free => true | _ => false) && !(x == ("__debug__" : Str)) && !(x == ("__classdict__" : Str))
def glOk (sc : Scope) (x : Str) : Bool := (match sc.names.lookup x with | some .globalImplicit => true | _ => false) && !(x == ("__debug__" : Str)) && !decide (x = "__name__")
theorem nmOk_of {N : List Str} {sc : Scope} {i : Nat} {x : Str} (h : nmOk N sc i x = true) : N[i]? = some x ∧ Vis sc x ∧ (x == ("__debug__" : Str)) = false ∧ (x == ("__classdict__" : Str)) = false := by
  unfold nmOk at h
  simp only [Bool.and_eq_true, decide_eq_true_eq, Bool.not_eq_true'] at h
  obtain ⟨⟨⟨h1, h2⟩, h3⟩, h4⟩ := h
  refine ⟨h1, ?_, h3, h4⟩
  unfold Vis
  split at h2
  · exact .inl (by assumption)
  · exact .inr (.inl (by assumption))
  · exact .inr (.inr (by assumption))
  · cases h2
theorem glOk_of {sc : Scope} {x : Str} (h : glOk sc x = true) : sc.names.lookup x = some .globalImplicit ∧ (x == ("__debug__" : Str)) = false ∧ x ≠ "__name__" := by
  unfold glOk at h
  simp only [Bool.and_eq_true, decide_eq_true_eq, Bool.not_eq_true', decide_eq_false_iff_not] at h
  obtain ⟨⟨h1, h2⟩, h3⟩ := h
  refine ⟨?_, h2, h3⟩
  split at h1
  · assumption
  · cases h1
theorem Ct.gl {x : Str} (ct : Ct CX P w K mg base k N sc fs X) (h : glOk sc x = true) : Gl X x := by
  show X.env.scope.names.lookup x = some .globalImplicit
  rw [ct.hsc]; exact (glOk_of h).1

theorem ev_var (ct : Ct CX P w K mg base k N sc fs X) (n : Nat) {x : Str} (hρ : ρ[n]? = some (some t)) (h : nmOk N sc n x = true) : Ev X (.Name x pos) ρ L (.v t) L := by
  refine ⟨fun W H σ Q s en q => ?_⟩
  obtain ⟨h1, h2, h3, h4⟩ := nmOk_of h
  obtain ⟨y, e1, e2⟩ := en.2 n t hρ
  exact wp_pe (pe_var (by rw [ct.hN]; exact h1) (by rw [ct.hsc]; exact h2) h3 h4) ⟨y, e1, q y W H .refl s e2⟩
theorem ev_atom {x : V} (h : PE X e (tC x)) : Ev X e ρ L (.v (.v x)) L := ⟨fun W H σ Q s _ q => wp_pe h (q x W H .refl s (.v x))⟩
theorem ev_int {j pos} : Ev X (.Constant (.int i) j pos) ρ L (.v (I i)) L := ev_atom pe_int
theorem ev_bl {x : Bool} {j pos} : Ev X (.Constant (.bool x) j pos) ρ L (.v (B x)) L := ev_atom pe_bl
theorem ev_non {j pos} : Ev X (.Constant .none j pos) ρ L (.v N0) L := ev_atom pe_non
theorem ev_str {x : Str} {j pos} : Ev X (.Constant (.str x) j pos) ρ L (.v (S x)) L := ev_atom pe_str
/-- a module's constant, class or def as a value -/
theorem ev_glob (ct : Ct CX P w K mg base k N sc fs X) {x : Str} {y : V} {u : Value} (hm : mg x = some u) (r : RelV y u) (h : glOk sc x = true) : Ev X (.Name x pos) ρ L (.v (.v y)) L :=
  ev_atom (pe_glob (ct.gl h) (by rw [ct.hmg]; exact hm) r (glOk_of h).2.1)
theorem ev_blt (ct : Ct CX P w K mg base k N sc fs X) {x : Str} {y : V} {u : Value} (hm : mg x = none) (hb : bootBuiltins x = some u) (r : RelV y u) (h : glOk sc x = true) : Ev X (.Name x pos) ρ L (.v (.v y)) L :=
  ev_atom (pe_bltn (ct.gl h) (by rw [ct.hmg]; exact hm) hb r (glOk_of h).2.2 (glOk_of h).2.1)

/-! operators by values -/
/-- r gives z of the trees ta, tb, the store as it was -/
def OpT (K : PySem.W.Frag) (r : R2) (ta tb : T) (L : Store) (z : R) : Prop :=
  ∀ (W : Wd) (H : Hp) (x y : V) (Q : VK), SR K W H L → Rp K W H ta x → Rp K W H tb y → (∀ v W' H', Step W L H W' L H' → SR K W' H' L → RR K W' L H H' z v → Q v H') → r x y H Q
theorem RR.back {W' : Wd} {Lz : Store} {H0 H1 H2 : Hp} {r : R} {x : V} (h : RR K W' Lz H1 H2 r x) (d : ∀ a, H0 a ≠ none → H1 a ≠ none) : RR K W' Lz H0 H2 r x := by
  cases r with
  | v t => exact h
  | n t =>
    obtain ⟨a, e, h1, h2, h3, h4⟩ := h
    refine ⟨a, e, ?_, h2, h3, h4⟩
    cases q : H0 a with
    | none => rfl
    | some o => exact absurd h1 (d a (by rw [q]; exact fun z => nomatch z))
theorem ev_op2 {r : R2} {z : R} {f : Expr} (hp : ∀ {ta tb : TE}, PE X a ta → PE X b tb → PE X f (tOp r ta tb)) (ha : Ev X a ρ L (.v t) L1) (hb : Ev X b ρ L1 (.v u) Lb) (hr : OpT X.K r t u Lb z) : Ev X f ρ L z Lb := by
  refine ⟨fun W H σ Q s en q => ?_⟩
  refine wp_pe (hp pe_wp pe_wp) ?_
  refine ha W H σ _ s en fun x W1 H1 st1 s1 r1 => ?_
  refine hb W1 H1 σ _ s1 (en.step st1 s) fun y W2 H2 st2 s2 r2 => ?_
  refine hr W2 H2 x y Q s2 (Rp.step r1 st2 s1) r2 fun v W3 H3 st3 s3 r3 => ?_
  exact q v W3 H3 ((st1.trans st2).trans st3) s3 (r3.back fun a h => st2.dom a (st1.dom a h))
theorem ev_bin {op : Operator} {r : R2} {z : R} (ho : OpR X (binaryOp op) r) (ha : Ev X a ρ L (.v t) L1) (hb : Ev X b ρ L1 (.v u) Lb) (hr : OpT X.K r t u Lb z) : Ev X (.BinOp a op b pos) ρ L z Lb :=
  ev_op2 (fun h1 h2 => pe_op ho h1 h2) ha hb hr
theorem ot_I0 {g : Int → Int → V} : OpT K (rI0 g) (I i) (I j) L (.v (.v (g i j))) := fun W H x y Q s r1 r2 q => by
  cases r1; cases r2
  exact ⟨i, j, rfl, rfl, q _ W H .refl s (.v _)⟩
theorem ot_I {C : Int → Int → Prop} {g : Int → Int → V} (h : C i j) : OpT K (rI C g) (I i) (I j) L (.v (.v (g i j))) := fun W H x y Q s r1 r2 q => by
  cases r1; cases r2
  exact ⟨i, j, rfl, rfl, h, q _ W H .refl s (.v _)⟩
theorem ev_add (ha : Ev X a ρ L (.v (I i)) L1) (hb : Ev X b ρ L1 (.v (I j)) Lb) : Ev X (.BinOp a .Add b pos) ρ L (.v (I (i + j))) Lb := ev_bin op_add ha hb ot_I0
theorem ev_sub (ha : Ev X a ρ L (.v (I i)) L1) (hb : Ev X b ρ L1 (.v (I j)) Lb) : Ev X (.BinOp a .Sub b pos) ρ L (.v (I (i - j))) Lb := ev_bin op_sub ha hb ot_I0
theorem ev_mul (ha : Ev X a ρ L (.v (I i)) L1) (hb : Ev X b ρ L1 (.v (I j)) Lb) (h : CMul i j) : Ev X (.BinOp a .Mult b pos) ρ L (.v (I (i * j))) Lb := ev_bin op_mul ha hb (ot_I h)
theorem ev_mod (ha : Ev X a ρ L (.v (I i)) L1) (hb : Ev X b ρ L1 (.v (I j)) Lb) (h : 0 < j) : Ev X (.BinOp a .Mod b pos) ρ L (.v (I (i % j))) Lb := ev_bin op_mod ha hb (ot_I (C := fun _ j => 0 < j) h)
theorem ev_fdiv (ha : Ev X a ρ L (.v (I i)) L1) (hb : Ev X b ρ L1 (.v (I j)) Lb) (h : CDiv i j) : Ev X (.BinOp a .FloorDiv b pos) ρ L (.v (I (i / j))) Lb := ev_bin op_fdiv ha hb (ot_I h)
theorem ev_pow (ha : Ev X a ρ L (.v (I i)) L1) (hb : Ev X b ρ L1 (.v (I j)) Lb) (h : CPow i j) : Ev X (.BinOp a .Pow b pos) ρ L (.v (I (i ^ j.toNat))) Lb := ev_bin op_pow ha hb (ot_I h)
theorem ev_neg (ha : Ev X a ρ L (.v (I i)) L1) : Ev X (.UnaryOp .USub a pos) ρ L (.v (I (-i))) L1 := by
  refine ⟨fun W H σ Q s en q => ?_⟩
  refine wp_pe (pe_un un_neg pe_wp) ?_
  refine ha W H σ _ s en fun x W1 H1 st1 s1 r1 => ?_
  cases r1
  exact ⟨i, rfl, q _ W1 H1 st1 s1 (.v _)⟩

/-! comparisons -/
theorem ev_cmp {op : CmpOp} {r : R2} {z : R} (ho : OpR X (compareOp op) r) (ha : Ev X a ρ L (.v t) L1) (hb : Ev X b ρ L1 (.v u) Lb) (hr : OpT X.K r t u Lb z) (hm : behindInMarks op b = false) : Ev X (.Compare a [op] [b] pos) ρ L z Lb :=
  ev_op2 (fun h1 h2 => pe_cmpR ho h1 h2 hm) ha hb hr
theorem eb_cmp {op : CmpOp} {r : R2} {z : Bool} (ho : OpR X (compareOp op) r) (ha : Ev X a ρ L (.v t) L1) (hb : Ev X b ρ L1 (.v u) Lb) (hr : OpT X.K r t u Lb (.v (B z))) (hm : behindInMarks op b = false) : EvB X (.Compare a [op] [b] pos) ρ L z Lb := by
  refine ⟨fun W H σ Q s en q => ?_⟩
  refine wp_pt (pt_cmpR ho pe_wp pe_wp hm) ?_
  refine ha W H σ _ s en fun x W1 H1 st1 s1 r1 => ?_
  refine hb W1 H1 σ _ s1 (en.step st1 s) fun y W2 H2 st2 s2 r2 => ?_
  refine hr W2 H2 x y _ s2 (Rp.step r1 st2 s1) r2 fun v W3 H3 st3 s3 r3 => ?_
  cases r3
  exact ⟨z, rfl, q W3 H3 ((st1.trans st2).trans st3) s3⟩
theorem ev_lt (ha : Ev X a ρ L (.v (I i)) L1) (hb : Ev X b ρ L1 (.v (I j)) Lb) : Ev X (.Compare a [.Lt] [b] pos) ρ L (.v (B (decide (i < j)))) Lb := ev_cmp op_lt ha hb ot_I0 (nomark _)
theorem ev_le (ha : Ev X a ρ L (.v (I i)) L1) (hb : Ev X b ρ L1 (.v (I j)) Lb) : Ev X (.Compare a [.LtE] [b] pos) ρ L (.v (B (decide (i ≤ j)))) Lb := ev_cmp op_le ha hb ot_I0 (nomark _)
theorem ev_gt (ha : Ev X a ρ L (.v (I i)) L1) (hb : Ev X b ρ L1 (.v (I j)) Lb) : Ev X (.Compare a [.Gt] [b] pos) ρ L (.v (B (decide (j < i)))) Lb := ev_cmp op_gt ha hb ot_I0 (nomark _)
theorem ev_ge (ha : Ev X a ρ L (.v (I i)) L1) (hb : Ev X b ρ L1 (.v (I j)) Lb) : Ev X (.Compare a [.GtE] [b] pos) ρ L (.v (B (decide (j ≤ i)))) Lb := ev_cmp op_ge ha hb ot_I0 (nomark _)
theorem eb_lt (ha : Ev X a ρ L (.v (I i)) L1) (hb : Ev X b ρ L1 (.v (I j)) Lb) : EvB X (.Compare a [.Lt] [b] pos) ρ L (decide (i < j)) Lb := eb_cmp op_lt ha hb ot_I0 (nomark _)
theorem eb_le (ha : Ev X a ρ L (.v (I i)) L1) (hb : Ev X b ρ L1 (.v (I j)) Lb) : EvB X (.Compare a [.LtE] [b] pos) ρ L (decide (i ≤ j)) Lb := eb_cmp op_le ha hb ot_I0 (nomark _)
theorem eb_gt (ha : Ev X a ρ L (.v (I i)) L1) (hb : Ev X b ρ L1 (.v (I j)) Lb) : EvB X (.Compare a [.Gt] [b] pos) ρ L (decide (j < i)) Lb := eb_cmp op_gt ha hb ot_I0 (nomark _)
theorem eb_ge (ha : Ev X a ρ L (.v (I i)) L1) (hb : Ev X b ρ L1 (.v (I j)) Lb) : EvB X (.Compare a [.GtE] [b] pos) ρ L (decide (j ≤ i)) Lb := eb_cmp op_ge ha hb ot_I0 (nomark _)
/-- == of data: atoms, lists, tuples of any depth -/
def pdV : V → Option PyData
  | .non => some .none
  | .bl b => some (.bool b)
  | .int i => some (.int i)
  | .str x => some (.str x)
  | _ => none
mutual
def pd : T → Option PyData
  | .v x => pdV x
  | .lst ts => (pdL ts).map .list
  | .tup ts => (pdL ts).map .tuple
  | _ => none
def pdL : List T → Option (List PyData)
  | [] => some []
  | t :: ts => match pd t, pdL ts with
    | some d, some ds => some (d :: ds)
    | _, _ => none
end
theorem dp_atom {H : Hp} : ∀ {x : V} {d : PyData}, pdV x = some d → Dp K H x d := fun {x d} h => by
  cases x <;> simp [pdV] at h <;> subst h
  · exact .non
  · exact .bl _
  · exact .int _
  · exact .str _
mutual
theorem dp_of {W : Wd} {H : Hp} : ∀ (t : T) (x : V) (d : PyData), Rp K W H t x → pd t = some d → Dp K H x d
  | .v y, x, d, r, h => by
    cases r
    unfold pd at h
    exact dp_atom h
  | .lst ts, x, d, r, h => by
    unfold pd at h
    cases q : pdL ts with
    | none => rw [q] at h; cases h
    | some ds =>
      rw [q] at h; cases h
      cases r with
      | lst f h r => exact .lst (.inl (.inl h)) (dpL_of ts _ ds r q)
  | .tup ts, x, d, r, h => by
    unfold pd at h
    cases q : pdL ts with
    | none => rw [q] at h; cases h
    | some ds =>
      rw [q] at h; cases h
      cases r with
      | tup f h r => exact .tup (.inl (.inl h)) (dpL_of ts _ ds r q)
  | .cel _, _, _, _, h => by unfold pd at h; cases h
  | .scr _, _, _, _, h => by unfold pd at h; cases h
  | .dK _ _, _, _, _, h => by unfold pd at h; cases h
  | .dT _ _, _, _, _, h => by unfold pd at h; cases h
  | .set _ _, _, _, _, h => by unfold pd at h; cases h
  | .ins _ _ _, _, _, _, h => by unfold pd at h; cases h
theorem dpL_of {W : Wd} {H : Hp} : ∀ (ts : List T) (xs : List V) (ds : List PyData), RpL K W H ts xs → pdL ts = some ds → DpAll K H xs ds
  | [], xs, ds, r, h => by
    unfold pdL at h; cases h; cases r; exact .nil
  | t :: ts, xs, ds, r, h => by
    unfold pdL at h
    cases q1 : pd t with
    | none => rw [q1] at h; cases h
    | some d =>
      cases q2 : pdL ts with
      | none => rw [q1, q2] at h; cases h
      | some es =>
        rw [q1, q2] at h; cases h
        cases r with
        | cons r rs => exact .cons (dp_of t _ d r q1) (dpL_of ts _ es rs q2)
end
/-- data that may be compared -/
def shp (t : T) : Bool := match pd t with
  | some d => SeqAt.shaped d
  | none => false
def eqT (t u : T) : Bool := match pd t, pd u with
  | some d, some e => PyData.eqv d e
  | _, _ => false
theorem shp_of {t : T} (h : shp t = true) : ∃ d, pd t = some d ∧ SeqAt.shaped d = true := by
  unfold shp at h
  cases q : pd t with
  | none => rw [q] at h; cases h
  | some d => rw [q] at h; exact ⟨d, rfl, h⟩
theorem ot_eqD (h1 : shp t = true) (h2 : shp u = true) : OpT K (rEqD K) t u L (.v (B (eqT t u))) := fun W H x y Q s r1 r2 q => by
  obtain ⟨d, e1, s1⟩ := shp_of h1
  obtain ⟨e, e2, s2⟩ := shp_of h2
  refine ⟨d, e, dp_of t x d r1 e1, dp_of u y e r2 e2, s1, s2, ?_⟩
  have : eqT t u = PyData.eqv d e := by unfold eqT; rw [e1, e2]
  rw [← this]
  exact q _ W H .refl s (.v _)
theorem ot_neD (h1 : shp t = true) (h2 : shp u = true) : OpT K (rNeD K) t u L (.v (B (!eqT t u))) := fun W H x y Q s r1 r2 q => by
  obtain ⟨d, e1, s1⟩ := shp_of h1
  obtain ⟨e, e2, s2⟩ := shp_of h2
  refine ⟨d, e, dp_of t x d r1 e1, dp_of u y e r2 e2, s1, s2, ?_⟩
  have : eqT t u = PyData.eqv d e := by unfold eqT; rw [e1, e2]
  rw [← this]
  exact q _ W H .refl s (.v _)
theorem Ct.u64 (ct : Ct CX P w K mg base k N sc fs X) : X.A.units + 64 < cLine := by have := ct.room.un; omega
theorem Ct.u65 (ct : Ct CX P w K mg base k N sc fs X) : X.A.units + 65 < cLine := by have := ct.room.un; omega
theorem Ct.u1 (ct : Ct CX P w K mg base k N sc fs X) : X.A.units + 1 < cLine := by have := ct.room.un; omega
theorem ev_eq (ct : Ct CX P w K mg base k N sc fs X) (ha : Ev X a ρ L (.v t) L1) (hb : Ev X b ρ L1 (.v u) Lb) (h1 : shp t = true) (h2 : shp u = true) : Ev X (.Compare a [.Eq] [b] pos) ρ L (.v (B (eqT t u))) Lb := ev_cmp (op_eqD ct.u64) ha hb (ot_eqD h1 h2) (nomark _)
theorem ev_ne (ct : Ct CX P w K mg base k N sc fs X) (ha : Ev X a ρ L (.v t) L1) (hb : Ev X b ρ L1 (.v u) Lb) (h1 : shp t = true) (h2 : shp u = true) : Ev X (.Compare a [.NotEq] [b] pos) ρ L (.v (B (!eqT t u))) Lb := ev_cmp (op_neD ct.u64) ha hb (ot_neD h1 h2) (nomark _)
theorem eb_eq (ct : Ct CX P w K mg base k N sc fs X) (ha : Ev X a ρ L (.v t) L1) (hb : Ev X b ρ L1 (.v u) Lb) (h1 : shp t = true) (h2 : shp u = true) : EvB X (.Compare a [.Eq] [b] pos) ρ L (eqT t u) Lb := eb_cmp (op_eqD ct.u64) ha hb (ot_eqD h1 h2) (nomark _)
theorem eb_ne (ct : Ct CX P w K mg base k N sc fs X) (ha : Ev X a ρ L (.v t) L1) (hb : Ev X b ρ L1 (.v u) Lb) (h1 : shp t = true) (h2 : shp u = true) : EvB X (.Compare a [.NotEq] [b] pos) ρ L (!eqT t u) Lb := eb_cmp (op_neD ct.u64) ha hb (ot_neD h1 h2) (nomark _)
/-- == of ints -/
theorem ot_eqI : OpT K rEq (I i) (I j) L (.v (B (decide (i = j)))) := fun W H x y Q s r1 r2 q => by
  cases r1; cases r2
  have : decide (i = j) = decide (V.int i = V.int j) := by
    by_cases e : i = j
    · subst e; simp
    · rw [decide_eq_false e, decide_eq_false (fun z => e (V.int.inj z))]
  exact ⟨rfl, by rw [← this]; exact q _ W H .refl s (.v _)⟩
theorem ot_neI : OpT K rNe (I i) (I j) L (.v (B (!decide (i = j)))) := fun W H x y Q s r1 r2 q => by
  cases r1; cases r2
  have : decide (i = j) = decide (V.int i = V.int j) := by
    by_cases e : i = j
    · subst e; simp
    · rw [decide_eq_false e, decide_eq_false (fun z => e (V.int.inj z))]
  exact ⟨rfl, by rw [← this]; exact q _ W H .refl s (.v _)⟩
theorem ev_eqI (ha : Ev X a ρ L (.v (I i)) L1) (hb : Ev X b ρ L1 (.v (I j)) Lb) : Ev X (.Compare a [.Eq] [b] pos) ρ L (.v (B (decide (i = j)))) Lb := ev_cmp op_eq ha hb ot_eqI (nomark _)
theorem ev_neI (ha : Ev X a ρ L (.v (I i)) L1) (hb : Ev X b ρ L1 (.v (I j)) Lb) : Ev X (.Compare a [.NotEq] [b] pos) ρ L (.v (B (!decide (i = j)))) Lb := ev_cmp op_ne ha hb ot_neI (nomark _)
theorem eb_eqI (ha : Ev X a ρ L (.v (I i)) L1) (hb : Ev X b ρ L1 (.v (I j)) Lb) : EvB X (.Compare a [.Eq] [b] pos) ρ L (decide (i = j)) Lb := eb_cmp op_eq ha hb ot_eqI (nomark _)
theorem eb_neI (ha : Ev X a ρ L (.v (I i)) L1) (hb : Ev X b ρ L1 (.v (I j)) Lb) : EvB X (.Compare a [.NotEq] [b] pos) ρ L (!decide (i = j)) Lb := eb_cmp op_ne ha hb ot_neI (nomark _)
/-- is None -/
def isN : T → Bool
  | .v x => decide (x = .non)
  | _ => false
theorem isN_of {W : Wd} {H : Hp} {x : V} (r : Rp K W H t x) : decide (x = .non) = isN t := by
  cases r <;> simp [isN]
theorem ot_isN : OpT K (fun x y H Q => y = .non ∧ Q (.bl (decide (x = .non))) H) t N0 L (.v (B (isN t))) := fun W H x y Q s r1 r2 q => by
  cases r2
  exact ⟨rfl, by rw [isN_of r1]; exact q _ W H .refl s (.v _)⟩
theorem ot_notN : OpT K (fun x y H Q => y = .non ∧ Q (.bl (!decide (x = .non))) H) t N0 L (.v (B (!isN t))) := fun W H x y Q s r1 r2 q => by
  cases r2
  exact ⟨rfl, by rw [isN_of r1]; exact q _ W H .refl s (.v _)⟩
theorem ev_isN (ha : Ev X a ρ L (.v t) L1) {j p} : Ev X (.Compare a [.Is] [.Constant .none j p] pos) ρ L (.v (B (isN t))) L1 := ev_cmp op_isN ha ev_non ot_isN (nomark _)
theorem eb_isN (ha : Ev X a ρ L (.v t) L1) {j p} : EvB X (.Compare a [.Is] [.Constant .none j p] pos) ρ L (isN t) L1 := eb_cmp op_isN ha ev_non ot_isN (nomark _)
theorem ev_notN (ha : Ev X a ρ L (.v t) L1) {j p} : Ev X (.Compare a [.IsNot] [.Constant .none j p] pos) ρ L (.v (B (!isN t))) L1 := ev_cmp op_notN ha ev_non ot_notN (nomark _)
theorem eb_notN (ha : Ev X a ρ L (.v t) L1) {j p} : EvB X (.Compare a [.IsNot] [.Constant .none j p] pos) ρ L (!isN t) L1 := eb_cmp op_notN ha ev_non ot_notN (nomark _)
/-- x in a list of data -/
def inT (x : T) : T → Bool
  | .lst ts => ts.any fun y => eqT y x
  | .tup ts => ts.any fun y => eqT y x
  | _ => false
theorem any_pd {ts : List T} {ds : List PyData} {x : T} {d : PyData} (h : pdL ts = some ds) (hd : pd x = some d) : (ds.any fun z => PyData.eqv z d) = ts.any fun y => eqT y x := by
  induction ts generalizing ds with
  | nil => unfold pdL at h; cases h; rfl
  | cons t ts ih =>
    unfold pdL at h
    cases q1 : pd t with
    | none => rw [q1] at h; cases h
    | some d1 =>
      cases q2 : pdL ts with
      | none => rw [q1, q2] at h; cases h
      | some es =>
        rw [q1, q2] at h; cases h
        have e1 : eqT t x = PyData.eqv d1 d := by unfold eqT; rw [q1, hd]
        rw [List.any_cons, List.any_cons, ih q2, e1]
theorem pd_lst {ts : List T} {d : PyData} (h : pd (.lst ts) = some d) : ∃ ds, d = .list ds ∧ pdL ts = some ds := by
  unfold pd at h
  cases q : pdL ts with
  | none => rw [q] at h; cases h
  | some ds => rw [q] at h; cases h; exact ⟨ds, rfl, rfl⟩
theorem ot_inD (h1 : shp t = true) (h2 : shp (.lst ts) = true) : OpT K (rInD K) t (.lst ts) L (.v (B (inT t (.lst ts)))) := fun W H x y Q s r1 r2 q => by
  obtain ⟨d, e1, s1⟩ := shp_of h1
  obtain ⟨e, e2, s2⟩ := shp_of h2
  obtain ⟨ds, rfl, e3⟩ := pd_lst e2
  refine ⟨d, ds, dp_of t x d r1 e1, dp_of _ y _ r2 e2, s1, s2, ?_⟩
  rw [any_pd e3 e1]
  exact q _ W H .refl s (.v _)
theorem ot_notInD (h1 : shp t = true) (h2 : shp (.lst ts) = true) : OpT K (rNotInD K) t (.lst ts) L (.v (B (!inT t (.lst ts)))) := fun W H x y Q s r1 r2 q => by
  obtain ⟨d, e1, s1⟩ := shp_of h1
  obtain ⟨e, e2, s2⟩ := shp_of h2
  obtain ⟨ds, rfl, e3⟩ := pd_lst e2
  refine ⟨d, ds, dp_of t x d r1 e1, dp_of _ y _ r2 e2, s1, s2, ?_⟩
  rw [any_pd e3 e1]
  exact q _ W H .refl s (.v _)
theorem ev_in (ct : Ct CX P w K mg base k N sc fs X) (ha : Ev X a ρ L (.v t) L1) (hb : Ev X b ρ L1 (.v (.lst ts)) Lb) (h1 : shp t = true) (h2 : shp (.lst ts) = true) (hm : behindInMarks .In b = false := by rfl) : Ev X (.Compare a [.In] [b] pos) ρ L (.v (B (inT t (.lst ts)))) Lb := ev_cmp (op_inD ct.u65) ha hb (ot_inD h1 h2) hm
theorem eb_in (ct : Ct CX P w K mg base k N sc fs X) (ha : Ev X a ρ L (.v t) L1) (hb : Ev X b ρ L1 (.v (.lst ts)) Lb) (h1 : shp t = true) (h2 : shp (.lst ts) = true) (hm : behindInMarks .In b = false := by rfl) : EvB X (.Compare a [.In] [b] pos) ρ L (inT t (.lst ts)) Lb := eb_cmp (op_inD ct.u65) ha hb (ot_inD h1 h2) hm
theorem ev_nin (ct : Ct CX P w K mg base k N sc fs X) (ha : Ev X a ρ L (.v t) L1) (hb : Ev X b ρ L1 (.v (.lst ts)) Lb) (h1 : shp t = true) (h2 : shp (.lst ts) = true) (hm : behindInMarks .NotIn b = false := by rfl) : Ev X (.Compare a [.NotIn] [b] pos) ρ L (.v (B (!inT t (.lst ts)))) Lb := ev_cmp (op_notInD ct.u65) ha hb (ot_notInD h1 h2) hm
theorem eb_nin (ct : Ct CX P w K mg base k N sc fs X) (ha : Ev X a ρ L (.v t) L1) (hb : Ev X b ρ L1 (.v (.lst ts)) Lb) (h1 : shp t = true) (h2 : shp (.lst ts) = true) (hm : behindInMarks .NotIn b = false := by rfl) : EvB X (.Compare a [.NotIn] [b] pos) ρ L (!inT t (.lst ts)) Lb := eb_cmp (op_notInD ct.u65) ha hb (ot_notInD h1 h2) hm
/-- a op b op' c -/
theorem ev_chain {op op' : CmpOp} {r r' : R2} {z z' : Bool} {o : T} (ho : OpR X (compareOp op) r) (ho' : OpR X (compareOp op') r') (ha : Ev X a ρ L (.v t) L1) (hb : Ev X b ρ L1 (.v u) Lb) (hr : OpT X.K r t u Lb (.v (B z)))
    (hc : z = true → Ev X c ρ Lb (.v o) Lb) (hr' : z = true → OpT X.K r' u o Lb (.v (B z'))) (hm : lastMarks [op, op'] [b, c] = false := by with_unfolding_all rfl) : Ev X (.Compare a [op, op'] [b, c] pos) ρ L (.v (B (z && z'))) Lb := by
  refine ⟨fun W H σ Q s en q => ?_⟩
  refine wp_pe (pe_chain ho ho' pe_wp pe_wp pe_wp hm) ?_
  refine ha W H σ _ s en fun x W1 H1 st1 s1 r1 => ?_
  refine hb W1 H1 σ _ s1 (en.step st1 s) fun y W2 H2 st2 s2 r2 => ?_
  refine hr W2 H2 x y _ s2 (Rp.step r1 st2 s1) r2 fun v W3 H3 st3 s3 r3 => ?_
  cases r3
  refine ⟨z, rfl, ?_⟩
  have st13 := (st1.trans st2).trans st3
  cases z with
  | false =>
    show Q (.bl false) H3
    exact q _ W3 H3 st13 s3 (.v _)
  | true =>
    show wpE X c σ H3 _
    refine hc rfl W3 H3 σ _ s3 (en.step st13 s) fun o' W4 H4 st4 s4 r4 => ?_
    refine hr' rfl W4 H4 y o' Q s4 (Rp.step (Rp.step r2 st3 s2) st4 s3) r4 fun v W5 H5 st5 s5 r5 => ?_
    cases r5
    exact q _ W5 H5 ((st13.trans st4).trans st5) s5 (.v _)
theorem eb_val (h : Ev X e ρ L (.v (B z)) L1) (he : ∀ whole, isTrue e X.env whole = (do let v ← whole; standAt e.pos; holding [v] (truthy v)) := by intro _; rfl) : EvB X e ρ L z L1 := by
  refine ⟨fun W H σ Q s en q => ?_⟩
  refine wp_pt (pt_val pe_wp he) ?_
  refine h W H σ _ s en fun x W1 H1 st1 s1 r1 => ?_
  cases r1
  exact ⟨z, rfl, q W1 H1 st1 s1⟩
theorem ev_leltI {x y z : Int} (ha : Ev X a ρ L (.v (I x)) L1) (hb : Ev X b ρ L1 (.v (I y)) Lb) (hc : decide (x ≤ y) = true → Ev X c ρ Lb (.v (I z)) Lb) (hm : lastMarks [.LtE, .Lt] [b, c] = false := by with_unfolding_all rfl) : Ev X (.Compare a [.LtE, .Lt] [b, c] pos) ρ L (.v (B (decide (x ≤ y) && decide (y < z)))) Lb :=
  ev_chain op_le op_lt ha hb ot_I0 hc (fun _ => ot_I0) hm
theorem ev_leleI {x y z : Int} (ha : Ev X a ρ L (.v (I x)) L1) (hb : Ev X b ρ L1 (.v (I y)) Lb) (hc : decide (x ≤ y) = true → Ev X c ρ Lb (.v (I z)) Lb) (hm : lastMarks [.LtE, .LtE] [b, c] = false := by with_unfolding_all rfl) : Ev X (.Compare a [.LtE, .LtE] [b, c] pos) ρ L (.v (B (decide (x ≤ y) && decide (y ≤ z)))) Lb :=
  ev_chain op_le op_le ha hb ot_I0 hc (fun _ => ot_I0) hm

/-! truth -/
theorem eb_not {z : Bool} (h : EvB X a ρ L z L1) : EvB X (.UnaryOp .Not a pos) ρ L (!z) L1 := by
  refine ⟨fun W H σ Q s en q => ?_⟩
  refine wp_pt (pt_not pt_wp) ?_
  exact h W H σ _ s en fun W1 H1 st1 s1 => q W1 H1 st1 s1
theorem ew_and1 {z : Bool} (h : EvB X a ρ L z L1) : EvW X (.BoolOp .And [a] pos) ρ L z L1 := ⟨fun W H σ Q s en q => wp_pw (pw_and1 pt_wp) (h W H σ Q s en q)⟩
theorem ew_or1 {z : Bool} (h : EvB X a ρ L z L1) : EvW X (.BoolOp .Or [a] pos) ρ L z L1 := ⟨fun W H σ Q s en q => wp_pw (pw_or1 pt_wp) (h W H σ Q s en q)⟩
/-- and: the second is asked where the first holds; the store is not turned by it -/
theorem ew_and {y z : Bool} (ha : EvB X a ρ L y L1) (hb : y = true → EvW X (.BoolOp .And (b :: es) pos) ρ L1 z L1) : EvW X (.BoolOp .And (a :: b :: es) pos) ρ L (y && z) L1 := by
  refine ⟨fun W H σ Q s en q => ?_⟩
  refine wp_pw (pw_and pt_wp pw_wp) ?_
  refine ha W H σ _ s en fun W1 H1 st1 s1 => ?_
  cases y with
  | true =>
    show wpW X _ σ H1 Q
    exact hb rfl W1 H1 σ Q s1 (en.step st1 s) fun W2 H2 st2 s2 => q W2 H2 (st1.trans st2) s2
  | false =>
    show Q false H1
    exact q W1 H1 st1 s1
theorem ew_or {y z : Bool} (ha : EvB X a ρ L y L1) (hb : y = false → EvW X (.BoolOp .Or (b :: es) pos) ρ L1 z L1) : EvW X (.BoolOp .Or (a :: b :: es) pos) ρ L (y || z) L1 := by
  refine ⟨fun W H σ Q s en q => ?_⟩
  refine wp_pw (pw_or pt_wp pw_wp) ?_
  refine ha W H σ _ s en fun W1 H1 st1 s1 => ?_
  cases y with
  | true =>
    show Q true H1
    exact q W1 H1 st1 s1
  | false =>
    show wpW X _ σ H1 Q
    exact hb rfl W1 H1 σ Q s1 (en.step st1 s) fun W2 H2 st2 s2 => q W2 H2 (st1.trans st2) s2
theorem EvW.tst {z : Bool} (h : EvW X e ρ L z L1) : EvB X e ρ L z L1 := ⟨fun W H σ Q s en q pins st I => h W H σ Q s en q _ pins st I⟩
/-- values that are bools -/
theorem ev_not {z : Bool} (h : Ev X a ρ L (.v (B z)) L1) : Ev X (.UnaryOp .Not a pos) ρ L (.v (B (!z))) L1 := by
  refine ⟨fun W H σ Q s en q => ?_⟩
  refine wp_pe (pe_not pe_wp) ?_
  refine h W H σ _ s en fun x W1 H1 st1 s1 r1 => ?_
  cases r1
  exact ⟨z, rfl, q _ W1 H1 st1 s1 (.v _)⟩
theorem ev_bool1 {op} {r : R} (h : Ev X a ρ L r L1) : Ev X (.BoolOp op [a] pos) ρ L r L1 := ⟨fun W H σ Q s en q => wp_pe (pe_one pe_wp) (h W H σ Q s en q)⟩
theorem ev_and {y z : Bool} (ha : Ev X a ρ L (.v (B y)) L1) (hb : y = true → Ev X (.BoolOp .And (b :: es) pos) ρ L1 (.v (B z)) L1) : Ev X (.BoolOp .And (a :: b :: es) pos) ρ L (.v (B (y && z))) L1 := by
  refine ⟨fun W H σ Q s en q => ?_⟩
  refine wp_pe (pe_and pe_wp pe_wp) ?_
  refine ha W H σ _ s en fun x W1 H1 st1 s1 r1 => ?_
  cases r1
  refine ⟨y, rfl, ?_⟩
  cases y with
  | true =>
    show wpE X _ σ H1 Q
    exact hb rfl W1 H1 σ Q s1 (en.step st1 s) fun v W2 H2 st2 s2 r2 => q v W2 H2 (st1.trans st2) s2 r2
  | false =>
    show Q (.bl false) H1
    exact q _ W1 H1 st1 s1 (.v _)
theorem ev_or {y z : Bool} (ha : Ev X a ρ L (.v (B y)) L1) (hb : y = false → Ev X (.BoolOp .Or (b :: es) pos) ρ L1 (.v (B z)) L1) : Ev X (.BoolOp .Or (a :: b :: es) pos) ρ L (.v (B (y || z))) L1 := by
  refine ⟨fun W H σ Q s en q => ?_⟩
  refine wp_pe (pe_or pe_wp pe_wp) ?_
  refine ha W H σ _ s en fun x W1 H1 st1 s1 r1 => ?_
  cases r1
  refine ⟨y, rfl, ?_⟩
  cases y with
  | true =>
    show Q (.bl true) H1
    exact q _ W1 H1 st1 s1 (.v _)
  | false =>
    show wpE X _ σ H1 Q
    exact hb rfl W1 H1 σ Q s1 (en.step st1 s) fun v W2 H2 st2 s2 r2 => q v W2 H2 (st1.trans st2) s2 r2
theorem ev_ifT {r : R} (hc : EvB X c ρ L true L1) (ha : Ev X a ρ L1 r Lb) : Ev X (.IfExp c a b pos) ρ L r Lb := by
  refine ⟨fun W H σ Q s en q => ?_⟩
  refine wp_pe (pe_ifExp pt_wp pe_wp pe_wp) ?_
  refine hc W H σ _ s en fun W1 H1 st1 s1 => ?_
  show wpE X _ σ H1 Q
  exact ha W1 H1 σ Q s1 (en.step st1 s) fun v W2 H2 st2 s2 r2 => q v W2 H2 (st1.trans st2) s2 (r2.back st1.dom)
theorem ev_ifF {r : R} (hc : EvB X c ρ L false L1) (hb : Ev X b ρ L1 r Lb) : Ev X (.IfExp c a b pos) ρ L r Lb := by
  refine ⟨fun W H σ Q s en q => ?_⟩
  refine wp_pe (pe_ifExp pt_wp pe_wp pe_wp) ?_
  refine hc W H σ _ s en fun W1 H1 st1 s1 => ?_
  show wpE X _ σ H1 Q
  exact hb W1 H1 σ Q s1 (en.step st1 s) fun v W2 H2 st2 s2 r2 => q v W2 H2 (st1.trans st2) s2 (r2.back st1.dom)
/-- a if c else b, both ways; the store behind is the same -/
theorem ev_if {z : Bool} {ra rb : R} (hc : EvB X c ρ L z L1) (ha : z = true → Ev X a ρ L1 ra Lb) (hb : z = false → Ev X b ρ L1 rb Lb) : Ev X (.IfExp c a b pos) ρ L (if z = true then ra else rb) Lb := by
  cases z with
  | true => exact ev_ifT hc (ha rfl)
  | false => exact ev_ifF hc (hb rfl)
theorem ev_ifV {z : Bool} {ta tb : T} (hc : EvB X c ρ L z L1) (ha : z = true → Ev X a ρ L1 (.v ta) Lb) (hb : z = false → Ev X b ρ L1 (.v tb) Lb) : Ev X (.IfExp c a b pos) ρ L (.v (if z = true then ta else tb)) Lb := by
  cases z with
  | true => exact ev_ifT hc (ha rfl)
  | false => exact ev_ifF hc (hb rfl)

/-! lists of expressions, displays -/
theorem ea_nil : EvA X [] ρ L [] L := ⟨fun W H σ Q s _ q => wp_pa pa_nil (q [] W H .refl s .nil)⟩
theorem se1 {n : Str} {p : Pos} {r : List Expr} {env : Env} : starEach (.Name n p :: r) env = (false, eval (.Name n p) env) :: starEach r env := rfl
theorem se2 {c : Const} {j p} {r : List Expr} {env : Env} : starEach (.Constant c j p :: r) env = (false, eval (.Constant c j p) env) :: starEach r env := rfl
theorem se3 {l : List Expr} {p : Pos} {r : List Expr} {env : Env} : starEach (.List l p :: r) env = (false, eval (.List l p) env) :: starEach r env := rfl
theorem se4 {l : List Expr} {j p} {r : List Expr} {env : Env} : starEach (.Tuple l j p :: r) env = (false, eval (.Tuple l j p) env) :: starEach r env := rfl
theorem se5 {f : Expr} {l k p} {r : List Expr} {env : Env} : starEach (.Call f l k p :: r) env = (false, eval (.Call f l k p) env) :: starEach r env := rfl
theorem se6 {x y : Expr} {o p} {r : List Expr} {env : Env} : starEach (.BinOp x o y p :: r) env = (false, eval (.BinOp x o y p) env) :: starEach r env := rfl
theorem se7 {x y : Expr} {p} {r : List Expr} {env : Env} : starEach (.Subscript x y p :: r) env = (false, eval (.Subscript x y p) env) :: starEach r env := rfl
theorem se8 {x : Expr} {n p} {r : List Expr} {env : Env} : starEach (.Attribute x n p :: r) env = (false, eval (.Attribute x n p) env) :: starEach r env := rfl
theorem se9 {x : Expr} {g s p} {r : List Expr} {env : Env} : starEach (.ListComp x g s p :: r) env = (false, eval (.ListComp x g s p) env) :: starEach r env := rfl
theorem ea_cons (ha : Ev X e ρ L (.v t) L1) (hb : EvA X es ρ L1 ts Lb) (hs : starEach (e :: es) X.env = (false, eval e X.env) :: starEach es X.env := by first | with_reducible exact se1 | with_reducible exact se2 | with_reducible exact se3 | with_reducible exact se4 | with_reducible exact se5 | with_reducible exact se6 | with_reducible exact se7 | with_reducible exact se8 | with_reducible exact se9 | rfl) : EvA X (e :: es) ρ L (t :: ts) Lb := by
  refine ⟨fun W H σ Q s en q => ?_⟩
  refine wp_pa (pa_cons pe_wp pa_wp hs) ?_
  refine ha W H σ _ s en fun x W1 H1 st1 s1 r1 => ?_
  refine hb W1 H1 σ _ s1 (en.step st1 s) fun xs W2 H2 st2 s2 r2 => ?_
  exact q _ W2 H2 (st1.trans st2) s2 (.cons (Rp.step r1 st2 s1) r2)
theorem sz_small {n : Nat} (h : n ≤ 100000) : n ≤ sizeLine := Nat.le_trans h (by decide)
/-- a new object p, laid -/
theorem new_n {W : Wd} {H : Hp} {p : Addr} {o : HO} (s : SR K W H L) (hp : H p = none) (hc : CellR K W (upd H p o) t p) : RR K W L H (upd H p o) (.n t) (.ref p) :=
  ⟨p, rfl, hp, fun f => s.fh p f hp, fun n l h => s.adh n p l h hp, hc⟩
theorem ev_lst (ha : EvA X es ρ L ts L1) (hl : es.length ≤ 100000) (hl2 : ts.length = es.length) : Ev X (.List es pos) ρ L (.n (.lst ts)) L1 := by
  refine ⟨fun W H σ Q s en q => ?_⟩
  refine wp_pe (pe_lst pa_wp) ?_
  refine ha W H σ _ s en fun xs W1 H1 st1 s1 r1 => ⟨sz_small (by rw [← r1.length, hl2]; exact hl), fun p hp => ?_⟩
  exact q _ W1 _ (st1.trans (.newp hp)) (s1.new hp) ((new_n (t := .lst ts) s1 hp ⟨xs, upd_same, r1.newp hp⟩).back st1.dom)
theorem ev_tup {x1} (ha : EvA X es ρ L ts L1) (hl : es.length ≤ 100000) (hl2 : ts.length = es.length) : Ev X (.Tuple es x1 pos) ρ L (.v (.tup ts)) L1 := by
  refine ⟨fun W H σ Q s en q => ?_⟩
  refine wp_pe (pe_tup pa_wp) ?_
  refine ha W H σ _ s en fun xs W1 H1 st1 s1 r1 => ⟨sz_small (by rw [← r1.length, hl2]; exact hl), fun p hp => ?_⟩
  have st2 : Step W L H W1 L1 (upd H1 p (.tup xs)) := st1.trans (.newp hp)
  have hn : H p = none := by
    cases e : H p with
    | none => rfl
    | some o => exact absurd hp (st1.dom p (by rw [e]; exact fun z => nomatch z))
  refine q _ (W1.frz p) _ (st2.frz (.inl hn)) ((s1.new hp).frz (by rw [upd_same]; exact fun z => nomatch z) fun n l h => s1.adh n p l h hp) ?_
  exact .tup (.inr rfl) upd_same (r1.newp hp).frz
end
end TL


/-! The tree layer, part C: subscripts, calls, fields, comprehensions. -/
namespace TL
open PySem PySem.Spec PyProof.Rows L2

theorem none_back {W W' : Wd} {L L' : Store} {H H' : Hp} {p : Addr} (st : Step W L H W' L' H') (h : H' p = none) : H p = none := by
  cases e : H p with
  | none => rfl
  | some o => exact absurd h (st.dom p (by rw [e]; exact fun z => nomatch z))

/-- a list that may be read: a frozen one, the script, a cell -/
def LstT (L : Store) (t : T) (ts : List T) : Prop := t = .lst ts ∨ t = .scr ts ∨ ∃ n, t = .cel n ∧ L n = some (.lst ts)
theorem lst_sq {K : PySem.W.Frag} {W : Wd} {H : Hp} {L : Store} {t : T} {ts : List T} {x : V} (s : SR K W H L) (r : Rp K W H t x) (h : LstT L t ts) : ∃ a vs, x = .ref a ∧ SqL K H a vs ∧ RpL K W H ts vs := by
  rcases h with rfl | rfl | ⟨n, rfl, e⟩
  · cases r with | lst f h r => exact ⟨_, _, rfl, .inl (.inl h), r⟩
  · cases r with
    | scr h r =>
      rcases h with ⟨f, o, h⟩ | h
      · exact ⟨_, _, rfl, .inl (.inr ⟨o, h⟩), r⟩
      · exact ⟨_, _, rfl, .inr h, r⟩
  · cases r with
    | cel h =>
      obtain ⟨vs, e1, r⟩ := s.cel n _ _ e h
      exact ⟨_, vs, rfl, .inl (.inl e1), r⟩
/-- .. that is no script -/
def LstM (L : Store) (t : T) (ts : List T) : Prop := t = .lst ts ∨ ∃ n, t = .cel n ∧ L n = some (.lst ts)
theorem lst_m {K : PySem.W.Frag} {W : Wd} {H : Hp} {L : Store} {t : T} {ts : List T} {x : V} (s : SR K W H L) (r : Rp K W H t x) (h : LstM L t ts) : ∃ a vs, x = .ref a ∧ H a = some (.lst vs) ∧ RpL K W H ts vs := by
  rcases h with rfl | ⟨n, rfl, e⟩
  · cases r with | lst f h r => exact ⟨_, _, rfl, h, r⟩
  · cases r with
    | cel h =>
      obtain ⟨vs, e1, r⟩ := s.cel n _ _ e h
      exact ⟨_, vs, rfl, e1, r⟩
/-- an instance that may be read -/
def InsT (L : Store) (t : T) (C : Addr) (ns : List Str) (ts : List T) : Prop := t = .ins C ns ts ∨ ∃ n, t = .cel n ∧ L n = some (.ins C ns ts)
theorem ins_at {K : PySem.W.Frag} {W : Wd} {H : Hp} {L : Store} {t : T} {C : Addr} {ns : List Str} {ts : List T} {x : V} (s : SR K W H L) (r : Rp K W H t x) (h : InsT L t C ns ts) : ∃ a dx vs, x = .ref a ∧ H a = some (.ins C dx (ns.zip vs)) ∧ ns.length = vs.length ∧ RpL K W H ts vs := by
  rcases h with rfl | ⟨n, rfl, e⟩
  · cases r with | ins f h l r => exact ⟨_, _, _, rfl, h, l, r⟩
  · cases r with
    | cel h =>
      obtain ⟨dx, vs, e1, l, r⟩ := s.cel n _ _ e h
      exact ⟨_, dx, vs, rfl, e1, l, r⟩
theorem lookup_zip {K : PySem.W.Frag} {W : Wd} {H : Hp} {f : Str} : ∀ {ns : List Str} {ts : List T} {vs : List V} {u : T}, RpL K W H ts vs → (ns.zip ts).lookup f = some u → ∃ x, (ns.zip vs).lookup f = some x ∧ Rp K W H u x
  | [], _, _, _, _, e => by simp at e
  | n :: ns, [], _, _, _, e => by simp at e
  | n :: ns, t :: ts, _, u, r, e => by
    cases r with
    | cons r rs =>
      rename_i x xs
      rw [List.zip_cons_cons, List.lookup_cons] at e
      rw [List.zip_cons_cons, List.lookup_cons]
      cases q : f == n with
      | true => rw [q] at e; cases e; exact ⟨_, rfl, r⟩
      | false => rw [q] at e; exact lookup_zip rs e
theorem lookup_zip_none {K : PySem.W.Frag} {W : Wd} {H : Hp} {f : Str} : ∀ {ns : List Str} {ts : List T} {vs : List V}, RpL K W H ts vs → (ns.zip ts).lookup f = none → (ns.zip vs).lookup f = none
  | [], _, _, _, _ => by simp
  | n :: ns, [], _, r, e => by cases r; simp
  | n :: ns, t :: ts, _, r, e => by
    cases r with
    | cons r rs =>
      rw [List.zip_cons_cons, List.lookup_cons] at e
      rw [List.zip_cons_cons, List.lookup_cons]
      cases q : f == n with
      | true => rw [q] at e; cases e
      | false => rw [q] at e; exact lookup_zip_none rs e
theorem atI_rp {K : PySem.W.Frag} {W : Wd} {H : Hp} {ts : List T} {vs : List V} {i : Int} {t : T} (r : RpL K W H ts vs) (h : atI ts i = some t) : ∃ x, atI vs i = some x ∧ Rp K W H t x := by
  unfold atI at h ⊢
  rw [← r.length]
  cases q : ixN ts.length i with
  | none => rw [q] at h; cases h
  | some j =>
    rw [q] at h
    have h' : ts[j]? = some t := h
    exact r.get h'
def cutT {α : Type} (xs : List α) (lo hi : Option Int) : List α := (xs.drop (HT.sIx xs.length 0 lo)).take (HT.sIx xs.length xs.length hi - HT.sIx xs.length 0 lo)
theorem cut_rp {K : PySem.W.Frag} {W : Wd} {H : Hp} {ts : List T} {vs : List V} (r : RpL K W H ts vs) (lo hi : Option Int) : RpL K W H (cutT ts lo hi) (cutV vs lo hi) := by
  unfold cutT cutV
  rw [r.length]
  exact (r.drop _).take _

/-! iterators -/
def wpI (X : Cx) (tg iter : Expr) (σ : L2.St) (H : Hp) (R : It → Hp → Prop) : Prop := ∀ (pins : List (Addr × Obj)) (s : Shared), Inv X pins σ H s →
  wpAny (model X.prog X.w) X.A (eval iter X.env) (fun v s1 => wpAny (model X.prog X.w) X.A (pyIter v) (PIE X pins σ tg R) X.xe s1) X.xe s
theorem pi_wp {X : Cx} {tg iter : Expr} : PI X tg iter (wpI X tg iter) := ⟨fun pins s _ _ _ I h => h pins s I⟩
theorem wp_pi {X : Cx} {tg iter : Expr} {t : TI} {σ : L2.St} {H : Hp} {R : It → Hp → Prop} (h : PI X tg iter t) (q : t σ H R) : wpI X tg iter σ H R := fun pins s I => h.run pins s σ H R I q
/-- the iterator gives just the items ts, whatever the turns do to cells -/
structure WalkT (K : PySem.W.Frag) (W : Wd) (L : Store) (H : Hp) (J : It) (ts : List T) : Prop where
  turn : ∀ (i : Nat) (t : T), ts[i]? = some t → ∀ W1 L1 H1, Step W L H W1 L1 H1 → SR K W1 H1 L1 → J.go i H1 ∧ ∀ x H2, J.yld i H1 x H2 → ∃ W2, Step W1 L1 H1 W2 L1 H2 ∧ SR K W2 H2 L1 ∧ Rp K W2 H2 t x
  stop : ∀ W1 L1 H1, Step W L H W1 L1 H1 → SR K W1 H1 L1 → J.stop ts.length H1
structure EvI (X : Cx) (tg iter : Expr) (ρ : TEnv) (L : Store) (ts : List T) (L' : Store) : Prop where
  go : ∀ (W : Wd) (H : Hp) (σ : L2.St) (R : It → Hp → Prop), SR X.K W H L → EnvR X.K W H ρ σ → (∀ J W' H', Step W L H W' L' H' → SR X.K W' H' L' → WalkT X.K W' L' H' J ts → R J H') → wpI X tg iter σ H R
instance {X : Cx} {tg iter : Expr} {ρ : TEnv} {L : Store} {ts : List T} {L' : Store} : CoeFun (EvI X tg iter ρ L ts L') (fun _ => ∀ (W : Wd) (H : Hp) (σ : L2.St) (R : It → Hp → Prop), SR X.K W H L → EnvR X.K W H ρ σ → (∀ J W' H', Step W L H W' L' H' → SR X.K W' H' L' → WalkT X.K W' L' H' J ts → R J H') → wpI X tg iter σ H R) := ⟨EvI.go⟩

section
variable {CX : CXT} {P : Program} {w : World} {K : PySem.W.Frag} {mg : Str → Option Value} {base : Heap} {k : Nat} {N : List Str} {sc : Scope} {fs : Str → Bool} {X : Cx}
variable {e a b c tg iter : Expr} {es : List Expr} {ρ : TEnv} {L L1 Lb Lc : Store} {t u : T} {ts us : List T} {pos p : Pos} {i j : Int}

theorem walk_list {W : Wd} {H : Hp} {l : Addr} {vs : List V} (s : SR K W H L) (hs : W.F l ∧ H l = some (.lst vs)) (r : RpL K W H ts vs) : WalkT K W L H (Itl K l) ts where
  turn := fun i t hi W1 L1 H1 st s1 => by
    have q : SqL K H1 l vs := .inl (.inl (st.keep _ _ hs.2 fun n lv z => s.nf n _ lv z hs.1))
    obtain ⟨x, e1, e2⟩ := r.get hi
    refine ⟨⟨vs, x, q, e1⟩, fun y H2 hy => ?_⟩
    obtain ⟨rfl, hy⟩ := hy
    have := hy vs q
    rw [e1] at this; cases this
    exact ⟨W1, .refl, s1, e2.step st s⟩
  stop := fun W1 L1 H1 st s1 => ⟨vs, .inl (.inl (st.keep _ _ hs.2 fun n lv z => s.nf n _ lv z hs.1)), by rw [r.length]; exact Nat.le_refl _⟩
theorem walk_scr {W : Wd} {H : Hp} {l : Addr} {vs : List V} (s : SR K W H L) (hs : Rp K W H (.scr ts) (.ref l)) : WalkT K W L H (Itl K l) ts := by
  cases hs with
  | scr h r =>
    rename_i vs
    have q : ∀ W1 L1 H1, Step W L H W1 L1 H1 → SqL K H1 l vs := fun W1 L1 H1 st => by
      rcases h with ⟨f, o, h⟩ | h
      · exact .inl (.inr ⟨o, st.keep _ _ h fun n lv z => s.nf n _ lv z f⟩)
      · exact .inr h
    refine ⟨fun i t hi W1 L1 H1 st s1 => ?_, fun W1 L1 H1 st s1 => ⟨vs, q _ _ _ st, by rw [r.length]; exact Nat.le_refl _⟩⟩
    obtain ⟨x, e1, e2⟩ := r.get hi
    refine ⟨⟨vs, x, q _ _ _ st, e1⟩, fun y H2 hy => ?_⟩
    obtain ⟨rfl, hy⟩ := hy
    have := hy vs (q _ _ _ st)
    rw [e1] at this; cases this
    exact ⟨W1, .refl, s1, e2.step st s⟩
/-- for x in a list -/
theorem ei_list (h : Ev X e ρ L (.v (.lst ts)) L1) : EvI X tg e ρ L ts L1 := by
  refine ⟨fun W H σ R s en q => ?_⟩
  refine wp_pi (pi_list pe_wp) ?_
  refine h W H σ _ s en fun x W1 H1 st1 s1 r1 => ?_
  cases r1 with
  | lst f hl r => exact ⟨_, rfl, ⟨_, .inl (.inl hl)⟩, q _ W1 H1 st1 s1 (walk_list s1 ⟨f, hl⟩ r)⟩
theorem ei_scr (h : Ev X e ρ L (.v (.scr ts)) L1) : EvI X tg e ρ L ts L1 := by
  refine ⟨fun W H σ R s en q => ?_⟩
  refine wp_pi (pi_list pe_wp) ?_
  refine h W H σ _ s en fun x W1 H1 st1 s1 r1 => ?_
  obtain ⟨l, vs, rfl, hq, r⟩ := lst_sq s1 r1 (.inr (.inl rfl))
  exact ⟨_, rfl, ⟨_, hq⟩, q _ W1 H1 st1 s1 (walk_scr (vs := vs) s1 r1)⟩
theorem ei_tup (h : Ev X e ρ L (.v (.tup ts)) L1) : EvI X tg e ρ L ts L1 := by
  refine ⟨fun W H σ R s en q => ?_⟩
  refine wp_pi (pi_tup pe_wp) ?_
  refine h W H σ _ s en fun x W1 H1 st1 s1 r1 => ?_
  cases r1 with
  | tup f hl r =>
    rename_i l vs
    refine ⟨_, rfl, ⟨_, .inl (.inl hl)⟩, q _ W1 H1 st1 s1 ⟨fun i t hi W2 Lb H2 st s2 => ?_, fun W2 Lb H2 st s2 => ⟨vs, .inl (.inl (st.keep _ _ hl fun n lv z => s1.nf n _ lv z f)), by rw [r.length]; exact Nat.le_refl _⟩⟩⟩
    have q : SqT X.K H2 l vs := .inl (.inl (st.keep _ _ hl fun n lv z => s1.nf n _ lv z f))
    obtain ⟨x, e1, e2⟩ := r.get hi
    refine ⟨⟨vs, x, q, e1⟩, fun y H3 hy => ?_⟩
    obtain ⟨rfl, hy⟩ := hy
    have := hy vs q
    rw [e1] at this; cases this
    exact ⟨W2, .refl, s2, e2.step st s1⟩
/-- lo, lo + 1, .. -/
def rangeT (lo : Int) (n : Nat) : List Int := (List.range n).map fun (i : Nat) => lo + i
theorem rangeT_get {lo : Int} {n m : Nat} {x : Int} (h : (rangeT lo n)[m]? = some x) : m < n ∧ x = lo + m := by
  unfold rangeT at h
  rw [List.getElem?_map] at h
  cases q : (List.range n)[m]? with
  | none => rw [q] at h; cases h
  | some y =>
    rw [q] at h
    obtain ⟨h1, h2⟩ := List.getElem?_eq_some_iff.mp q
    rw [List.length_range] at h1
    rw [List.getElem_range] at h2
    subst h2
    exact ⟨h1, (Option.some.inj h).symm⟩
theorem mem_rangeT {lo x : Int} {n : Nat} : x ∈ rangeT lo n ↔ lo ≤ x ∧ x < lo + n := by
  unfold rangeT
  rw [List.mem_map]
  constructor
  · rintro ⟨i, hi, rfl⟩
    rw [List.mem_range] at hi
    omega
  · rintro ⟨h1, h2⟩
    exact ⟨(x - lo).toNat, List.mem_range.mpr (by omega), by omega⟩
theorem length_rangeT {lo : Int} {n : Nat} : (rangeT lo n).length = n := by simp [rangeT]
theorem walk_range {W : Wd} {H : Hp} {lo : Int} {n : Nat} : WalkT K W L H (Itr lo n) ((rangeT lo n).map I) where
  turn := fun i t hi W1 L1 H1 st s1 => by
    rw [List.getElem?_map] at hi
    cases q : (rangeT lo n)[i]? with
    | none => rw [q] at hi; cases hi
    | some y =>
      rw [q] at hi; cases hi
      obtain ⟨h1, rfl⟩ := rangeT_get q
      refine ⟨h1, fun x H2 hy => ?_⟩
      obtain ⟨rfl, rfl⟩ := hy
      exact ⟨W1, .refl, s1, .v _⟩
  stop := fun W1 L1 H1 st s1 => by
    show n ≤ _
    rw [List.length_map, length_rangeT]
    exact Nat.le_refl _
theorem ei_range1 (ct : Ct CX P w K mg base k N sc fs X) (hm : mg "range" = none) (hg : glOk sc "range" = true) (h : EvA X [a] ρ L [I j] L1) (h1 : -(2 ^ 62) ≤ j) (h2 : j < 2 ^ 62) (hs : starEach [a] X.env = [(false, eval a X.env)] := by rfl) : EvI X tg (.Call (.Name "range" p) [a] [] pos) ρ L ((rangeT 0 j.toNat).map I) L1 := by
  refine ⟨fun W H σ R s en q => ?_⟩
  refine wp_pi (pi_range1 (ct.gl hg) (by rw [ct.hmg]; exact hm) pa_wp hs) ?_
  refine h W H σ _ s en fun xs W1 H1 st1 s1 r1 => ?_
  cases r1 with
  | cons r rs =>
    cases r; cases rs
    exact ⟨j, rfl, h1, h2, q _ W1 H1 st1 s1 walk_range⟩
theorem ei_range2 (ct : Ct CX P w K mg base k N sc fs X) (hm : mg "range" = none) (hg : glOk sc "range" = true) (h : EvA X [a, b] ρ L [I i, I j] L1) (h1 : -(2 ^ 62) ≤ i) (h2 : i < 2 ^ 62) (h3 : -(2 ^ 62) ≤ j) (h4 : j < 2 ^ 62) (hs : starEach [a, b] X.env = [(false, eval a X.env), (false, eval b X.env)] := by rfl) (hs2 : starEach [b] X.env = [(false, eval b X.env)] := by rfl) :
    EvI X tg (.Call (.Name "range" p) [a, b] [] pos) ρ L ((rangeT i (j - i).toNat).map I) L1 := by
  refine ⟨fun W H σ R s en q => ?_⟩
  refine wp_pi (pi_range2 (ct.gl hg) (by rw [ct.hmg]; exact hm) pa_wp hs hs2) ?_
  refine h W H σ _ s en fun xs W1 H1 st1 s1 r1 => ?_
  cases r1 with
  | cons r rs =>
    cases r
    cases rs with
    | cons r rs =>
      cases r; cases rs
      exact ⟨i, j, rfl, ⟨h1, h2, h3, h4⟩, q _ W1 H1 st1 s1 walk_range⟩
/-- a tuple made on the way is frozen at once -/
theorem frz_tup {W : Wd} {H : Hp} {q : Addr} {xs : List V} {ys : List T} (s : SR K W H L) (hq : H q = none) (r : RpL K W H ys xs) : Step W L H (W.frz q) L (upd H q (.tup xs)) ∧ SR K (W.frz q) (upd H q (.tup xs)) L ∧ Rp K (W.frz q) (upd H q (.tup xs)) (.tup ys) (.ref q) :=
  ⟨(Step.newp hq).frz (.inl hq), (s.new hq).frz (by rw [upd_same]; exact fun z => nomatch z) fun n l h => s.adh n q l h hq, .tup (.inr rfl) upd_same (r.newp hq).frz⟩
/-- enumerate(list) -/
def enumT (ts : List T) : List T := (List.range ts.length).map fun (i : Nat) => .tup [I i, ts.getD i N0]
theorem enumT_get {m : Nat} {x : T} (h : (enumT ts)[m]? = some x) : ∃ y, ts[m]? = some y ∧ x = .tup [I m, y] := by
  unfold enumT at h
  rw [List.getElem?_map] at h
  cases q : (List.range ts.length)[m]? with
  | none => rw [q] at h; cases h
  | some y =>
    rw [q] at h
    obtain ⟨h1, h2⟩ := List.getElem?_eq_some_iff.mp q
    rw [List.length_range] at h1
    rw [List.getElem_range] at h2
    subst h2
    refine ⟨ts[m], List.getElem?_eq_getElem h1, ?_⟩
    have := Option.some.inj h
    rw [← this]
    simp [List.getD, List.getElem?_eq_getElem h1]
theorem ei_enum {elts : List Expr} {kk : Nat} {tpos : Pos} (ct : Ct CX P w K mg base k N sc fs X) (hm : mg "enumerate" = none) (hg : glOk sc "enumerate" = true) (h : EvA X [a] ρ L [.lst ts] L1) (hs : starEach [a] X.env = [(false, eval a X.env)] := by rfl) :
    EvI X (.Tuple elts kk tpos) (.Call (.Name "enumerate" p) [a] [] pos) ρ L (enumT ts) L1 := by
  refine ⟨fun W H σ R s en q => ?_⟩
  refine wp_pi (pi_enum (ct.gl hg) (by rw [ct.hmg]; exact hm) pa_wp hs) ?_
  refine h W H σ _ s en fun xs W1 H1 st1 s1 r1 => ?_
  cases r1 with
  | cons r rs =>
    cases rs
    cases r with
    | lst f hl r =>
      rename_i l vs
      refine ⟨_, _, rfl, .inl (.inl hl), q _ W1 H1 st1 s1 ⟨fun i t hi W2 Lb H2 st s2 => ?_, fun W2 Lb H2 st s2 => ⟨vs, .inl (.inl (st.keep _ _ hl fun n lv z => s1.nf n _ lv z f)), by simp [enumT, r.length]⟩⟩⟩
      have q : SqL X.K H2 l vs := .inl (.inl (st.keep _ _ hl fun n lv z => s1.nf n _ lv z f))
      obtain ⟨y, hy, rfl⟩ := enumT_get hi
      obtain ⟨x, e1, e2⟩ := r.get hy
      refine ⟨⟨vs, x, q, e1⟩, fun z H3 hz => ?_⟩
      obtain ⟨A, x', rfl, hA, rfl, hx⟩ := hz
      have := hx vs q
      rw [e1] at this; cases this
      exact ⟨_, frz_tup s2 hA (.cons (.v _) (.cons (e2.step st s1) .nil))⟩
/-- zip(list, list) -/
def zipT (ts us : List T) : List T := (ts.zip us).map fun q => .tup [q.1, q.2]
theorem ei_zip {elts : List Expr} {kk : Nat} {tpos : Pos} (ct : Ct CX P w K mg base k N sc fs X) (hm : mg "zip" = none) (hg : glOk sc "zip" = true) (h : EvA X [a, b] ρ L [.lst ts, .lst us] L1) (hs : starEach [a, b] X.env = (false, eval a X.env) :: starEach [b] X.env := by rfl) (hpl : (backTo pos (starEach [b] X.env)).any (·.1) = false := by rfl) :
    EvI X (.Tuple elts kk tpos) (.Call (.Name "zip" p) [a, b] [] pos) ρ L (zipT ts us) L1 := by
  refine ⟨fun W H σ R s en q => ?_⟩
  refine wp_pi (pi_zip (ct.gl hg) (by rw [ct.hmg]; exact hm) pa_wp hs hpl) ?_
  refine h W H σ _ s en fun xs W1 H1 st1 s1 r1 => ?_
  cases r1 with
  | cons r rs =>
    cases rs with
    | cons r' rs =>
      cases rs
      cases r with
      | lst f hl r =>
        cases r' with
        | lst f' hl' r' =>
          rename_i l vs l' vs'
          have k1 : ∀ W2 Lb H2, Step W1 L1 H1 W2 Lb H2 → SqL X.K H2 l vs := fun W2 Lb H2 st => .inl (.inl (st.keep _ _ hl fun n lv z => s1.nf n _ lv z f))
          have k2 : ∀ W2 Lb H2, Step W1 L1 H1 W2 Lb H2 → SqL X.K H2 l' vs' := fun W2 Lb H2 st => .inl (.inl (st.keep _ _ hl' fun n lv z => s1.nf n _ lv z f'))
          refine ⟨_, _, _, _, rfl, .inl (.inl hl), .inl (.inl hl'), q _ W1 H1 st1 s1 ⟨fun i t hi W2 Lb H2 st s2 => ?_, fun W2 Lb H2 st s2 => ⟨vs, vs', k1 _ _ _ st, k2 _ _ _ st, ?_⟩⟩⟩
          · unfold zipT at hi
            rw [List.getElem?_map] at hi
            cases q : (ts.zip us)[i]? with
            | none => rw [q] at hi; cases hi
            | some y =>
              rw [q] at hi; cases hi
              obtain ⟨y1, y2⟩ := y
              obtain ⟨h1, h2⟩ := List.getElem?_zip_eq_some.mp q
              obtain ⟨x1, e1, e2⟩ := r.get h1
              obtain ⟨x2, e3, e4⟩ := r'.get h2
              refine ⟨⟨vs, vs', x1, x2, k1 _ _ _ st, k2 _ _ _ st, e1, e3⟩, fun z H3 hz => ?_⟩
              obtain ⟨A, z1, z2, rfl, hA, rfl, hz1, hz2⟩ := hz
              have q1 := hz1 vs (k1 _ _ _ st)
              rw [e1] at q1; cases q1
              have q2 := hz2 vs' (k2 _ _ _ st)
              rw [e3] at q2; cases q2
              exact ⟨_, frz_tup s2 hA (.cons (e2.step st s1) (.cons (e4.step st s1) .nil))⟩
          · simp only [zipT, List.length_map, List.length_zip, r.length, r'.length]
            omega

/-! subscripts -/
theorem Step.R2 {W W1 W2 : Wd} {H H1 H2 : Hp} (st1 : Step W L H W1 L1 H1) (s : SR K W H L) (s1 : SR K W1 H1 L1) (st2 : Step W1 L1 H1 W2 Lb H2) : Step W L H W2 Lb H2 := st1.trans st2
theorem ev_ix {r : R2} {z : R} (hr : IxR X r) (ha : Ev X a ρ L (.v t) L1) (hb : Ev X b ρ L1 (.v u) Lb) (ho : OpT X.K r t u Lb z) (hs : PlainIx b) : Ev X (.Subscript a b pos) ρ L z Lb := ev_op2 (fun h1 h2 => pe_ix hr h1 h2 hs) ha hb ho
theorem ev_ixL (ha : Ev X a ρ L (.v t) L1) (hb : Ev X b ρ L1 (.v (I i)) Lb) (hl : LstT Lb t ts) (h : atI ts i = some u) (hs : PlainIx b := by exact fun _ _ => rfl) : Ev X (.Subscript a b pos) ρ L (.v u) Lb :=
  ev_ix ix_list ha hb (fun W H x y Q s r1 r2 q => by
    obtain ⟨l, vs, rfl, hq, r⟩ := lst_sq s r1 hl
    obtain ⟨x, e1, e2⟩ := atI_rp r h
    cases r2
    exact ⟨l, vs, i, x, rfl, rfl, hq, e1, q x W H .refl s e2⟩) hs
theorem ev_ixT (ha : Ev X a ρ L (.v (.tup ts)) L1) (hb : Ev X b ρ L1 (.v (I i)) Lb) (h : atI ts i = some u) (hs : PlainIx b := by exact fun _ _ => rfl) : Ev X (.Subscript a b pos) ρ L (.v u) Lb :=
  ev_ix ix_tup ha hb (fun W H x y Q s r1 r2 q => by
    cases r1 with
    | tup f hl r =>
      obtain ⟨x, e1, e2⟩ := atI_rp r h
      cases r2
      exact ⟨_, _, i, x, rfl, rfl, .inl (.inl hl), e1, q x W H .refl s e2⟩) hs
/-- an optional part of a slice -/
def EvO (X : Cx) (e : Option Expr) (ρ : TEnv) (L : Store) (o : Option Int) : Prop := ∃ t : TO, PO X e t ∧ ∀ (W : Wd) (H : Hp) (σ : L2.St) (Q : Option Int → Hp → Prop), SR X.K W H L → EnvR X.K W H ρ σ → (∀ W' H', Step W L H W' L H' → SR X.K W' H' L → Q o H') → t σ H Q
theorem eo_none : EvO X none ρ L none := ⟨_, po_none, fun W H σ Q s en q => q W H .refl s⟩
theorem eo_some (h : Ev X e ρ L (.v (I i)) L) : EvO X (some e) ρ L (some i) := ⟨_, po_some pe_wp, fun W H σ Q s en q => h W H σ _ s en fun x W1 H1 st1 s1 r1 => by
  cases r1
  exact ⟨i, rfl, q W1 H1 st1 s1⟩⟩
theorem ev_cutL {lo hi : Option Expr} {l h : Option Int} {p2 : Pos} (ha : Ev X a ρ L (.v t) L1) (hl : LstT L1 t ts) (h1 : EvO X lo ρ L1 l) (h2 : EvO X hi ρ L1 h) : Ev X (.Subscript a (.Slice lo hi none p2) pos) ρ L (.n (.lst (cutT ts l h))) L1 := by
  refine ⟨fun W H σ Q s en q => ?_⟩
  obtain ⟨t1, p1, q1⟩ := h1
  obtain ⟨t2, p2, q2⟩ := h2
  refine wp_pe (pe_slice sl_list pe_wp p1 p2) ?_
  refine ha W H σ _ s en fun x W1 H1 st1 s1 r1 => ?_
  refine q1 W1 H1 σ _ s1 (en.step st1 s) fun W2 H2 st2 s2 => ?_
  have st12 := st1.trans st2
  refine q2 W2 H2 σ _ s2 (en.step st12 s) fun W3 H3 st3 s3 => ?_
  obtain ⟨l, vs, rfl, hq, r⟩ := lst_sq s3 ((Rp.step r1 st2 s1).step st3 s2) hl
  refine ⟨l, vs, rfl, hq, fun p hp => ?_⟩
  have st13 := st12.trans st3
  exact q _ W3 _ (st13.trans (.newp hp)) (s3.new hp) ((new_n (t := .lst _) s3 hp ⟨_, upd_same, (cut_rp r _ _).newp hp⟩).back st13.dom)
theorem ev_cutT {lo hi : Option Expr} {l h : Option Int} {p2 : Pos} (ha : Ev X a ρ L (.v (.tup ts)) L1) (h1 : EvO X lo ρ L1 l) (h2 : EvO X hi ρ L1 h) (hw : ¬ (HT.sIx ts.length 0 l = 0 ∧ HT.sIx ts.length ts.length h = ts.length)) : Ev X (.Subscript a (.Slice lo hi none p2) pos) ρ L (.v (.tup (cutT ts l h))) L1 := by
  refine ⟨fun W H σ Q s en q => ?_⟩
  obtain ⟨t1, p1, q1⟩ := h1
  obtain ⟨t2, p2, q2⟩ := h2
  refine wp_pe (pe_slice sl_tup pe_wp p1 p2) ?_
  refine ha W H σ _ s en fun x W1 H1 st1 s1 r1 => ?_
  refine q1 W1 H1 σ _ s1 (en.step st1 s) fun W2 H2 st2 s2 => ?_
  have st12 := st1.trans st2
  refine q2 W2 H2 σ _ s2 (en.step st12 s) fun W3 H3 st3 s3 => ?_
  have r3 : Rp X.K W3 H3 (.tup ts) x := (Rp.step r1 st2 s1).step st3 s2
  cases r3 with
  | tup f hl r =>
    refine ⟨_, _, rfl, .inl (.inl hl), by rw [← r.length]; exact hw, fun p hp => ?_⟩
    have st13 := st12.trans st3
    obtain ⟨f1, f2, f3⟩ := frz_tup s3 hp (cut_rp r l h)
    exact q _ _ _ (st13.trans f1) f2 f3
/-- + of lists -/
theorem ev_cat {vs : List T} (ha : Ev X a ρ L (.v t) L1) (hb : Ev X b ρ L1 (.v u) Lb) (h1 : LstM Lb t ts) (h2 : LstM Lb u vs) (hz : ts.length + vs.length ≤ 100000) : Ev X (.BinOp a .Add b pos) ρ L (.n (.lst (ts ++ vs))) Lb :=
  ev_bin op_cat ha hb fun W H x y Q s r1 r2 q => by
    obtain ⟨l, xs, rfl, e1, r1⟩ := lst_m s r1 h1
    obtain ⟨m, ys, rfl, e2, r2⟩ := lst_m s r2 h2
    exact ⟨l, m, xs, ys, rfl, rfl, e1, e2, sz_small (by rw [← r1.length, ← r2.length]; exact hz), fun p hp => q _ W _ (.newp hp) (s.new hp) (new_n (t := .lst _) s hp ⟨_, upd_same, (r1.append r2).newp hp⟩)⟩
/-- list * int -/
theorem ev_rep (ha : Ev X a ρ L (.v t) L1) (hb : Ev X b ρ L1 (.v (I i)) Lb) (h1 : LstM Lb t ts) (h2 : -(2 ^ 63) ≤ i) (h3 : i < 2 ^ 63) (hz : ts.length * i.toNat ≤ 100000) : Ev X (.BinOp a .Mult b pos) ρ L (.n (.lst (List.replicate i.toNat ts).flatten)) Lb :=
  ev_bin op_rep ha hb fun W H x y Q s r1 r2 q => by
    obtain ⟨l, xs, rfl, e1, r1⟩ := lst_m s r1 h1
    cases r2
    refine ⟨l, i, xs, rfl, rfl, e1, h2, h3, sz_small (by rw [← r1.length]; exact hz), fun p hp => q _ W _ (.newp hp) (s.new hp) (new_n (t := .lst _) s hp ⟨_, upd_same, ?_⟩)⟩
    have hk : ∀ n : Nat, RpL X.K W H (List.replicate n ts).flatten (List.replicate n xs).flatten := fun n => by
      induction n with
      | zero => exact .nil
      | succ n ih => rw [List.replicate_succ, List.replicate_succ, List.flatten_cons, List.flatten_cons]; exact r1.append ih
    exact (hk i.toNat).newp hp
/-- + of tuples -/
theorem ev_catT {vs : List T} (ha : Ev X a ρ L (.v (.tup ts)) L1) (hb : Ev X b ρ L1 (.v (.tup vs)) Lb) (h1 : ts ≠ []) (hz : ts.length + vs.length ≤ 100000) : Ev X (.BinOp a .Add b pos) ρ L (.v (.tup (ts ++ vs))) Lb :=
  ev_bin op_catT ha hb fun W H x y Q s r1 r2 q => by
    cases r1 with
    | tup f1 e1 r1 =>
      cases r2 with
      | tup f2 e2 r2 =>
        refine ⟨_, _, _, _, rfl, rfl, .inl (.inl e1), .inl (.inl e2), fun z => h1 ?_, sz_small (by rw [← r1.length, ← r2.length]; exact hz), fun z => ?_, fun _ p hp => ?_⟩
        · subst z; cases r1; rfl
        · subst z
          cases r2
          rw [List.append_nil] at q
          exact q _ W H .refl s (.tup f1 e1 r1)
        · obtain ⟨g1, g2, g3⟩ := frz_tup s hp (r1.append r2)
          exact q _ _ _ g1 g2 g3

/-! calls -/
def Rel := List T → Store → R → Store → Prop
def spT (K : PySem.W.Frag) (Rl : Rel) : Sp := fun vs H Q _ => ∃ ts L r L' W, SR K W H L ∧ RpL K W H ts vs ∧ Rl ts L r L' ∧ ∀ x W' H', Step W L H W' L' H' → SR K W' H' L' → RR K W' L' H H' r x → Q x H'
theorem rp_atoms {W : Wd} {H : Hp} : ∀ dvs : List V, RpL K W H (dvs.map T.v) dvs
  | [] => .nil
  | x :: dvs => .cons (.v x) (rp_atoms dvs)
theorem Ct.pass (ct : Ct CX P w K mg base k N sc fs X) : Passes CX X E0 := fun _ _ _ _ _ _ _ h => (ct.cx _ _ _ _ _ h).elim
/-- a def keeps the relation Rl, where no repr is under way -/
structure FnT (P : Program) (w : World) (K : PySem.W.Frag) (mg : Str → Option Value) (base : Heap) (CX : CXT) (k : Nat) (f : Addr) (fd : FuncData) (ps : List Str) (Rl : Rel) : Prop where
  len : ∀ ts L r L', Rl ts L r L' → ts.length = ps.length
  go : ∀ (A : Around) (outer : List Env) (s : Shared) (H : Hp) (args : Args) (us : List Value) (vs : List V) (Q : VK), Room k A → A.guards = some [] → Env0 P w K mg base A outer s H → BindsTo s fd args (ps.zip us) → Vals vs us →
    spT K Rl vs H Q E0 → codeAny (model P w) A (.call (.ref f) args) (CR CX outer P w H s Q E0) s
/-- the callee runs, its arguments bound as us -/
theorem run_T {f : Addr} {fd : FuncData} {ps : List Str} {Rl : Rel} {j : Nat} {pins : List (Addr × Obj)} {σ : L2.St} {H : Hp} {s : Shared} {Q : VK} {us ws : List Value} {kw : List (Str × Value)} {vs : List V} (F : FnT X.prog X.w X.K X.mg X.base CX j f fd ps Rl)
    (hr : Room j X.A) (hg : X.A.guards = some []) (hx : Passes CX X E0) (I : Inv X pins σ H s) (hb : BindsTo s fd ⟨ws, kw⟩ (ps.zip us)) (r : Vals vs us) (h : spT X.K Rl vs H Q E0) : wpAny (model X.prog X.w) X.A (call (.ref f) ws kw) (EP X pins σ Q) X.xe s := by
  refine wpAny_call (codeAny_mono (F.go X.A X.stack s H ⟨ws, kw⟩ us vs Q hr hg I.env0 hb r h) fun out s' q => ?_)
  match out, q with
  | .error e, q => exact hx pins σ H s e s' I q
  | .ok (.ret u), q => exact I.after q
theorem ev_call {f : Addr} {fd : FuncData} {ps : List Str} {Rl : Rel} {j : Nat} {x : Str} {r : R} {ds : List Value} {dvs : List V} (ct : Ct CX P w K mg base k N sc fs X) (F : FnT P w K mg base CX j f fd ps Rl) (hj : j ≤ k) (hm : mg x = some (.ref f)) (hk : PySem.W.keepIn K (.ref f) = true)
    (hb : Binds K fd ps ds) (hd : Vals dvs ds) (hg : glOk sc x = true) (ha : EvA X (e :: es) ρ L ts L1) (h : Rl (ts ++ dvs.map T.v) L1 r Lb) (he : starEach (e :: es) X.env = (false, eval e X.env) :: starEach es X.env := by rfl) (hpl : (backTo pos (starEach es X.env)).any (·.1) = false := by rfl) : Ev X (.Call (.Name x p) (e :: es) [] pos) ρ L r Lb := by
  have hx := ct.pass
  have gl := ct.gl hg
  have hr := ct.room.mono hj
  have gd := ct.gd
  obtain ⟨rfl, rfl, rfl, rfl, rfl, _, _, _, _, _, _, _, _, _⟩ := ct
  refine ⟨fun W H σ Q s en q pins st Iv => ?_⟩
  refine wpAny_Call_Name_kw (ld_glob Iv gl hm ?_ (glOk_of hg).2.1)
  refine PySem.W.callWith_K (h₀ := X.base) Iv.ok.mod.kin hk ?_ he hpl
  refine thn (ha W H σ (fun xs H1 => spT X.K Rl (xs ++ dvs) H1 Q E0) s en (fun xs W1 H1 st1 s1 r1 => ?_) pos pins st Iv) fun us s1 ⟨vs, H1, I1, rv, q1⟩ => ⟨I1.kIn, ?_⟩
  · exact ⟨_, L1, r, Lb, W1, s1, r1.append (rp_atoms dvs), h, fun x W2 H2 st2 s2 r2 => q x W2 H2 (st1.trans st2) s2 (r2.back st1.dom)⟩
  · have rr : Vals (vs ++ dvs) (us ++ ds) := rv.append hd
    have hl : (us ++ ds).length = ps.length := by
      rw [← rr.length]
      obtain ⟨ts', L', r', L'', W', _, r1, hR, _⟩ := q1
      rw [← r1.length]
      exact F.len _ _ _ _ hR
    exact run_T F hr gd hx I1 (hb s1 us I1.kIn hl) rr q1
theorem ev_call0 {f : Addr} {fd : FuncData} {ps : List Str} {Rl : Rel} {j : Nat} {x : Str} {r : R} {ds : List Value} {dvs : List V} (ct : Ct CX P w K mg base k N sc fs X) (F : FnT P w K mg base CX j f fd ps Rl) (hj : j ≤ k) (hm : mg x = some (.ref f)) (hk : PySem.W.keepIn K (.ref f) = true)
    (hb : Binds K fd ps ds) (hd : Vals dvs ds) (hg : glOk sc x = true) (h : Rl (dvs.map T.v) L r Lb) : Ev X (.Call (.Name x p) [] [] pos) ρ L r Lb := by
  have hx := ct.pass
  have gl := ct.gl hg
  have hr := ct.room.mono hj
  have gd := ct.gd
  obtain ⟨rfl, rfl, rfl, rfl, rfl, _, _, _, _, _, _, _, _, _⟩ := ct
  refine ⟨fun W H σ Q s en q pins st Iv => ?_⟩
  refine wpAny_Call_Name_kw (ld_glob Iv gl hm ?_ (glOk_of hg).2.1)
  have hl : ([] ++ ds).length = ps.length := by
    rw [List.nil_append, ← hd.length, ← F.len _ _ _ _ h, List.length_map]
  exact PySem.W.callWith_K0 Iv.kIn hk (run_T F hr gd hx Iv (hb st [] Iv.kIn hl) hd ⟨_, L, r, Lb, W, s, rp_atoms dvs, h, fun x W2 H2 st2 s2 r2 => q x W2 H2 st2 s2 r2⟩)
/-- keywords' values -/
def wpK (X : Cx) (kws : List Keyword) (σ : L2.St) (H : Hp) (Q : List V → Hp → Prop) : Prop := ∀ (pos : Pos) (pins : List (Addr × Obj)) (s : Shared), Inv X pins σ H s → wpAny (model X.prog X.w) X.A (evalAll ((backToKw pos (keywordEach kws X.env)).map (·.2))) (AP X pins σ Q) X.xe s
theorem pk_wp {kws : List Keyword} : PK X kws (wpK X kws) := ⟨fun pos pins s _ _ _ I h => h pos pins s I⟩
structure EvK (X : Cx) (kws : List Keyword) (ρ : TEnv) (L : Store) (ts : List T) (L' : Store) : Prop where
  go : ∀ (W : Wd) (H : Hp) (σ : L2.St) (Q : List V → Hp → Prop), SR X.K W H L → EnvR X.K W H ρ σ → (∀ xs W' H', Step W L H W' L' H' → SR X.K W' H' L' → RpL X.K W' H' ts xs → Q xs H') → wpK X kws σ H Q
instance {X : Cx} {kws : List Keyword} {ρ : TEnv} {L : Store} {ts : List T} {L' : Store} : CoeFun (EvK X kws ρ L ts L') (fun _ => ∀ (W : Wd) (H : Hp) (σ : L2.St) (Q : List V → Hp → Prop), SR X.K W H L → EnvR X.K W H ρ σ → (∀ xs W' H', Step W L H W' L' H' → SR X.K W' H' L' → RpL X.K W' H' ts xs → Q xs H') → wpK X kws σ H Q) := ⟨EvK.go⟩
theorem ek_nil : EvK X [] ρ L [] L := ⟨fun W H σ Q s _ q pos pins st I => pk_nil.run pos pins st σ H Q I (q [] W H .refl s .nil)⟩
theorem ek_cons {nm : Option Str} {kpos : Pos} {kws : List Keyword} (ha : Ev X e ρ L (.v t) L1) (hb : EvK X kws ρ L1 ts Lb) : EvK X (⟨nm, e, kpos⟩ :: kws) ρ L (t :: ts) Lb := by
  refine ⟨fun W H σ Q s en q pos pins st I => ?_⟩
  refine (pk_cons pe_wp pk_wp).run pos pins st σ H Q I ?_
  refine ha W H σ _ s en fun x W1 H1 st1 s1 r1 => ?_
  refine hb W1 H1 σ _ s1 (en.step st1 s) fun xs W2 H2 st2 s2 r2 => ?_
  exact q _ W2 H2 (st1.trans st2) s2 (.cons (Rp.step r1 st2 s1) r2)
/-- f(e, .., k = v, ..): gT puts the trees in the parameters' order as gV does the values -/
theorem ev_callK {f : Addr} {fd : FuncData} {ps ks : List Str} {Rl : Rel} {j n : Nat} {x : Str} {r : R} {kws : List Keyword} {g : List Value → List Value → List Value} {gV : List V → List V → List V} {zs : List T} (gT : List T → List T → List T)
    (ct : Ct CX P w K mg base k N sc fs X) (F : FnT P w K mg base CX j f fd ps Rl) (hj : j ≤ k) (hm : mg x = some (.ref f)) (hk : PySem.W.keepIn K (.ref f) = true)
    (hb : KBn K fd ps n ks g gV) (hgT : ∀ W H vs us, RpL K W H ts vs → RpL K W H zs us → RpL K W H (gT ts zs) (gV vs us)) (hn : ts.length = n) (hn2 : zs.length = ks.length) (hg : glOk sc x = true) (ha : EvA X (e :: es) ρ L ts L1) (hkw : EvK X kws ρ L1 zs Lb) (h : Rl (gT ts zs) Lb r Lc)
    (hall : (backToKw pos (keywordEach kws X.env)).all (·.1.isSome) = true := by rfl) (hks : (backToKw pos (keywordEach kws X.env)).filterMap (·.1) = ks := by rfl)
    (he : starEach (e :: es) X.env = (false, eval e X.env) :: starEach es X.env := by rfl)
    (hpl : ((backTo pos (starEach (e :: es) X.env)).any (·.1) || (backToKw pos (keywordEach kws X.env)).any (·.1.isNone)) = false := by rfl) : Ev X (.Call (.Name x p) (e :: es) kws pos) ρ L r Lc := by
  have hx := ct.pass
  have gl := ct.gl hg
  have hr := ct.room.mono hj
  have gd := ct.gd
  obtain ⟨rfl, rfl, rfl, rfl, rfl, _, _, _, _, _, _, _, _, _⟩ := ct
  refine ⟨fun W H σ Q s en q pins st Iv => ?_⟩
  refine wpAny_Call_Name_kw (ld_glob Iv gl hm ?_ (glOk_of hg).2.1)
  refine PySem.W.callWith_KW (h₀ := X.base) Iv.ok.mod.kin hk hall ?_ hpl he
  refine thn (ha W H σ (fun xs H1 => wpK X kws σ H1 fun ys H2 => xs.length = n ∧ ys.length = ks.length ∧ spT X.K Rl (gV xs ys) H2 Q E0) s en (fun xs W1 H1 st1 s1 r1 => ?_) pos pins st Iv) fun us s1 ⟨vs, H1, I1, rv, q1⟩ => ?_
  · refine hkw W1 H1 σ _ s1 (en.step st1 s) fun ys W2 H2 st2 s2 r2 => ⟨by rw [← r1.length]; exact hn, by rw [← r2.length]; exact hn2, ?_⟩
    have st12 := st1.trans st2
    exact ⟨_, Lb, r, Lc, W2, s2, hgT _ _ _ _ (r1.step st2 s1) r2, h, fun x W3 H3 st3 s3 r3 => q x W3 H3 (st12.trans st3) s3 (r3.back st12.dom)⟩
  · refine thn (q1 pos pins s1 I1) fun ws s2 ⟨zs', H2, I2, rz, l1, l2, q2⟩ => ⟨I2.kIn, ?_⟩
    rw [hks]
    exact run_T F hr gd hx I2 (hb.to s2 us ws I2.kIn (rv.length.symm.trans l1) (rz.length.symm.trans l2)) (hb.rel rv rz) q2
/-- o.m(..) -/
theorem ev_meth {o : Expr} {m : Str} {apos : Pos} {C f : Addr} {fd : FuncData} {ps : List Str} {Rl : Rel} {j : Nat} {r : R} {ns : List Str} {pl : Sem Bool} (ct : Ct CX P w K mg base k N sc fs X) (cl : Cls K C) (hm : Meth K C m f) (F : FnT P w K mg base CX j f fd ps Rl) (hj : j ≤ k)
    (hb : Binds K fd ps []) (ho : Ev X o ρ L (.v t) L1) (hi : InsT L1 t C ns us) (hn : (ns.zip us).lookup m = none) (ha : EvA X (e :: es) ρ L1 ts Lb) (h : Rl (t :: ts) Lb r Lc)
    (hst : starEach (e :: es) X.env = (false, eval e X.env) :: starEach es X.env := by rfl) (hpl : (backTo pos (starEach es X.env)).any (·.1) = false := by rfl)
    (ht : eval (.Call (.Attribute o m apos) (e :: es) [] pos) X.env = (do
      let ov ← eval o X.env
      standAt apos.atName
      let (f, first) ← holding [ov] (getMethod ov m pl)
      callWith pos f first (backTo pos (starEach (e :: es) X.env)) (backToKw pos (keywordEach [] X.env))) := by rfl) : Ev X (.Call (.Attribute o m apos) (e :: es) [] pos) ρ L r Lc := by
  have hx := ct.pass
  have hr := ct.room.mono hj
  have gd := ct.gd
  obtain ⟨rfl, rfl, rfl, rfl, rfl, _, _, _, _, _, _, _, _, _⟩ := ct
  refine ⟨fun W H σ Q s en q pins st Iv => ?_⟩
  refine PySem.W.methodCall_KW (pl := pl) ?_ ht
  refine thn (ho W H σ (fun x H1 => ∃ a dx fs, x = .ref a ∧ H1 a = some (.ins C dx fs) ∧ fs.lookup m = none ∧ wpA X (e :: es) σ H1 fun vs H2 => spT X.K Rl (.ref a :: vs) H2 Q E0) s en (fun x W1 H1 st1 s1 r1 => ?_) pins st Iv) fun u s1 ⟨x, H1, I1, rx, a, dx, fl, ex, ea, l, q1⟩ => ?_
  · obtain ⟨a, dx, vs, rfl, e1, l1, rr⟩ := ins_at s1 r1 hi
    refine ⟨a, dx, _, rfl, e1, lookup_zip_none rr hn, ?_⟩
    refine ha W1 H1 σ _ s1 (en.step st1 s) fun xs W2 H2 st2 s2 r2 => ?_
    have st12 := st1.trans st2
    exact ⟨_, Lb, r, Lc, W2, s2, .cons (Rp.step r1 st2 s1) r2, h, fun x W3 H3 st3 s3 r3 => q x W3 H3 (st12.trans st3) s3 (r3.back st12.dom)⟩
  · subst ex
    obtain rfl : u = Value.ref a := rx
    refine getmeth_ok I1 ea cl hm l ?_
    refine PySem.W.callWith_K (first := [.ref a]) (h₀ := X.base) Iv.ok.mod.kin hm.kp (thn (q1 pos pins s1 I1) fun us s2 ⟨vs, H2, I2, rv, q2⟩ => ⟨I2.kIn, ?_⟩) hst hpl
    have rr : Vals (V.ref a :: vs) (Value.ref a :: us) := .cons rfl rv
    have hl : ((Value.ref a :: us) ++ []).length = ps.length := by
      rw [List.append_nil, ← rr.length]
      obtain ⟨ts', L', r', L'', W', _, r1, hR, _⟩ := q2
      rw [← r1.length]
      exact F.len _ _ _ _ hR
    have bb := hb s2 (Value.ref a :: us) I2.kIn hl
    rw [List.append_nil] at bb
    exact run_T F hr gd hx I2 bb rr q2
theorem ev_meth0 {o : Expr} {m : Str} {apos : Pos} {C f : Addr} {fd : FuncData} {ps : List Str} {Rl : Rel} {j : Nat} {r : R} {ns : List Str} {pl : Sem Bool} (ct : Ct CX P w K mg base k N sc fs X) (cl : Cls K C) (hm : Meth K C m f) (F : FnT P w K mg base CX j f fd ps Rl) (hj : j ≤ k)
    (hb : Binds K fd ps []) (ho : Ev X o ρ L (.v t) L1) (hi : InsT L1 t C ns us) (hn : (ns.zip us).lookup m = none) (h : Rl [t] L1 r Lb)
    (ht : eval (.Call (.Attribute o m apos) [] [] pos) X.env = (do
      let ov ← eval o X.env
      standAt apos.atName
      let (f, first) ← holding [ov] (getMethod ov m pl)
      callWith pos f first (backTo pos (starEach [] X.env)) (backToKw pos (keywordEach [] X.env))) := by rfl) : Ev X (.Call (.Attribute o m apos) [] [] pos) ρ L r Lb := by
  have hx := ct.pass
  have hr := ct.room.mono hj
  have gd := ct.gd
  obtain ⟨rfl, rfl, rfl, rfl, rfl, _, _, _, _, _, _, _, _, _⟩ := ct
  refine ⟨fun W H σ Q s en q pins st Iv => ?_⟩
  refine PySem.W.methodCall_KW (pl := pl) ?_ ht
  refine thn (ho W H σ (fun x H1 => ∃ a dx fs, x = .ref a ∧ H1 a = some (.ins C dx fs) ∧ fs.lookup m = none ∧ spT X.K Rl [.ref a] H1 Q E0) s en (fun x W1 H1 st1 s1 r1 => ?_) pins st Iv) fun u s1 ⟨x, H1, I1, rx, a, dx, fl, ex, ea, l, q1⟩ => ?_
  · obtain ⟨a, dx, vs, rfl, e1, l1, rr⟩ := ins_at s1 r1 hi
    refine ⟨a, dx, _, rfl, e1, lookup_zip_none rr hn, ?_⟩
    exact ⟨_, L1, r, Lb, W1, s1, .cons r1 .nil, h, fun x W3 H3 st3 s3 r3 => q x W3 H3 (st1.trans st3) s3 (r3.back st1.dom)⟩
  · subst ex
    obtain rfl : u = Value.ref a := rx
    refine getmeth_ok I1 ea cl hm l ?_
    have hl : ([Value.ref a] ++ []).length = ps.length := by rw [← F.len _ _ _ _ h]; rfl
    exact PySem.W.callWith_K0 (first := [.ref a]) I1.kIn hm.kp (run_T F hr gd hx I1 (hb s1 [.ref a] I1.kIn hl) (show Vals [V.ref a] [Value.ref a] from .cons rfl .nil) q1)
/-- o.f -/
theorem ev_fld {o : Expr} {f : Str} {C : Addr} {ns : List Str} (cl : Cls X.K C) (hn : NoAttr X.K C f) (ho : Ev X o ρ L (.v t) L1) (hi : InsT L1 t C ns us) (hl : (ns.zip us).lookup f = some u) (hb : attributeBase o f X.env (eval o X.env) = eval o X.env := by rfl) : Ev X (.Attribute o f pos) ρ L (.v u) L1 := by
  refine ⟨fun W H σ Q s en q => ?_⟩
  refine wp_pe (pe_fld pe_wp hb) ?_
  refine ho W H σ _ s en fun x W1 H1 st1 s1 r1 => ?_
  obtain ⟨a, dx, vs, rfl, e1, l1, rr⟩ := ins_at s1 r1 hi
  obtain ⟨y, e2, r2⟩ := lookup_zip rr hl
  exact ⟨a, C, dx, _, y, rfl, e1, cl, hn, e2, q y W1 H1 st1 s1 r2⟩
/-- a new instance is made, __init__ runs: the values bound are the instance's and us -/
theorem run_makeT {f C : Addr} {fd : FuncData} {ps : List Str} {Rl : Rel} {j : Nat} {pins : List (Addr × Obj)} {σ : L2.St} {H : Hp} {s : Shared} {Q : VK} {us ws : List Value} {kw : List (Str × Value)} {vs : List V} (M : Mk X.K C f) (F : FnT X.prog X.w X.K X.mg X.base CX j f fd ps Rl)
    (hr : Room (j + 1) X.A) (hg : X.A.guards = some []) (hx : Passes CX X E0) (I : Inv X pins σ H s) (hb : ∀ (s' : Shared) (a : Addr), X.K.In s'.heap → BindsTo s' fd ⟨.ref a :: ws, kw⟩ (ps.zip (.ref a :: us))) (r : Vals vs us)
    (h : ∀ y dx, H y = none → H dx = none → dx ≠ y → spT X.K Rl (.ref y :: vs) (upd (upd H dx (.own y)) y (.ins C dx [])) (fun v H2 => v = .non ∧ Q (.ref y) H2) E0) : wpAny (model X.prog X.w) X.A (call (.ref C) ws kw) (EP X pins σ Q) X.xe s := by
  have q0 := h (s.heap.objs.size + 1) s.heap.objs.size (I.hok.fresh (Nat.le_succ _)) (I.hok.fresh (Nat.le_refl _)) (Nat.ne_of_lt (Nat.lt_succ_self _))
  have Im := Inv.made (C := C) I
  refine wpAny_call (make_map (f := f) I.kIn M.makes M.init (beq_iff_eq.mp M.fn) ?_)
  refine codeAny_mono (F.go _ X.stack _ _ ⟨Value.ref (s.heap.objs.size + 1) :: ws, kw⟩ (Value.ref (s.heap.objs.size + 1) :: us) (V.ref (s.heap.objs.size + 1) :: vs) _ (hr.make C ws kw) ?_ (Im.env0.make C ws kw) (hb _ _ Im.kIn) (.cons rfl r) q0) fun out s' q => ?_
  · simp [Around.under, Code.guards, pushGuards, hg, Code.isGuard, guardIds]
  · match out, q with
    | .error e, q => exact hx pins σ _ _ e s' Im q
    | .ok (.ret u), q =>
      obtain ⟨v, H', I3, rv, ev, q3⟩ := Im.after q
      subst ev
      exact ⟨rv, V.ref (s.heap.objs.size + 1), H', I3, rfl, q3⟩
/-- the trees of a making: from a promise of __init__ over the cell n -/
theorem make_T {Rl : Rel} {C : Addr} {ns : List Str} {gs : List T} {W : Wd} {H : Hp} {vs : List V} {Q : VK} (s : SR K W H L) (r : RpL K W H ts vs)
    (h : ∀ n, L n = none → ∃ Lz, Rl (.cel n :: ts) (updS L n (some (.ins C [] []))) (.v N0) Lz ∧ Lz n = some (.ins C ns gs) ∧ (∀ m t, Lb m = some t → Lz m = some t) ∧ Lb n = none)
    (q : ∀ y W' H', Step W L H W' Lb H' → SR K W' H' Lb → RR K W' Lb H H' (.n (.ins C ns gs)) y → Q y H') :
    ∀ y dx, H y = none → H dx = none → dx ≠ y → spT K Rl (.ref y :: vs) (upd (upd H dx (.own y)) y (.ins C dx [])) (fun v H2 => v = .non ∧ Q (.ref y) H2) E0 := by
  intro y dx hy hdx hne
  obtain ⟨n, hn⟩ : ∃ n, W.ad n = none := let ⟨b, hb⟩ := s.fin; ⟨b, hb b (Nat.le_refl _)⟩
  have hL : L n = none := by
    cases e : L n with
    | none => rfl
    | some t => exact absurd hn (s.at_ n ⟨t, e⟩)
  obtain ⟨Lz, hRl, hzn, hsub, hbn⟩ := h n hL
  have hy1 : upd H dx (.own y) y = none := by rw [upd_ne (Ne.symm hne)]; exact hy
  have st2 : Step W L H W L (upd (upd H dx (.own y)) y (.ins C dx [])) := (Step.newp hdx).trans (.newp hy1)
  have s2 : SR K W (upd (upd H dx (.own y)) y (.ins C dx [])) L := (s.new hdx).new hy1
  have yF : ¬ W.F y := fun f => s.fh y f hy
  have yc : ∀ m : Nat, Live L m → W.ad m ≠ some y := fun m l e => s.adh m y l e hy
  have s3 := s2.cell (n := n) (t := .ins C [] []) hn ⟨dx, [], upd_same, rfl, .nil⟩ yF yc
  have st3 : Step W L H (W.cell n y) (updS L n (some (.ins C [] []))) (upd (upd H dx (.own y)) y (.ins C dx [])) := st2.cell hn hy
  refine ⟨_, _, _, Lz, W.cell n y, s3, .cons (.cel cell_same) (((r.newp hdx).newp hy1).cell hn), hRl, fun v W4 H4 st4 s4 r4 => ?_⟩
  cases r4
  refine ⟨rfl, ?_⟩
  have st14 := st3.trans st4
  have e4 : W4.ad n = some y := st4.ad n y cell_same
  refine q _ W4 H4 (st14.less hsub) (s4.less hsub) ⟨y, rfl, hy, fun f => s4.nf n y ⟨_, hzn⟩ e4 f, fun m ⟨t, l⟩ e => ?_, s4.cel n _ y hzn e4⟩
  have : m = n := s4.inj m n y ⟨t, hsub m t l⟩ ⟨_, hzn⟩ e e4
  subst this
  rw [hbn] at l; cases l
/-- C(..) -/
theorem ev_make {f C : Addr} {fd : FuncData} {ps : List Str} {Rl : Rel} {j : Nat} {x : Str} {ns : List Str} {ds : List Value} {dvs : List V} (ct : Ct CX P w K mg base k N sc fs X) (M : Mk K C f) (F : FnT P w K mg base CX j f fd ps Rl) (hj : j + 1 ≤ k) (hm : mg x = some (.ref C))
    (hb : Binds K fd ps ds) (hd : Vals dvs ds) (hg : glOk sc x = true) (ha : EvA X (e :: es) ρ L ts L1) (hlen : (ts.length + dvs.length) + 1 = ps.length)
    (h : ∀ n, L1 n = none → ∃ Lz, Rl (.cel n :: (ts ++ dvs.map T.v)) (updS L1 n (some (.ins C [] []))) (.v N0) Lz ∧ Lz n = some (.ins C ns us) ∧ (∀ m t, Lb m = some t → Lz m = some t) ∧ Lb n = none)
    (he : starEach (e :: es) X.env = (false, eval e X.env) :: starEach es X.env := by rfl) (hpl : (backTo pos (starEach es X.env)).any (·.1) = false := by rfl) : Ev X (.Call (.Name x p) (e :: es) [] pos) ρ L (.n (.ins C ns us)) Lb := by
  have hx := ct.pass
  have gl := ct.gl hg
  have hr := ct.room.mono hj
  have gd := ct.gd
  obtain ⟨rfl, rfl, rfl, rfl, rfl, _, _, _, _, _, _, _, _, _⟩ := ct
  refine ⟨fun W H σ Q s en q pins st Iv => ?_⟩
  refine wpAny_Call_Name_kw (ld_glob Iv gl hm ?_ (glOk_of hg).2.1)
  refine PySem.W.callWith_K (h₀ := X.base) Iv.ok.mod.kin M.kp ?_ he hpl
  refine thn (ha W H σ (fun xs H1 => xs.length = ts.length ∧ ∀ y dx, H1 y = none → H1 dx = none → dx ≠ y → spT X.K Rl (.ref y :: (xs ++ dvs)) (upd (upd H1 dx (.own y)) y (.ins C dx [])) (fun v H2 => v = .non ∧ Q (.ref y) H2) E0) s en (fun xs W1 H1 st1 s1 r1 => ⟨r1.length.symm, ?_⟩) pos pins st Iv) fun us' s1 ⟨vs, H1, I1, rv, l1, q1⟩ => ⟨I1.kIn, ?_⟩
  · exact make_T s1 (r1.append (rp_atoms dvs)) h fun y W2 H2 st2 s2 r2 => q y W2 H2 (st1.trans st2) s2 (r2.back st1.dom)
  · refine run_makeT (us := us' ++ ds) M F hr gd hx I1 (fun s' a Kin => ?_) (rv.append hd) q1
    exact hb s' (.ref a :: us') Kin (by rw [List.length_append, List.length_cons, ← rv.length, ← hd.length, l1]; omega)
/-- C(.., k = v, ..) -/
theorem ev_makeK {f C : Addr} {fd : FuncData} {ps ks : List Str} {Rl : Rel} {j n0 : Nat} {x : Str} {ns : List Str} {kws : List Keyword} {g : List Value → List Value → List Value} {gV : List V → List V → List V} {zs : List T} {g0 : List Value → List Value → List Value} {gV0 : List V → List V → List V} (gT : List T → List T → List T)
    (ct : Ct CX P w K mg base k N sc fs X) (M : Mk K C f) (F : FnT P w K mg base CX j f fd ps Rl) (hj : j + 1 ≤ k) (hm : mg x = some (.ref C))
    (hb : KBn K fd ps (n0 + 1) ks g gV) (hg0 : ∀ u us ws, g (u :: us) ws = u :: g0 us ws) (hv0 : ∀ v vs zs, gV (v :: vs) zs = v :: gV0 vs zs) (hr0 : ∀ {vs us zs ws}, Vals vs us → Vals zs ws → Vals (gV0 vs zs) (g0 us ws))
    (hgT : ∀ W H vs us, RpL K W H ts vs → RpL K W H zs us → RpL K W H (gT ts zs) (gV0 vs us)) (hn : ts.length = n0) (hn2 : zs.length = ks.length) (hg : glOk sc x = true) (ha : EvA X (e :: es) ρ L ts L1) (hkw : EvK X kws ρ L1 zs Lb)
    (h : ∀ n, Lb n = none → ∃ Lz, Rl (.cel n :: gT ts zs) (updS Lb n (some (.ins C [] []))) (.v N0) Lz ∧ Lz n = some (.ins C ns us) ∧ (∀ m t, Lc m = some t → Lz m = some t) ∧ Lc n = none)
    (hall : (backToKw pos (keywordEach kws X.env)).all (·.1.isSome) = true := by rfl) (hks : (backToKw pos (keywordEach kws X.env)).filterMap (·.1) = ks := by rfl)
    (he : starEach (e :: es) X.env = (false, eval e X.env) :: starEach es X.env := by rfl)
    (hpl : ((backTo pos (starEach (e :: es) X.env)).any (·.1) || (backToKw pos (keywordEach kws X.env)).any (·.1.isNone)) = false := by rfl) : Ev X (.Call (.Name x p) (e :: es) kws pos) ρ L (.n (.ins C ns us)) Lc := by
  have hx := ct.pass
  have gl := ct.gl hg
  have hr := ct.room.mono hj
  have gd := ct.gd
  obtain ⟨rfl, rfl, rfl, rfl, rfl, _, _, _, _, _, _, _, _, _⟩ := ct
  refine ⟨fun W H σ Q s en q pins st Iv => ?_⟩
  refine wpAny_Call_Name_kw (ld_glob Iv gl hm ?_ (glOk_of hg).2.1)
  refine PySem.W.callWith_KW (h₀ := X.base) Iv.ok.mod.kin M.kp hall ?_ hpl he
  refine thn (ha W H σ (fun xs H1 => wpK X kws σ H1 fun ys H2 => xs.length = n0 ∧ ys.length = ks.length ∧ ∀ y dx, H2 y = none → H2 dx = none → dx ≠ y → spT X.K Rl (.ref y :: gV0 xs ys) (upd (upd H2 dx (.own y)) y (.ins C dx [])) (fun v H2 => v = .non ∧ Q (.ref y) H2) E0) s en (fun xs W1 H1 st1 s1 r1 => ?_) pos pins st Iv) fun us' s1 ⟨vs, H1, I1, rv, q1⟩ => ?_
  · refine hkw W1 H1 σ _ s1 (en.step st1 s) fun ys W2 H2 st2 s2 r2 => ⟨by rw [← r1.length]; exact hn, by rw [← r2.length]; exact hn2, ?_⟩
    have st12 := st1.trans st2
    exact make_T s2 (hgT _ _ _ _ (r1.step st2 s1) r2) h fun y W3 H3 st3 s3 r3 => q y W3 H3 (st12.trans st3) s3 (r3.back st12.dom)
  · refine thn (q1 pos pins s1 I1) fun ws s2 ⟨zs', H2, I2, rz, l1, l2, q2⟩ => ⟨I2.kIn, ?_⟩
    rw [hks]
    refine run_makeT (us := g0 us' ws) M F hr gd hx I2 (fun s' a Kin => ?_) (hr0 rv rz) q2
    have := hb.to s' (.ref a :: us') ws Kin (by rw [List.length_cons, ← rv.length, l1]) (rz.length.symm.trans l2)
    rw [hg0] at this
    exact this
end
end TL


/-! The tree layer, part D: targets, comprehensions, statements, defs. -/
namespace TL
open PySem PySem.Spec PyProof.Rows L2

/-! targets -/
/-- σ2 is σ but at the slots js -/
def OnlyAt (js : List Nat) (σ σ2 : L2.St) : Prop := σ2.length = σ.length ∧ ∀ i, i ∉ js → σ2[i]? = σ[i]?
theorem OnlyAt.refl {js : List Nat} {σ : L2.St} : OnlyAt js σ σ := ⟨rfl, fun _ _ => rfl⟩
theorem OnlyAt.set {i : Nat} {σ : L2.St} {o : Option V} : OnlyAt [i] σ (σ.set i o) := ⟨List.length_set, fun j h => List.getElem?_set_ne (by intro e; exact h (by rw [e]; exact List.mem_cons_self))⟩
theorem OnlyAt.app {js ks : List Nat} {σ σ1 σ2 : L2.St} (a : OnlyAt js σ σ1) (b : OnlyAt ks σ1 σ2) : OnlyAt (js ++ ks) σ σ2 :=
  ⟨b.1.trans a.1, fun i h => (b.2 i fun z => h (List.mem_append_right _ z)).trans (a.2 i fun z => h (List.mem_append_left _ z))⟩
theorem wipe_get (σ : L2.St) : ∀ (vs : List Nat) (i : Nat), (L2.wipe σ vs)[i]? = if i ∈ vs ∧ i < σ.length then some none else σ[i]?
  | [], i => by simp [L2.wipe]
  | v :: vs, i => by
    unfold L2.wipe
    by_cases e : v = i
    · subst e
      by_cases h : v < σ.length
      · rw [List.getElem?_set_self (by rw [wipe_length]; exact h), if_pos ⟨List.mem_cons_self, h⟩]
      · rw [List.getElem?_eq_none (by rw [List.length_set, wipe_length]; omega), if_neg (fun z => h z.2), List.getElem?_eq_none (by omega)]
    · rw [List.getElem?_set_ne e, wipe_get σ vs i]
      by_cases h : i ∈ vs ∧ i < σ.length
      · rw [if_pos h, if_pos ⟨List.mem_cons_of_mem _ h.1, h.2⟩]
      · rw [if_neg h, if_neg (fun z => h ⟨(List.mem_cons.mp z.1).resolve_left (fun q => e q.symm), z.2⟩)]
theorem wipe_only {js vs : List Nat} {σ σ2 : L2.St} (h : OnlyAt js (L2.wipe σ vs) σ2) (hs : ∀ j ∈ js, j ∈ vs) : L2.wipe σ2 vs = L2.wipe σ vs := by
  have hl : σ2.length = σ.length := h.1.trans (wipe_length σ vs)
  apply List.ext_getElem?
  intro i
  rw [wipe_get, wipe_get, hl]
  by_cases q : i ∈ vs ∧ i < σ.length
  · rw [if_pos q, if_pos q]
  · rw [if_neg q, if_neg q]
    by_cases hj : i ∈ js
    · have hv := hs i hj
      have : ¬ i < σ.length := fun z => q ⟨hv, z⟩
      rw [List.getElem?_eq_none (by omega), List.getElem?_eq_none (by omega)]
    · rw [h.2 i hj, wipe_get, if_neg q]
def wpG (X : Cx) (tg : Expr) (v : V) (σ : L2.St) (H : Hp) (Q : L2.St → Hp → Prop) : Prop := ∀ (pins : List (Addr × Obj)) (s : Shared) (u : Value), Inv X pins σ H s → RelV v u →
  wpAny (model X.prog X.w) X.A (assign tg X.env u) (fun _ s' => ∃ σ' H', Inv X pins σ' H' s' ∧ Q σ' H') X.xe s
theorem pg_wp {X : Cx} {tg : Expr} : PG X tg (wpG X tg) := ⟨fun pins s σ H v u Q I r h => h pins s u I r⟩
theorem wp_pg {X : Cx} {tg : Expr} {t : TG} {v : V} {σ : L2.St} {H : Hp} {Q : L2.St → Hp → Prop} (h : PG X tg t) (q : t v σ H Q) : wpG X tg v σ H Q := fun pins s u I r => h.run pins s σ H v u Q I r q
/-- tg = a value of the tree t: the slots js are stored, ρ' behind it -/
structure TgT (X : Cx) (tg : Expr) (js : List Nat) (t : T) (ρ ρ' : TEnv) (L : Store) : Prop where
  go : ∀ (W : Wd) (H : Hp) (σ : L2.St) (v : V) (Q : L2.St → Hp → Prop), SR X.K W H L → EnvR X.K W H ρ σ → Rp X.K W H t v → (∀ σ', EnvR X.K W H ρ' σ' → OnlyAt js σ σ' → Q σ' H) → wpG X tg v σ H Q
instance {X : Cx} {tg : Expr} {js : List Nat} {t : T} {ρ ρ' : TEnv} {L : Store} : CoeFun (TgT X tg js t ρ ρ' L) (fun _ => ∀ (W : Wd) (H : Hp) (σ : L2.St) (v : V) (Q : L2.St → Hp → Prop), SR X.K W H L → EnvR X.K W H ρ σ → Rp X.K W H t v → (∀ σ', EnvR X.K W H ρ' σ' → OnlyAt js σ σ' → Q σ' H) → wpG X tg v σ H Q) := ⟨TgT.go⟩
def TgsT (X : Cx) (tgs : List Expr) (js : List Nat) (ts : List T) (ρ ρ' : TEnv) (L : Store) : Prop :=
  ∃ g : TGs, PGs X tgs g ∧ ∀ (W : Wd) (H : Hp) (σ : L2.St) (vs : List V) (Q : L2.St → Hp → Prop), SR X.K W H L → EnvR X.K W H ρ σ → RpL X.K W H ts vs → (∀ σ', EnvR X.K W H ρ' σ' → OnlyAt js σ σ' → Q σ' H) → g vs σ H Q
def locOk (N : List Str) (sc : Scope) (fs : Str → Bool) (i : Nat) (x : Str) : Bool := decide (N[i]? = some x) && (match sc.names.lookup x with | some .local => true | some .cell => fs x | _ => false)
theorem locOk_of {N : List Str} {sc : Scope} {fs : Str → Bool} {i : Nat} {x : Str} (h : locOk N sc fs i x = true) : N[i]? = some x ∧ (sc.names.lookup x = some .local ∨ (sc.names.lookup x = some .cell ∧ fs x = true)) := by
  unfold locOk at h
  simp only [Bool.and_eq_true, decide_eq_true_eq] at h
  obtain ⟨h1, h2⟩ := h
  refine ⟨h1, ?_⟩
  split at h2
  · exact .inl (by assumption)
  · exact .inr ⟨by assumption, h2⟩
  · cases h2
section
variable {CX : CXT} {P : Program} {w : World} {K : PySem.W.Frag} {mg : Str → Option Value} {base : Heap} {k : Nat} {N : List Str} {sc : Scope} {fs : Str → Bool} {X : Cx}
variable {e a b c tg iter : Expr} {es : List Expr} {ρ ρ' ρ1 : TEnv} {L L1 Lb Lc : Store} {t u : T} {ts us : List T} {pos p : Pos} {i j : Int}
theorem Ct.loc (ct : Ct CX P w K mg base k N sc fs X) {n : Nat} {x : Str} (h : locOk N sc fs n x = true) : X.N.Nodup ∧ X.N[n]? = some x ∧ Loc X.env.scope x ∧ (X.fn x = true ∨ X.env.scope.names.lookup x = some .local) := by
  obtain ⟨h1, h2⟩ := locOk_of h
  refine ⟨by rw [ct.hN]; exact ct.nd, by rw [ct.hN]; exact h1, by rw [ct.hsc]; exact h2.imp id And.left, ?_⟩
  rw [ct.hsc, ct.fn]
  rcases h2 with h2 | h2
  · exact .inr h2
  · exact .inl h2.2
theorem tg_name (ct : Ct CX P w K mg base k N sc fs X) (n : Nat) {x : Str} (h : locOk N sc fs n x = true) : TgT X (.Name x pos) [n] t ρ (ρ.set n (some t)) L := by
  refine ⟨fun W H σ v Q s en r q => ?_⟩
  obtain ⟨h1, h2, h3, h4⟩ := ct.loc h
  exact wp_pg (pg_name h1 h2 h3 h4) (q _ (en.set r) .set)
theorem tgs_nil : TgsT X [] [] [] ρ ρ L := ⟨_, pgs_nil, fun W H σ vs Q s en r q => by cases r; exact ⟨rfl, q σ en .refl⟩⟩
theorem tgs_cons {tgs : List Expr} {js ks : List Nat} (h1 : TgT X tg js t ρ ρ1 L) (h2 : TgsT X tgs ks ts ρ1 ρ' L) (hs : (assignEach (tg :: tgs) X.env).map (·.2) = assign tg X.env :: (assignEach tgs X.env).map (·.2) := by rfl) : TgsT X (tg :: tgs) (js ++ ks) (t :: ts) ρ ρ' L := by
  obtain ⟨g, p, q⟩ := h2
  refine ⟨_, pgs_cons pg_wp p hs, fun W H σ vs Q s en r k => ?_⟩
  cases r with
  | cons r rs =>
    refine ⟨_, _, rfl, h1 W H σ _ _ s en r fun σ1 en1 o1 => ?_⟩
    exact q W H σ1 _ Q s en1 rs fun σ2 en2 o2 => k σ2 en2 (o1.app o2)
theorem tg_tup {tgs : List Expr} {js : List Nat} {k0 : Nat} (ct : Ct CX P w K mg base k N sc fs X) (h : TgsT X tgs js ts ρ ρ' L) (hl : ts.length = tgs.length) (hn : (assignEach tgs X.env).length = tgs.length := by rfl) (hst : (assignEach tgs X.env).findIdx? (·.1) = none := by rfl) : TgT X (.Tuple tgs k0 pos) js (.tup ts) ρ ρ' L := by
  obtain ⟨g, p, q⟩ := h
  refine ⟨fun W H σ v Q s en r k => ?_⟩
  refine wp_pg (pg_tup ct.calm p hn hst) ?_
  cases r with
  | tup f hh rr => exact ⟨_, _, rfl, .inl (.inl hh), by rw [← rr.length, hl], q W H σ _ Q s en rr k⟩

/-! comprehensions -/
def wpC (X : Cx) (ifs : List Expr) (σ : L2.St) (H : Hp) (Q : Bool → Hp → Prop) : Prop := ∀ (pins : List (Addr × Obj)) (s : Shared), Inv X pins σ H s → wpAny (model X.prog X.w) X.A (forIn ifs true fun c r => if r = true then do let ok ← isTrue c X.env (eval c X.env); pure (ForInStep.yield ok) else pure (ForInStep.yield r)) (TP X pins σ Q) X.xe s
theorem pts_wp {X : Cx} {ifs : List Expr} : PTs X ifs (wpC X ifs) := ⟨fun pins s _ _ _ I h => h pins s I⟩
theorem wp_pts {X : Cx} {ifs : List Expr} {t : TT} {σ : L2.St} {H : Hp} {Q : Bool → Hp → Prop} (h : PTs X ifs t) (q : t σ H Q) : wpC X ifs σ H Q := fun pins s I => h.run pins s σ H Q I q
structure EvC (X : Cx) (ifs : List Expr) (ρ : TEnv) (L : Store) (z : Bool) (L' : Store) : Prop where
  go : ∀ (W : Wd) (H : Hp) (σ : L2.St) (Q : Bool → Hp → Prop), SR X.K W H L → EnvR X.K W H ρ σ → (∀ W' H', Step W L H W' L' H' → SR X.K W' H' L' → Q z H') → wpC X ifs σ H Q
instance {X : Cx} {ifs : List Expr} {ρ : TEnv} {L : Store} {z : Bool} {L' : Store} : CoeFun (EvC X ifs ρ L z L') (fun _ => ∀ (W : Wd) (H : Hp) (σ : L2.St) (Q : Bool → Hp → Prop), SR X.K W H L → EnvR X.K W H ρ σ → (∀ W' H', Step W L H W' L' H' → SR X.K W' H' L' → Q z H') → wpC X ifs σ H Q) := ⟨EvC.go⟩
theorem Ct.blk (ct : Ct CX P w K mg base k N sc fs X) {scope : Scope} (hk : scope.kind = .function) (s : Shared) (H : Hp) (C : Addr) (cl : List (Str × Addr)) (fp : List Addr) :
    Ct CX P w K mg base k N (relS scope sc) (fun x => scope.names.lookup x == some .cell) (X.blk s H scope (compEnvC scope cl C X.env) fp) where
  hP := ct.hP
  hw := ct.hw
  hK := ct.hK
  hmg := ct.hmg
  hb := ct.hb
  hN := ct.hN
  hsc := by
    show relS scope X.env.scope = _
    rw [ct.hsc]
  calm := ct.calm
  room := ct.room
  gd := ct.gd
  nd := ct.nd
  kind := hk
  fn := rfl
  cx := ct.cx
theorem ec_nil : EvC X [] ρ L true L := ⟨fun W H σ Q s en q => wp_pts pts_nil (q W H .refl s)⟩
theorem ec_one {z : Bool} (h : EvB X c ρ L z L1) : EvC X [c] ρ L z L1 := ⟨fun W H σ Q s en q => wp_pts (pts_one pt_wp) (h W H σ Q s en q)⟩
theorem step_upd {W W1 : Wd} {H H1 : Hp} {D : Addr} {o : HO} (st : Step W L H W1 L1 H1) (hD : H D = none) : Step W L H W1 L1 (upd H1 D o) :=
  ⟨st.F, st.F', st.ad, st.new, st.live, fun a u e h => by rw [upd_ne (ne_of_none e hD)]; exact st.keep a u e h, fun a h => by
    by_cases e : a = D
    · subst e; rw [upd_same]; exact fun z => nomatch z
    · rw [upd_ne e]; exact st.dom a h⟩
/-- an object that is nobody's is written -/
theorem SR.loose {W : Wd} {H : Hp} {D : Addr} {o : HO} (s : SR K W H L) (hf : ¬ W.F D) (hc : ∀ n : Nat, Live L n → W.ad n ≠ some D) : SR K W (upd H D o) L where
  fin := s.fin
  at_ := s.at_
  fh := fun a f => by
    by_cases e : a = D
    · subst e; rw [upd_same]; exact fun z => nomatch z
    · rw [upd_ne e]; exact s.fh a f
  nf := s.nf
  inj := s.inj
  cel := fun n t a h e => (s.cel n t a h e).mono (fun _ h => h) (fun _ _ h => h) (.all fun x u f q => by rw [upd_ne (fun z => by subst z; exact hf f)]; exact q) (upd_ne fun z => by
    subst z
    exact hc n ⟨t, h⟩ e)
theorem RpL.loose {W : Wd} {H : Hp} {D : Addr} {o : HO} {xs : List V} (hf : ¬ W.F D) (r : RpL K W H ts xs) : RpL K W (upd H D o) ts xs :=
  RpL.mono (fun _ h => h) (fun _ _ h => h) (.all fun x u f q => by rw [upd_ne (fun z => by subst z; exact hf f)]; exact q) ts xs r
/-- for all blocks of a comprehension -/
abbrev AllB (X : Cx) (scope : Scope) (p : Cx → Prop) : Prop := ∀ (s : Shared) (H : Hp) (C : Addr) (cl : List (Str × Addr)) (fp : List Addr), p (X.blk s H scope (compEnvC scope cl C X.env) fp)
def gB (X : Cx) (scope : Scope) (tg : Expr) : TG := fun v σ H Q => AllB X scope fun Y => wpG Y tg v σ H Q
def cB (X : Cx) (scope : Scope) (ifs : List Expr) : TT := fun σ H Q => AllB X scope fun Y => wpC Y ifs σ H Q
def eB (X : Cx) (scope : Scope) (elt : Expr) : TE := fun σ H Q => AllB X scope fun Y => wpE Y elt σ H Q
theorem pg_B {scope : Scope} (s : Shared) (H : Hp) (C : Addr) (cl : List (Str × Addr)) (fp : List Addr) : PG (X.blk s H scope (compEnvC scope cl C X.env) fp) tg (gB X scope tg) := ⟨fun pins s' σ H' v u Q I r h => h s H C cl fp pins s' u I r⟩
theorem pc_B {scope : Scope} {ifs : List Expr} (s : Shared) (H : Hp) (C : Addr) (cl : List (Str × Addr)) (fp : List Addr) : PTs (X.blk s H scope (compEnvC scope cl C X.env) fp) ifs (cB X scope ifs) := ⟨fun pins s' σ H' Q I h => h s H C cl fp pins s' I⟩
theorem pe_B {scope : Scope} (s : Shared) (H : Hp) (C : Addr) (cl : List (Str × Addr)) (fp : List Addr) : PE (X.blk s H scope (compEnvC scope cl C X.env) fp) e (eB X scope e) := ⟨fun pins s' σ H' Q I h => h s H C cl fp pins s' I⟩
/-- the items made by the first i turns -/
def made (pf : Nat → Bool) (gf : Nat → T) (i : Nat) : List T := ((List.range i).filter pf).map gf
theorem made_yes {pf : Nat → Bool} {gf : Nat → T} {i : Nat} (h : pf i = true) : made pf gf (i + 1) = made pf gf i ++ [gf i] := by
  unfold made; rw [List.range_succ, List.filter_append, List.map_append]; simp [h]
theorem made_no {pf : Nat → Bool} {gf : Nat → T} {i : Nat} (h : pf i = false) : made pf gf (i + 1) = made pf gf i := by
  unfold made; rw [List.range_succ, List.filter_append, List.map_append]; simp [h]
theorem made_len {pf : Nat → Bool} {gf : Nat → T} (i : Nat) : (made pf gf i).length ≤ i := by
  unfold made; rw [List.length_map]; have := List.length_filter_le pf (List.range i); rwa [List.length_range] at this
/-- a comprehension's turns, by number: Lf the store ahead of a turn, ρf the names in it, pf its test, gf its item -/
structure LcT (X : Cx) (tg elt : Expr) (ifs : List Expr) (scope : Scope) (vs : List Nat) (ρ : TEnv) (xs : List T) (Lf : Nat → Store) (pf : Nat → Bool) (gf : Nat → T) : Prop where
  sz : xs.length ≤ 100000
  turn : ∀ (i : Nat) (x : T), xs[i]? = some x → ∃ (js : List Nat) (ρ1 : TEnv) (Lm : Store), (∀ j ∈ js, j ∈ vs) ∧ AllB X scope (fun Y => TgT Y tg js x (wipeT ρ vs) ρ1 (Lf i)) ∧ AllB X scope (fun Y => EvC Y ifs ρ1 (Lf i) (pf i) Lm) ∧
    (pf i = true → AllB X scope fun Y => Ev Y elt ρ1 Lm (.v (gf i)) (Lf (i + 1))) ∧ (pf i = false → Lf (i + 1) = Lm)
theorem lcR {scope : Scope} {elt : Expr} {ifs : List Expr} {vs : List Nat} {xs : List T} {Lf : Nat → Store} {pf : Nat → Bool} {gf : Nat → T} (h : LcT X tg elt ifs scope vs ρ xs Lf pf gf)
    {W : Wd} {H : Hp} {σ : L2.St} {J : It} {Q : V → Hp → Prop} (s : SR X.K W H (Lf 0)) (en : EnvR X.K W H ρ σ) (hJ : WalkT X.K W (Lf 0) H J xs)
    (q : ∀ y W' H', Step W (Lf 0) H W' (Lf xs.length) H' → SR X.K W' H' (Lf xs.length) → RR X.K W' (Lf xs.length) H H' (.n (.lst (made pf gf xs.length))) y → Q y H') :
    ∀ D, H D = none → ∃ Wi : Nat → Nat → Hp → Prop, (∃ m, Wi 0 m (upd H D (.lst []))) ∧ ∀ i m H, Wi i m H →
      (J.stop i H ∧ Q (.ref D) H) ∨ (J.go i H ∧ ∃ Nx : Hp → Prop, (∀ H', Nx H' → ∃ m', m' < m ∧ Wi (i + 1) m' H') ∧ ∀ x H', J.yld i H x H' → gB X scope tg x (L2.wipe σ vs) H' fun σ2 H2 => L2.wipe σ2 vs = L2.wipe σ vs ∧ cB X scope ifs σ2 H2 fun b H3 =>
        if b = true then eB X scope elt σ2 H3 fun y H4 => ∃ acc, H4 D = some (.lst acc) ∧ acc.length < sizeLine ∧ Nx (upd H4 D (.lst (acc ++ [y]))) else Nx H3) := by
  intro D hD
  -- the turn's word
  let G : Nat → Hp → Prop := fun i H1 => ∃ W1, Step W (Lf 0) H W1 (Lf i) H1 ∧ SR X.K W1 H1 (Lf i) ∧ ¬ W1.F D ∧ (∀ n : Nat, W1.ad n ≠ some D ∨ ¬ Live (Lf i) n) ∧ ∃ acc, H1 D = some (.lst acc) ∧ RpL X.K W1 H1 (made pf gf i) acc
  have more : ∀ {W1 W2 : Wd} {La Lb : Store} {H1 H2 : Hp}, Step W1 La H1 W2 Lb H2 → SR X.K W1 H1 La → SR X.K W2 H2 Lb → ¬ W1.F D → (∀ n : Nat, W1.ad n ≠ some D ∨ ¬ Live La n) → H1 D ≠ none → ¬ W2.F D ∧ (∀ n : Nat, W2.ad n ≠ some D ∨ ¬ Live Lb n) := by
    intro W1 W2 La Lb H1 H2 st s1 s2 hf hc hd
    constructor
    · intro f
      rcases st.F' D f with f | f | ⟨n, l, e⟩
      · exact hf f
      · exact hd f
      · rcases hc n with z | z
        · exact z e
        · exact z l
    · intro n
      by_cases l : Live Lb n
      · left
        intro e
        cases q0 : W1.ad n with
        | none => exact hd (st.new n D q0 e)
        | some a =>
          have e1 := st.ad n a q0
          rw [e] at e1; cases e1
          rcases hc n with z | z
          · exact z q0
          · exact z (st.live n (by rw [q0]; exact fun z => nomatch z) l)
      · exact .inr l
  refine ⟨fun i m H1 => m = xs.length - i ∧ i ≤ xs.length ∧ G i H1, ⟨xs.length, by simp, Nat.zero_le _, W, step_upd .refl hD, s.new hD, fun f => s.fh D f hD, fun n => ?_, [], upd_same, .nil⟩, ?_⟩
  · by_cases l : Live (Lf 0) n
    · exact .inl fun e => s.adh n D l e hD
    · exact .inr l
  rintro i m H1 ⟨rfl, hi, W1, st1, s1, f1, c1, acc, eD, racc⟩
  by_cases hlt : i < xs.length
  · have hx : xs[i]? = some xs[i] := List.getElem?_eq_getElem hlt
    obtain ⟨go, yld⟩ := hJ.turn i _ hx W1 (Lf i) H1 st1 s1
    refine .inr ⟨go, G (i + 1), fun H' g => ⟨xs.length - (i + 1), by omega, rfl, hlt, g⟩, fun x H2 hy => ?_⟩
    obtain ⟨W2, st2, s2, r2⟩ := yld x H2 hy
    have dn1 : H1 D ≠ none := by rw [eD]; exact fun z => nomatch z
    obtain ⟨f2, c2⟩ := more st2 s1 s2 f1 c1 dn1
    have kD : ∀ {Wa Wb : Wd} {La Lb : Store} {Ha Hb : Hp} {o : HO}, Step Wa La Ha Wb Lb Hb → (∀ n : Nat, Wa.ad n ≠ some D ∨ ¬ Live La n) → Ha D = some o → Hb D = some o := fun st c e => st.keep D _ e fun n l => (c n).resolve_right (fun z => z l)
    have eD2 := kD st2 c1 eD
    have st12 := st1.trans st2
    obtain ⟨js, ρ1, Lm, hjs, ht, hc, he, hno⟩ := h.turn i _ hx
    have en2 : EnvR X.K W2 H2 (wipeT ρ vs) (L2.wipe σ vs) := (en.step st12 s).wipe vs
    intro s' H' C cl fp
    refine ht s' H' C cl fp W2 H2 _ x _ s2 en2 r2 fun σ2 en3 only => ⟨wipe_only only hjs, ?_⟩
    intro s' H' C cl fp
    refine hc s' H' C cl fp W2 H2 σ2 _ s2 en3 fun W3 H3 st3 s3 => ?_
    have dn2 : H2 D ≠ none := by rw [eD2]; exact fun z => nomatch z
    obtain ⟨f3, c3⟩ := more st3 s2 s3 f2 c2 dn2
    have eD3 := kD st3 c2 eD2
    have racc3 : RpL X.K W3 H3 (made pf gf i) acc := (racc.step st2 s1).step st3 s2
    have st13 := st12.trans st3
    cases hp : pf i with
    | true =>
      rw [if_pos rfl]
      intro s' H' C cl fp
      refine he hp s' H' C cl fp W3 H3 σ2 _ s3 (en3.step st3 s2) fun y W4 H4 st4 s4 r4 => ?_
      have dn3 : H3 D ≠ none := by rw [eD3]; exact fun z => nomatch z
      obtain ⟨f4, c4⟩ := more st4 s3 s4 f3 c3 dn3
      have eD4 := kD st4 c3 eD3
      have racc4 := racc3.step st4 s3
      have hlen : acc.length < sizeLine := by
        rw [← racc4.length]
        have h1 := made_len (pf := pf) (gf := gf) i
        have h2 := h.sz
        have h3 : (100000 : Nat) ≤ sizeLine := by decide
        omega
      refine ⟨acc, eD4, hlen, W4, step_upd (st13.trans st4) hD, s4.loose f4 (fun n l => (c4 n).resolve_right (fun z => z l)), f4, c4, acc ++ [y], upd_same, ?_⟩
      rw [made_yes hp]
      exact (racc4.append (.cons r4 .nil)).loose f4
    | false =>
      rw [if_neg Bool.false_ne_true]
      show G (i + 1) H3
      have e := hno hp
      refine ⟨W3, ?_, ?_, f3, ?_, acc, eD3, ?_⟩
      · rw [e]; exact st13
      · rw [e]; exact s3
      · rw [e]; exact c3
      · rw [made_no hp]; exact racc3
  · have e : i = xs.length := by omega
    subst e
    refine .inl ⟨hJ.stop W1 (Lf _) H1 st1 s1, q _ W1 H1 st1 s1 ⟨D, rfl, hD, f1, fun n l => (c1 n).resolve_right (fun z => z l), acc, eD, racc⟩⟩
/-- [elt for tg in iter if ..] -/
theorem ev_lc {scope : Scope} {elt : Expr} {ifs : List Expr} {own : List (Str × Nat)} {xs : List T} {Lf : Nat → Store} {pf : Nat → Bool} {gf : Nat → T} (ct : Ct CX P w K mg base k N sc fs X) (ok : blkC N sc scope own = true) (hi : EvI X tg iter ρ L xs (Lf 0))
    (h : LcT X tg elt ifs scope (own.map (·.2)) ρ xs Lf pf gf) (hs : ∀ x, foldedSetIterable iter X.env x = pure x := by intro _; rfl) : Ev X (.ListComp elt [⟨tg, iter, ifs, 0⟩] scope pos) ρ L (.n (.lst (made pf gf xs.length))) (Lf xs.length) := by
  refine ⟨fun W H σ Q s en q => ?_⟩
  refine wp_pe (pe_lc ct.calm (by rw [ct.hN]; exact ct.nd) pi_wp (by rw [ct.hN, ct.hsc]; exact blkOk_by ok) pg_B pc_B pe_B hs) ?_
  refine hi W H σ _ s en fun J W1 H1 st1 s1 hJ => ?_
  exact lcR h s1 (en.step st1 s) hJ fun y W2 H2 st2 s2 r2 => q y W2 H2 (st1.trans st2) s2 (r2.back st1.dom)
end
end TL


/-! The tree layer, part E: statements, defs. -/
namespace TL
open PySem PySem.Spec PyProof.Rows L2

/-- what is wanted behind statements -/
structure TK where
  nx : TEnv → Store → Prop
  rt : R → Store → Prop := fun _ _ => False
  bk : TEnv → Store → Prop := fun _ _ => False
  ct : TEnv → Store → Prop := fun _ _ => False
structure DOk (K : PySem.W.Frag) (W : Wd) (H : Hp) (L : Store) (k : TK) (D : Ends) : Prop where
  nx : ∀ ρ' L' W' H' σ', Step W L H W' L' H' → SR K W' H' L' → EnvR K W' H' ρ' σ' → k.nx ρ' L' → D.nx σ' H'
  rt : ∀ r L' W' H' x, Step W L H W' L' H' → SR K W' H' L' → RR K W' L' H H' r x → k.rt r L' → D.rt x H'
  bk : ∀ ρ' L' W' H' σ', Step W L H W' L' H' → SR K W' H' L' → EnvR K W' H' ρ' σ' → k.bk ρ' L' → D.bk σ' H'
  ct : ∀ ρ' L' W' H' σ', Step W L H W' L' H' → SR K W' H' L' → EnvR K W' H' ρ' σ' → k.ct ρ' L' → D.ct σ' H'
theorem DOk.step {K : PySem.W.Frag} {W W1 : Wd} {H H1 : Hp} {L L1 : Store} {k : TK} {D : Ends} (d : DOk K W H L k D) (st : Step W L H W1 L1 H1) : DOk K W1 H1 L1 k D where
  nx := fun ρ' L' W' H' σ' a => d.nx ρ' L' W' H' σ' (st.trans a)
  rt := fun r L' W' H' x a s r' => d.rt r L' W' H' x (st.trans a) s (r'.back st.dom)
  bk := fun ρ' L' W' H' σ' a => d.bk ρ' L' W' H' σ' (st.trans a)
  ct := fun ρ' L' W' H' σ' a => d.ct ρ' L' W' H' σ' (st.trans a)
theorem DOk.imp {K : PySem.W.Frag} {W : Wd} {H : Hp} {L : Store} {k k' : TK} {D : Ends} (d : DOk K W H L k D) (h1 : ∀ ρ L, k'.nx ρ L → k.nx ρ L) (h2 : ∀ r L, k'.rt r L → k.rt r L) (h3 : ∀ ρ L, k'.bk ρ L → k.bk ρ L) (h4 : ∀ ρ L, k'.ct ρ L → k.ct ρ L) : DOk K W H L k' D where
  nx := fun ρ' L' W' H' σ' a b c q => d.nx ρ' L' W' H' σ' a b c (h1 _ _ q)
  rt := fun r L' W' H' x a s r' q => d.rt r L' W' H' x a s r' (h2 _ _ q)
  bk := fun ρ' L' W' H' σ' a b c q => d.bk ρ' L' W' H' σ' a b c (h3 _ _ q)
  ct := fun ρ' L' W' H' σ' a b c q => d.ct ρ' L' W' H' σ' a b c (h4 _ _ q)

def wpSs (X : Cx) (ss : List Stmt) (σ : L2.St) (H : Hp) (D : Ends) : Prop := ∀ (pins : List (Addr × Obj)) (s : Shared), Inv X pins σ H s → wpAny (model X.prog X.w) X.A (execs ss X.env) (SP X pins D) X.xe s
def wpS (X : Cx) (st : Stmt) (σ : L2.St) (H : Hp) (D : Ends) : Prop := ∀ (pins : List (Addr × Obj)) (s : Shared), Inv X pins σ H s → wpAny (model X.prog X.w) X.A (exec st X.env) (SP X pins D) X.xe s
theorem pss_wp {X : Cx} {ss : List Stmt} : PSs X ss (fun D σ H => wpSs X ss σ H D) := ⟨fun pins s _ _ _ I h => h pins s I⟩
theorem ps_wp {X : Cx} {st : Stmt} : PS X st (fun D σ H => wpS X st σ H D) := ⟨fun pins s _ _ _ I h => h pins s I⟩
theorem wp_pss {X : Cx} {ss : List Stmt} {t : TS} {σ : L2.St} {H : Hp} {D : Ends} (h : PSs X ss t) (q : t D σ H) : wpSs X ss σ H D := fun pins s I => h.run pins s σ H D I q
theorem wp_ps {X : Cx} {st : Stmt} {t : TS} {σ : L2.St} {H : Hp} {D : Ends} (h : PS X st t) (q : t D σ H) : wpS X st σ H D := fun pins s I => h.run pins s σ H D I q
/-- a block; a statement -/
structure WS (X : Cx) (ss : List Stmt) (ρ : TEnv) (L : Store) (k : TK) : Prop where
  go : ∀ (W : Wd) (H : Hp) (σ : L2.St) (D : Ends), SR X.K W H L → EnvR X.K W H ρ σ → DOk X.K W H L k D → wpSs X ss σ H D
instance {X : Cx} {ss : List Stmt} {ρ : TEnv} {L : Store} {k : TK} : CoeFun (WS X ss ρ L k) (fun _ => ∀ (W : Wd) (H : Hp) (σ : L2.St) (D : Ends), SR X.K W H L → EnvR X.K W H ρ σ → DOk X.K W H L k D → wpSs X ss σ H D) := ⟨WS.go⟩
structure W1 (X : Cx) (st : Stmt) (ρ : TEnv) (L : Store) (k : TK) : Prop where
  go : ∀ (W : Wd) (H : Hp) (σ : L2.St) (D : Ends), SR X.K W H L → EnvR X.K W H ρ σ → DOk X.K W H L k D → wpS X st σ H D
instance {X : Cx} {st : Stmt} {ρ : TEnv} {L : Store} {k : TK} : CoeFun (W1 X st ρ L k) (fun _ => ∀ (W : Wd) (H : Hp) (σ : L2.St) (D : Ends), SR X.K W H L → EnvR X.K W H ρ σ → DOk X.K W H L k D → wpS X st σ H D) := ⟨W1.go⟩

section
variable {CX : CXT} {P : Program} {w : World} {K : PySem.W.Frag} {mg : Str → Option Value} {base : Heap} {kk : Nat} {N : List Str} {sc : Scope} {fs : Str → Bool} {X : Cx}
variable {e a b c tg iter : Expr} {es : List Expr} {ρ ρ' ρ1 : TEnv} {L L1 Lb Lc : Store} {t u : T} {ts us : List T} {pos p : Pos} {i j : Int} {st : Stmt} {ss rest : List Stmt} {k k' : TK}

theorem Wd.fresh {W : Wd} {H : Hp} (s : SR K W H L) : ∃ n, W.ad n = none ∧ L n = none := by
  obtain ⟨b, hb⟩ := s.fin
  refine ⟨b, hb b (Nat.le_refl _), ?_⟩
  cases e : L b with
  | none => rfl
  | some t => exact absurd (hb b (Nat.le_refl _)) (s.at_ b ⟨t, e⟩)
/-- a new thing becomes the cell n -/
theorem adopt {W W' : Wd} {H H' : Hp} {x : V} {n : Nat} (s' : SR K W' H' L1) (st : Step W L H W' L1 H') (r : RR K W' L1 H H' (.n t) x) (hn : W'.ad n = none) : ∃ Wn : Wd, Step W L H Wn (updS L1 n (some t)) H' ∧ SR K Wn H' (updS L1 n (some t)) ∧ Rp K Wn H' (.cel n) x ∧ (∀ (u : T) (y : V), Rp K W' H' u y → Rp K Wn H' u y) := by
  obtain ⟨a, rfl, h0, hf, hc, cr⟩ := r
  exact ⟨W'.cell n a, st.cell hn h0, s'.cell hn cr hf hc, .cel cell_same, fun u y h => h.cell hn⟩

theorem ws_nil (h : k.nx ρ L) : WS X [] ρ L k := ⟨fun W H σ D s en d => wp_pss pss_nil (d.nx ρ L W H σ .refl s en h)⟩
theorem ws_imp (h : WS X ss ρ L k) (h1 : ∀ ρ L, k.nx ρ L → k'.nx ρ L) (h2 : ∀ r L, k.rt r L → k'.rt r L) (h3 : ∀ ρ L, k.bk ρ L → k'.bk ρ L) (h4 : ∀ ρ L, k.ct ρ L → k'.ct ρ L) : WS X ss ρ L k' := ⟨fun W H σ D s en d => h W H σ D s en (d.imp h1 h2 h3 h4)⟩
/-- st, then the rest -/
def TK.seq (X : Cx) (rest : List Stmt) (k : TK) : TK := { k with nx := fun ρ' L' => WS X rest ρ' L' k }
theorem ws_cons (h : W1 X st ρ L (k.seq X rest)) : WS X (st :: rest) ρ L k := by
  refine ⟨fun W H σ D s en d => ?_⟩
  refine wp_pss (pss_cons ps_wp pss_wp) ?_
  exact h W H σ { D with nx := fun σ' H' => wpSs X rest σ' H' D } s en ⟨fun ρ' L' W' H' σ' st s' en' q => WS.go q W' H' σ' D s' en' (d.step st), d.rt, d.bk, d.ct⟩
/-- name = e -/
theorem w1_set (ct : Ct CX P w K mg base kk N sc fs X) (n : Nat) {x : Str} {p' : Pos} (hx : locOk N sc fs n x = true) (he : Ev X e ρ L (.v t) L1) (h : k.nx (ρ.set n (some t)) L1) (hs : swapsWith e (some (.Name x p')) pos.line X.env = pure false := by rfl) : W1 X (.Assign [.Name x p'] e pos) ρ L k := by
  refine ⟨fun W H σ D s en d => ?_⟩
  obtain ⟨h1, h2, h3, h4⟩ := ct.loc hx
  refine wp_ps (ps_set h1 h2 h3 pe_wp hs h4) ?_
  exact he W H σ _ s en fun y W2 H2 st2 s2 r2 => d.nx _ _ W2 H2 _ st2 s2 ((en.step st2 s).set r2) h
theorem ws_set (ct : Ct CX P w K mg base kk N sc fs X) (n : Nat) {x : Str} {p' : Pos} (hx : locOk N sc fs n x = true) (he : Ev X e ρ L (.v t) L1) (h : WS X rest (ρ.set n (some t)) L1 k) (hs : swapsWith e (some (.Name x p')) pos.line X.env = pure false := by rfl) : WS X (.Assign [.Name x p'] e pos :: rest) ρ L k :=
  ws_cons (w1_set ct n hx he h hs)
/-- name = e, what e makes becomes a cell -/
theorem ws_setC (ct : Ct CX P w K mg base kk N sc fs X) (n : Nat) {x : Str} {p' : Pos} (hx : locOk N sc fs n x = true) (he : Ev X e ρ L (.n t) L1) (h : ∀ m, L1 m = none → WS X rest (ρ.set n (some (.cel m))) (updS L1 m (some t)) k) (hs : swapsWith e (some (.Name x p')) pos.line X.env = pure false := by rfl) : WS X (.Assign [.Name x p'] e pos :: rest) ρ L k := by
  refine ws_cons ?_
  refine ⟨fun W H σ D s en d => ?_⟩
  obtain ⟨h1, h2, h3, h4⟩ := ct.loc hx
  refine wp_ps (ps_set h1 h2 h3 pe_wp hs h4) ?_
  refine he W H σ _ s en fun y W2 H2 st2 s2 r2 => ?_
  obtain ⟨m, hm, hl⟩ := Wd.fresh s2
  obtain ⟨Wn, stn, sn, rn, _⟩ := adopt s2 st2 r2 hm
  exact d.nx _ _ Wn H2 _ stn sn ((en.step stn s).set rn) (h m hl)
/-- name = [..] on one line -/
theorem ws_setLc {scope : Scope} {elt : Expr} {ifs : List Expr} {own : List (Str × Nat)} {xs : List T} {Lf : Nat → Store} {pf : Nat → Bool} {gf : Nat → T} {p1 : Pos} (ct : Ct CX P w K mg base kk N sc fs X) (n : Nat) {x : Str} {p' : Pos} (hx : locOk N sc fs n x = true) (hxl : sc.names.lookup x = some .local)
    (ok : blkC N sc scope own = true) (hi : EvI X tg iter ρ L xs (Lf 0)) (hc : LcT X tg elt ifs scope (own.map (·.2)) ρ xs Lf pf gf) (h : WS X rest (ρ.set n (some (.lst (made pf gf xs.length)))) (Lf xs.length) k)
    (hsw : (p'.line == p1.line) = true := by rfl) (ha : (scope.names.any fun (n, k) => n == x && (k == .local || k == .cell)) = false := by rfl) (hs : ∀ x, foldedSetIterable iter X.env x = pure x := by intro _; rfl) : WS X (.Assign [.Name x p'] (.ListComp elt [⟨tg, iter, ifs, 0⟩] scope p1) pos :: rest) ρ L k := by
  refine ws_cons ?_
  refine ⟨fun W H σ D s en d => ?_⟩
  obtain ⟨h1, h2, h3, h4⟩ := ct.loc hx
  refine wp_ps (ps_setLc ct.calm h1 h2 (by rw [ct.hsc]; exact hxl) (sw_true (by rw [ct.hsc]; exact ct.kind) (by rw [ct.hsc]; exact hxl) hsw ha) pi_wp (by rw [ct.hN, ct.hsc]; exact blkOk_by ok) pg_B pc_B pe_B hs) ?_
  refine hi W H σ _ s en fun J W1 H1 st1 s1 hJ => ?_
  refine lcR (Q := fun y H1 => gName n y σ H1 D.nx) hc s1 (en.step st1 s) hJ fun y W2 H2 st2 s2 r2 => ?_
  obtain ⟨a, rfl, hn, hf, hcc, cr⟩ := r2
  have st3 : Step W1 (Lf 0) H1 (W2.frz a) (Lf xs.length) H2 := st2.frz (.inl hn)
  exact d.nx _ _ (W2.frz a) H2 _ (st1.trans st3) (s2.frz cr.some hcc) ((en.step (st1.trans st3) s).set (CellR.rp (.inr rfl) cr.frz)) h
/-- .. the list becomes a cell -/
theorem ws_setLcC {scope : Scope} {elt : Expr} {ifs : List Expr} {own : List (Str × Nat)} {xs : List T} {Lf : Nat → Store} {pf : Nat → Bool} {gf : Nat → T} {p1 : Pos} (ct : Ct CX P w K mg base kk N sc fs X) (n : Nat) {x : Str} {p' : Pos} (hx : locOk N sc fs n x = true) (hxl : sc.names.lookup x = some .local)
    (ok : blkC N sc scope own = true) (hi : EvI X tg iter ρ L xs (Lf 0)) (hc : LcT X tg elt ifs scope (own.map (·.2)) ρ xs Lf pf gf) (h : ∀ m, Lf xs.length m = none → WS X rest (ρ.set n (some (.cel m))) (updS (Lf xs.length) m (some (.lst (made pf gf xs.length)))) k)
    (hsw : (p'.line == p1.line) = true := by rfl) (ha : (scope.names.any fun (n, k) => n == x && (k == .local || k == .cell)) = false := by rfl) (hs : ∀ x, foldedSetIterable iter X.env x = pure x := by intro _; rfl) : WS X (.Assign [.Name x p'] (.ListComp elt [⟨tg, iter, ifs, 0⟩] scope p1) pos :: rest) ρ L k := by
  refine ws_cons ?_
  refine ⟨fun W H σ D s en d => ?_⟩
  obtain ⟨h1, h2, h3, h4⟩ := ct.loc hx
  refine wp_ps (ps_setLc ct.calm h1 h2 (by rw [ct.hsc]; exact hxl) (sw_true (by rw [ct.hsc]; exact ct.kind) (by rw [ct.hsc]; exact hxl) hsw ha) pi_wp (by rw [ct.hN, ct.hsc]; exact blkOk_by ok) pg_B pc_B pe_B hs) ?_
  refine hi W H σ _ s en fun J W1 H1 st1 s1 hJ => ?_
  refine lcR (Q := fun y H1 => gName n y σ H1 D.nx) hc s1 (en.step st1 s) hJ fun y W2 H2 st2 s2 r2 => ?_
  obtain ⟨m, hm, hl⟩ := Wd.fresh s2
  obtain ⟨Wn, stn, sn, rn, _⟩ := adopt s2 st2 r2 hm
  exact d.nx _ _ Wn H2 _ (st1.trans stn) sn ((en.step (st1.trans stn) s).set rn) (h m hl)
/-- any target: tg = e -/
theorem ws_asg {js : List Nat} (he : Ev X e ρ L (.v t) L1) (hg : TgT X tg js t ρ ρ1 L1) (h : WS X rest ρ1 L1 k) (hs : swapsWithSole [tg] e pos.line X.env = pure false := by rfl) (hw : swappedStores [tg] e X.env = pure none := by rfl)
    (h1 : (assignEach [tg] X.env).map (·.2) = [assign tg X.env] := by rfl) : WS X (.Assign [tg] e pos :: rest) ρ L k := by
  refine ws_cons ?_
  refine ⟨fun W H σ D s en d => ?_⟩
  refine wp_ps (ps_asg pe_wp pg_wp hs hw h1) ?_
  exact he W H σ _ s en fun y W2 H2 st2 s2 r2 => hg W2 H2 σ y _ s2 (en.step st2 s) r2 fun σ' en' _ => d.nx _ _ W2 H2 _ st2 s2 en' h
/-- a, b = x, y -/
theorem ws_par (ct : Ct CX P w K mg base kk N sc fs X) (n m : Nat) {x y : Str} {px py pt : Pos} {kt k2 pt2} (hx : locOk N sc fs n x = true) (hy : locOk N sc fs m y = true) (hxl : sc.names.lookup x = some .local) (hyl : sc.names.lookup y = some .local) (hij : n ≠ m)
    (ha : EvA X [a, b] ρ L [t, u] L1) (h : WS X rest ((ρ.set n (some t)).set m (some u)) L1 k) (hw : swappedStores [.Tuple [.Name x px, .Name y py] kt pt] (.Tuple [a, b] k2 pt2) X.env = pure (some [x, y]))
    (hs : swapsWithSole [.Tuple [.Name x px, .Name y py] kt pt] (.Tuple [a, b] k2 pt2) pos.line X.env = pure false := by rfl) : WS X (.Assign [.Tuple [.Name x px, .Name y py] kt pt] (.Tuple [a, b] k2 pt2) pos :: rest) ρ L k := by
  refine ws_cons ?_
  refine ⟨fun W H σ D s en d => ?_⟩
  obtain ⟨h1, h2, h3, h4⟩ := ct.loc hx
  obtain ⟨g1, g2, g3, g4⟩ := ct.loc hy
  refine wp_ps (ps_par ct.calm h1 h2 g2 hij (by rw [ct.hsc]; exact hxl) (by rw [ct.hsc]; exact hyl) pa_wp hw hs) ?_
  refine ha W H σ _ s en fun xs W2 H2 st2 s2 r2 => ?_
  cases r2 with
  | cons r1 r2 =>
    cases r2 with
    | cons r2 r3 =>
      cases r3
      exact ⟨_, _, rfl, d.nx _ _ W2 H2 _ st2 s2 (((en.step st2 s).set r1).set r2) h⟩
theorem ws_expr {r : R} (he : Ev X e ρ L r L1) (h : WS X rest ρ L1 k) (hs : swapsWith e none pos.line X.env = pure false := by rfl) : WS X (.Expr e pos :: rest) ρ L k := by
  refine ws_cons ?_
  refine ⟨fun W H σ D s en d => ?_⟩
  refine wp_ps (ps_expr pe_wp hs) ?_
  exact he W H σ _ s en fun y W2 H2 st2 s2 r2 => d.nx _ _ W2 H2 _ st2 s2 (en.step st2 s) h
theorem ws_ret {r : R} (he : Ev X e ρ L r L1) (h : k.rt r L1) : WS X (.Return (some e) pos :: rest) ρ L k := by
  refine ws_cons ?_
  refine ⟨fun W H σ D s en d => ?_⟩
  refine wp_ps (ps_ret pe_wp) ?_
  exact he W H σ _ s en fun y W2 H2 st2 s2 r2 => d.rt _ _ W2 H2 y st2 s2 r2 h
theorem ws_retN (h : k.rt (.v N0) L) : WS X (.Return none pos :: rest) ρ L k := by
  refine ws_cons ?_
  refine ⟨fun W H σ D s en d => ?_⟩
  exact wp_ps ps_retN (d.rt _ _ W H _ .refl s (show RR X.K W L H H (.v N0) V.non from Rp.v _) h)
theorem ws_pass (h : WS X rest ρ L k) : WS X (.Pass pos :: rest) ρ L k := by
  refine ws_cons ?_
  refine ⟨fun W H σ D s en d => ?_⟩
  exact wp_ps ps_pass (d.nx _ _ W H _ .refl s en h)
theorem ws_break (h : k.bk ρ L) : WS X (.Break pos :: rest) ρ L k := by
  refine ws_cons ?_
  refine ⟨fun W H σ D s en d => ?_⟩
  exact wp_ps ps_break (d.bk _ _ W H _ .refl s en h)
theorem ws_cont (h : k.ct ρ L) : WS X (.Continue pos :: rest) ρ L k := by
  refine ws_cons ?_
  refine ⟨fun W H σ D s en d => ?_⟩
  exact wp_ps ps_continue (d.ct _ _ W H _ .refl s en h)
/-- if, both ways; the rest behind each -/
theorem ws_if {z : Bool} {yes no : List Stmt} (hc : EvB X c ρ L z L1) (h1 : z = true → WS X yes ρ L1 (k.seq X rest)) (h2 : z = false → WS X no ρ L1 (k.seq X rest)) : WS X (.If c yes no pos :: rest) ρ L k := by
  refine ws_cons ?_
  refine ⟨fun W H σ D s en d => ?_⟩
  refine wp_ps (ps_if pt_wp pss_wp pss_wp) ?_
  refine hc W H σ _ s en fun W2 H2 st2 s2 => ?_
  cases z with
  | true => exact h1 rfl W2 H2 σ D s2 (en.step st2 s) (d.step st2)
  | false => exact h2 rfl W2 H2 σ D s2 (en.step st2 s) (d.step st2)
theorem ws_ifT {yes no : List Stmt} (hc : EvB X c ρ L true L1) (h : WS X yes ρ L1 (k.seq X rest)) : WS X (.If c yes no pos :: rest) ρ L k := ws_if hc (fun _ => h) (fun z => nomatch z)
theorem ws_ifF {yes : List Stmt} (hc : EvB X c ρ L false L1) (h : WS X rest ρ L1 k) : WS X (.If c yes [] pos :: rest) ρ L k := ws_if hc (fun z => nomatch z) (fun _ => ws_nil h)
/-- name op= e -/
theorem ws_augI (ct : Ct CX P w K mg base kk N sc fs X) (n : Nat) {x : Str} {p' : Pos} (hx : locOk N sc fs n x = true) (hρ : ρ[n]? = some (some (I i))) (he : Ev X e ρ L (.v (I j)) L1) (h : WS X rest (ρ.set n (some (I (i + j)))) L1 k) : WS X (.AugAssign (.Name x p') .Add e pos :: rest) ρ L k := by
  refine ws_cons ?_
  refine ⟨fun W H σ D s en d => ?_⟩
  obtain ⟨h1, h2, h3, h4⟩ := ct.loc hx
  obtain ⟨y, e1, e2⟩ := en.2 n _ hρ
  cases e2
  refine wp_ps (ps_aug h1 h2 h3 pe_wp ip_add h4) ⟨_, e1, ?_⟩
  refine he W H σ _ s en fun y W2 H2 st2 s2 r2 => ?_
  cases r2
  exact ⟨i, j, rfl, rfl, d.nx _ _ W2 H2 _ st2 s2 ((en.step st2 s).set (.v _)) h⟩
/-- l.append(e), l a cell -/
theorem ev_append {o : Expr} {apos : Pos} {m : Nat} (ho : Ev X o ρ L (.v (.cel m)) L) (ha : Ev X e ρ L (.v t) L1) (hl : L1 m = some (.lst ts)) (hl0 : L m = some (.lst us)) (hz : ts.length ≤ 100000) (pm : ∀ {ta : TE} {tA : TA}, PE X o ta → PA X [e] tA → PE X (.Call (.Attribute o "append" apos) [e] [] pos) (tBM X.K "list" rAppend ta tA))
    (hs : starEach [e] X.env = (false, eval e X.env) :: starEach [] X.env := by rfl) : Ev X (.Call (.Attribute o "append" apos) [e] [] pos) ρ L (.v N0) (updS L1 m (some (.lst (ts ++ [t])))) := by
  refine ⟨fun W H σ Q s en q => ?_⟩
  refine wp_pe (pm pe_wp (pa_cons pe_wp pa_nil hs)) ?_
  refine ho W H σ _ s en fun x W1 H1 st1 s1 r1 => ?_
  cases r1 with
  | cel hc =>
    obtain ⟨vs0, e0, _⟩ := s1.cel m _ _ hl0 hc
    refine ⟨.inl ⟨rfl, _, .inl (.inl e0)⟩, ?_⟩
    refine ha W1 H1 σ _ s1 (en.step st1 s) fun y W2 H2 st2 s2 r2 => ?_
    have hc2 := st2.ad m _ hc
    obtain ⟨vs, e1, r3⟩ := s2.cel m _ _ hl hc2
    refine ⟨_, vs, y, rfl, rfl, e1, ?_, ?_⟩
    · have : (100000 : Nat) < sizeLine := by decide
      rw [← r3.length]; omega
    · have st3 := Step.write (t' := .lst (ts ++ [t])) (o := .lst (vs ++ [y])) (H := H2) hl hc2
      refine q _ W2 _ ((st1.trans st2).trans st3) (s2.write hl hc2 ⟨_, upd_same, ?_⟩) (.v _)
      exact (r3.append (.cons r2 .nil)).write s2 hl hc2
/-- x[i] = e, x a cell -/
theorem ws_setix {o ix : Expr} {m jx : Nat} {p' : Pos} (he : Ev X e ρ L (.v t) L1) (ho : Ev X o ρ L1 (.v (.cel m)) L1) (hi : Ev X ix ρ L1 (.v (I i)) Lb) (hl : Lb m = some (.lst ts)) (hix : ixN ts.length i = some jx) (h : WS X rest ρ (updS Lb m (some (.lst (ts.set jx t)))) k)
    (ha : ∀ v, assign (.Subscript o ix p') X.env v = (do
      let ov ← holding [v] (eval o X.env)
      let iv ← holding [v, ov] (eval ix X.env)
      standAt p'
      holding [v, ov, iv] (setItem ov iv v)
      release [v, ov, iv] []) := by intro _; rfl)
    (hs : swapsWithSole [.Subscript o ix p'] e pos.line X.env = pure false := by rfl) (hw : swappedStores [.Subscript o ix p'] e X.env = pure none := by rfl)
    (h1 : (assignEach [.Subscript o ix p'] X.env).map (·.2) = [assign (.Subscript o ix p') X.env] := by rfl) : WS X (.Assign [.Subscript o ix p'] e pos :: rest) ρ L k := by
  refine ws_cons ?_
  refine ⟨fun W H σ D s en d => ?_⟩
  refine wp_ps (ps_asg pe_wp (pg_sub pe_wp pe_wp set_list ha) hs hw h1) ?_
  refine he W H σ _ s en fun y W1 H1 st1 s1 r1 => ?_
  refine ho W1 H1 σ _ s1 (en.step st1 s) fun z W2 H2 st2 s2 r2 => ?_
  have st12 := st1.trans st2
  refine hi W2 H2 σ _ s2 (en.step st12 s) fun v W3 H3 st3 s3 r3 => ?_
  cases r3
  cases r2 with
  | cel hc =>
    have hc3 := st3.ad m _ hc
    obtain ⟨vs, e1, r4⟩ := s3.cel m _ _ hl hc3
    have ry := (Rp.step r1 st2 s1).step st3 s2
    refine ⟨_, vs, i, jx, rfl, rfl, e1, by rw [← r4.length]; exact hix, ?_⟩
    have st4 := Step.write (t' := .lst (ts.set jx t)) (o := .lst (vs.set jx y)) (H := H3) hl hc3
    have s4 : SR X.K W3 (upd H3 _ (.lst (vs.set jx y))) (updS Lb m (some (.lst (ts.set jx t)))) := s3.write hl hc3 ⟨_, upd_same, ((r4.set jx ry).write s3 hl hc3)⟩
    exact d.nx _ _ W3 _ _ ((st12.trans st3).trans st4) s4 (en.step ((st12.trans st3).trans st4) s) h
/-- o.f = e, o a cell that is an instance -/
theorem ws_fld {o : Expr} {f : Str} {p' : Pos} {m : Nat} {C : Addr} {ns ns' : List Str} (cl : Cls X.K C) (hn : NoAttr X.K C f) (he : Ev X e ρ L (.v t) L1) (ho : Ev X o ρ L1 (.v (.cel m)) L1) (hl : L1 m = some (.ins C ns ts)) (hz : ns.length < 100)
    (hlen : ns.length = ts.length) (hput : ∀ vs : List V, vs.length = ns.length → ∀ y : V, ∃ vs' : List V, putF f y (ns.zip vs) = ns'.zip vs' ∧ vs'.length = ns'.length ∧ ∀ W H, RpL X.K W H ts vs → Rp X.K W H t y → RpL X.K W H us vs') (h : WS X rest ρ (updS L1 m (some (.ins C ns' us))) k)
    (hs : swapsWith e (some (.Attribute o f p')) pos.line X.env = pure false := by rfl) : WS X (.Assign [.Attribute o f p'] e pos :: rest) ρ L k := by
  refine ws_cons ?_
  refine ⟨fun W H σ D s en d => ?_⟩
  refine wp_ps (ps_fld pe_wp pe_wp hs) ?_
  refine he W H σ _ s en fun y W1 H1 st1 s1 r1 => ?_
  refine ho W1 H1 σ _ s1 (en.step st1 s) fun z W2 H2 st2 s2 r2 => ?_
  cases r2 with
  | cel hc =>
    obtain ⟨dx, vs, e1, l1, r4⟩ := s2.cel m _ _ hl hc
    have ry := Rp.step r1 st2 s1
    obtain ⟨vs', e2, l2, hr⟩ := hput vs l1.symm y
    have lz : (ns.zip vs).length < 1000 := by rw [List.length_zip]; omega
    refine ⟨_, C, dx, _, rfl, e1, cl, hn, lz, ?_⟩
    rw [e2]
    have st4 := Step.write (t' := .ins C ns' us) (o := .ins C dx (ns'.zip vs')) (H := H2) hl hc
    have s4 : SR X.K W2 (upd H2 _ (.ins C dx (ns'.zip vs'))) (updS L1 m (some (.ins C ns' us))) := s2.write hl hc ⟨dx, vs', upd_same, l2.symm, (hr W2 H2 r4 ry).write s2 hl hc⟩
    exact d.nx _ _ W2 _ _ ((st1.trans st2).trans st4) s4 (en.step ((st1.trans st2).trans st4) s) h
/-- for: the word is asked by the turn's number; a turn's items are ts -/
theorem ws_for {body : List Stmt} (ct : Ct CX P w K mg base kk N sc fs X) (hp : PassesOwn (model X.prog X.w) X.A X.env X.xe) (hi : EvI X tg iter ρ L ts L1) (Wd : Nat → TEnv → Store → Prop) (h0 : Wd 0 ρ L1)
    (ht : ∀ n x ρ' L', ts[n]? = some x → Wd n ρ' L' → ∃ (js : List Nat) (ρ1 : TEnv), TgT X tg js x ρ' ρ1 L' ∧ WS X body ρ1 L' { nx := Wd (n + 1), rt := k.rt, bk := fun ρ' L' => WS X rest ρ' L' k, ct := Wd (n + 1) })
    (hd : ∀ ρ' L', Wd ts.length ρ' L' → WS X rest ρ' L' k) (hs : ∀ x, foldedSetIterable iter X.env x = pure x := by intro _; rfl) : WS X (.For tg iter body [] pos :: rest) ρ L k := by
  refine ws_cons ?_
  refine ⟨fun W H σ D s en d => ?_⟩
  refine wp_ps (ps_for hp ct.calm pi_wp pg_wp pss_wp hs) ?_
  refine hi W H σ _ s en fun J W1 H1 st1 s1 hJ => ?_
  refine ⟨fun n m σ' H' => m = ts.length - n ∧ n ≤ ts.length ∧ ∃ ρ' L' W', Step W1 L1 H1 W' L' H' ∧ SR X.K W' H' L' ∧ EnvR X.K W' H' ρ' σ' ∧ Wd n ρ' L', ⟨ts.length, by simp, Nat.zero_le _, ρ, L1, W1, .refl, s1, en.step st1 s, h0⟩, ?_⟩
  rintro n m σ' H' ⟨rfl, hn, ρ', L', W', st2, s2, en2, hw⟩
  by_cases hlt : n < ts.length
  · have hx : ts[n]? = some ts[n] := List.getElem?_eq_getElem hlt
    obtain ⟨go, yld⟩ := hJ.turn n _ hx W' L' H' st2 s2
    refine .inr ⟨go, fun σ3 H3 => ∃ ρ3 L3 W3, Step W1 L1 H1 W3 L3 H3 ∧ SR X.K W3 H3 L3 ∧ EnvR X.K W3 H3 ρ3 σ3 ∧ Wd (n + 1) ρ3 L3, fun σ3 H3 q => ⟨ts.length - (n + 1), by omega, rfl, hlt, q⟩, fun x H2 hy => ?_⟩
    obtain ⟨W2, st3, s3, r3⟩ := yld x H2 hy
    obtain ⟨js, ρ1, htg, hb⟩ := ht n _ ρ' L' hx hw
    have st13 := st2.trans st3
    refine htg W2 H2 σ' x _ s3 (en2.step st3 s2) r3 fun σ4 en4 _ => ?_
    refine hb W2 H2 σ4 _ s3 en4 ⟨fun ρ5 L5 W5 H5 σ5 a b c q => ⟨ρ5, L5, W5, st13.trans a, b, c, q⟩, fun r L5 W5 H5 x a b c q => d.rt r L5 W5 H5 x ((st1.trans st13).trans a) b (c.back (st1.trans st13).dom) q,
      fun ρ5 L5 W5 H5 σ5 a b c q => d.nx ρ5 L5 W5 H5 σ5 ((st1.trans st13).trans a) b c q, fun ρ5 L5 W5 H5 σ5 a b c q => ⟨ρ5, L5, W5, st13.trans a, b, c, q⟩⟩
  · have e : n = ts.length := by omega
    subst e
    exact .inl ⟨hJ.stop W' L' H' st2 s2, d.nx ρ' L' W' H' σ' (st1.trans st2) s2 en2 (hd ρ' L' hw)⟩
/-- while: a word and a measure -/
theorem ws_while {body : List Stmt} (hp : PassesOwn (model X.prog X.w) X.A X.env X.xe) (Wd : Nat → TEnv → Store → Prop) (m0 : Nat) (h0 : Wd m0 ρ L)
    (ht : ∀ m ρ' L', Wd m ρ' L' → ∃ z L2, EvB X c ρ' L' z L2 ∧ (z = true → WS X body ρ' L2 { nx := fun ρ3 L3 => ∃ m', m' < m ∧ Wd m' ρ3 L3, rt := k.rt, bk := fun ρ' L' => WS X rest ρ' L' k, ct := fun ρ3 L3 => ∃ m', m' < m ∧ Wd m' ρ3 L3 }) ∧ (z = false → WS X rest ρ' L2 k)) : WS X (.While c body [] pos :: rest) ρ L k := by
  refine ws_cons ?_
  refine ⟨fun W H σ D s en d => ?_⟩
  refine wp_ps (ps_while hp pt_wp pss_wp) ?_
  refine ⟨fun m σ' H' => ∃ ρ' L' W', Step W L H W' L' H' ∧ SR X.K W' H' L' ∧ EnvR X.K W' H' ρ' σ' ∧ Wd m ρ' L', ⟨m0, ρ, L, W, .refl, s, en, h0⟩, ?_⟩
  rintro m σ' H' ⟨ρ', L', W', st2, s2, en2, hw⟩
  obtain ⟨z, L2, hc, hT, hF⟩ := ht m ρ' L' hw
  refine hc W' H' σ' _ s2 en2 fun W3 H3 st3 s3 => ?_
  have st13 := st2.trans st3
  cases z with
  | true =>
    rw [if_pos rfl]
    refine ⟨fun σ4 H4 => ∃ m', m' < m ∧ ∃ ρ4 L4 W4, Step W L H W4 L4 H4 ∧ SR X.K W4 H4 L4 ∧ EnvR X.K W4 H4 ρ4 σ4 ∧ Wd m' ρ4 L4, fun σ4 H4 ⟨m', h1, q⟩ => ⟨m', h1, q⟩, ?_⟩
    exact hT rfl W3 H3 σ' _ s3 (en2.step st3 s2) ⟨fun ρ5 L5 W5 H5 σ5 a b c ⟨m', h1, q⟩ => ⟨m', h1, ρ5, L5, W5, st13.trans a, b, c, q⟩, fun r L5 W5 H5 x a b c q => d.rt r L5 W5 H5 x (st13.trans a) b (c.back st13.dom) q,
      fun ρ5 L5 W5 H5 σ5 a b c q => d.nx ρ5 L5 W5 H5 σ5 (st13.trans a) b c q, fun ρ5 L5 W5 H5 σ5 a b c ⟨m', h1, q⟩ => ⟨m', h1, ρ5, L5, W5, st13.trans a, b, c, q⟩⟩
  | false =>
    rw [if_neg Bool.false_ne_true]
    exact d.nx _ _ W3 H3 σ' st13 s3 (en2.step st3 s2) (hF rfl)
/-- a cell is frozen: the names of js hold it as data from now on -/
theorem ws_freeze {n m : Nat} (hl : L m = some t) (hρ : ρ[n]? = some (some (.cel m))) (h : WS X ss (ρ.set n (some t)) (updS L m none) k) : WS X ss ρ L k := by
  refine ⟨fun W H σ D s en d => ?_⟩
  obtain ⟨x, e1, e2⟩ := en.2 n _ hρ
  cases e2 with
  | cel hc =>
    rename_i a
    have st := Step.kill (H := H) hl hc
    have en1 := en.step st s
    have cr := s.cel m t a hl hc
    refine h (W.frz a) H σ D (s.kill hl hc) ?_ (d.step st)
    have := en1.set (i := n) (CellR.rp (.inr rfl) (cr.frz (a := a)))
    have es : σ.set n (some (V.ref a)) = σ := by
      apply List.ext_getElem?
      intro i
      by_cases hi : n = i
      · subst hi; rw [List.getElem?_set_self (List.getElem?_eq_some_iff.mp e1).1, e1]
      · rw [List.getElem?_set_ne hi]
    rw [es] at this
    exact this
/-- a cell is let go -/
theorem ws_drop {m : Nat} (h : WS X ss ρ (updS L m none) k) : WS X ss ρ L k := ⟨fun W H σ D s en d =>
  h W H σ D (s.less less_kill) en (d.step (Step.refl.less less_kill))⟩

/-! defs -/
/-- behind a def: what it hands back, the store its caller sees -/
def Exit (L0 : Store) (r1 : R) (L1 : Store) (r0 : R) (L0' : Store) : Prop :=
  (∀ n t, L0' n = some t → L1 n = some t ∧ Live L0 n) ∧ (r1 = r0 ∨ ∃ n t, r1 = .v (.cel n) ∧ r0 = .n t ∧ L0 n = none ∧ L1 n = some t)
theorem exit_same {r : R} : Exit L r L r L := ⟨fun n t h => ⟨h, t, h⟩, .inl rfl⟩
theorem exit_pure {r : R} (h : ∀ n t, L n = some t → L1 n = some t) : Exit L r L1 r L := ⟨fun n t e => ⟨h n t e, t, e⟩, .inl rfl⟩
theorem exit_cell {n : Nat} (h : ∀ n t, L n = some t → L1 n = some t) (h0 : L n = none) (h1 : L1 n = some t) : Exit L (.v (.cel n)) L1 (.n t) L := ⟨fun n t e => ⟨h n t e, t, e⟩, .inr ⟨n, t, rfl, rfl, h0, h1⟩⟩
def startT (N : List Str) (ts : List T) : TEnv := ts.map some ++ List.replicate (N.length - ts.length) none
theorem startT_r {W : Wd} {H : Hp} {vs : List V} (r : RpL K W H ts vs) : EnvR K W H (startT N ts) (L2.start N vs) := by
  unfold startT L2.start
  refine ⟨by simp [r.length], fun i t h => ?_⟩
  by_cases hi : i < ts.length
  · rw [List.getElem?_append_left (by simpa using hi), List.getElem?_map] at h
    cases q : ts[i]? with
    | none => rw [q] at h; cases h
    | some u =>
      rw [q] at h
      have hu : u = t := by simpa using h
      subst hu
      obtain ⟨x, e1, e2⟩ := r.get q
      refine ⟨x, ?_, e2⟩
      rw [List.getElem?_append_left (by rw [List.length_map, ← r.length]; exact hi), List.getElem?_map, e1]
      rfl
  · rw [List.getElem?_append_right (by simpa using hi)] at h
    have := List.mem_of_getElem? h
    rw [List.mem_replicate] at this
    cases this.2
def fnK (L0 : Store) (r : R) (L' : Store) : TK := { nx := fun _ L1 => Exit L0 (.v N0) L1 r L', rt := fun r1 L1 => Exit L0 r1 L1 r L' }
/-- what leaves a body, for the caller -/
theorem exit_ok {W W1 : Wd} {H H1 : Hp} {r1 r : R} {L' : Store} {y : V} {Q : VK} (q : ∀ x W' H', Step W L H W' L' H' → SR K W' H' L' → RR K W' L' H H' r x → Q x H') (st1 : Step W L H W1 L1 H1) (s1 : SR K W1 H1 L1) (r2 : RR K W1 L1 H H1 r1 y) (ex : Exit L r1 L1 r L') : Q y H1 := by
  obtain ⟨h1, h2⟩ := ex
  have s2 : SR K W1 H1 L' := s1.less fun n t e => (h1 n t e).1
  have st2 : Step W L H W1 L' H1 := st1.less fun n t e => (h1 n t e).1
  refine q y W1 H1 st2 s2 ?_
  rcases h2 with rfl | ⟨n, t, rfl, rfl, h0, hn⟩
  · cases r1 with
    | v t => exact r2
    | n t =>
      obtain ⟨a, e, z1, z2, z3, z4⟩ := r2
      exact ⟨a, e, z1, z2, fun n ⟨u, l⟩ => z3 n ⟨u, (h1 n u l).1⟩, z4⟩
  · cases r2 with
    | cel hc =>
      rename_i a
      refine ⟨a, rfl, ?_, s1.nf n a ⟨t, hn⟩ hc, fun m ⟨u, l⟩ e => ?_, s1.cel n t a hn hc⟩
      · cases q0 : W.ad n with
        | none => exact st1.new n a q0 hc
        | some b =>
          obtain ⟨u, hu⟩ := st1.live n (by rw [q0]; exact fun z => nomatch z) ⟨t, hn⟩
          rw [h0] at hu; cases hu
      · have e2 := s1.inj m n a ⟨u, (h1 m u l).1⟩ ⟨t, hn⟩ e hc
        subst e2
        obtain ⟨v, hv⟩ := (h1 m u l).2
        rw [h0] at hv; cases hv
theorem fn_T {f : Addr} {name qual : Str} {params : Arguments} {body : List Stmt} {scope : Scope} {dV kV doc pm cdv cty oc : Value} {an od : Option Addr} {osl : Array (Option Value)} {ps : List Str} {Rl : Rel} {j : Nat}
    (lk : K.lookup f = some ⟨oc, od, .func (PySem.W.fnOf name qual params body scope dV kV doc pm an cdv cty), osl⟩) (hcd : PySem.W.codeIn K cdv qual = true) (S : FnScope N ps scope) (hcx : ∀ (st : List Env) (H : Hp) (s : Shared) (e : Value) (s' : Shared), CX st H s E0 e s' → False) (len : ∀ ts L r L', Rl ts L r L' → ts.length = ps.length)
    (hbody : ∀ (X : Cx), Ct CX P w K mg base j N scope (fun _ => true) X → PassesOwn (model X.prog X.w) X.A X.env X.xe → ∀ ts L r L', Rl ts L r L' → WS X body (startT N ts) L (fnK L r L')) :
    FnT P w K mg base CX (j + 1) f (PySem.W.fnOf name qual params body scope dV kV doc pm an cdv cty) ps Rl := by
  refine ⟨len, fun A outer s H args us vs Q hr hg e0 hb rv hsp => ?_⟩
  obtain ⟨ts, L, r, L', W, s0, rr, hR, q⟩ := hsp
  have hlen : vs.length = ps.length := rr.length.symm.trans (len ts L r L' hR)
  have kept : ∀ b o, base.get? b = some o → s.heap.get? b = some o := fun b o e => (e0.bs b o e).1
  have Kin : K.In s.heap := e0.mod.kin.keeps kept
  have nolim : s.heap.NoLimit := e0.mod.nolimit.keeps kept
  have kinds : ∀ y ∈ ps.zip us, scope.names.lookup y.1 = some .local ∨ (scope.names.lookup y.1 = some .cell ∧ ((cellsFrom (s.heap.objs.size + 1) scope.names []).lookup y.1).isSome = true) := by
    rintro ⟨n, v⟩ hy
    exact (S.par n (List.of_mem_zip hy).1).imp id fun z => ⟨z, PySem.W.cellsFrom_some _ _ _ (.inl z)⟩
  refine codeAny_call_function hr.depth (Kin _ _ lk) rfl S.co S.gen rfl (PySem.W.codeRec_of Kin hcd) (hb _ _ _ _ ?_)
  refine wpAny_newFunctionEnv_cells S.kind kinds fun env he s1 x => ?_
  subst he
  refine ⟨nolim.keeps x.toInCall.keep, codeAny_func ?_⟩
  have ct : Ct CX P w K mg base j N scope (fun _ => true) (cxOf CX P w K mg base N qual scope f cdv A outer s H E0).nox :=
    ⟨rfl, rfl, rfl, rfl, rfl, rfl, rfl, rfl, hr.deeper _, hg, S.nd, S.kind, rfl, hcx⟩
  have Iv : Inv (cxOf CX P w K mg base N qual scope f cdv A outer s H E0) [] (L2.start N vs) H s1 := inv_start S hr.hd e0 hlen rv x
  have run := hbody _ ct PassesOwn.never ts L r L' hR W H (L2.start N vs) { nx := fun _ H' => Q .non H', rt := Q } s0 (startT_r rr)
    ⟨fun ρ' L1 W1 H1 σ' st1 s1 en1 ex => exit_ok (r1 := .v N0) (y := V.non) q st1 s1 (Rp.v V.non) ex, fun r1 L1 W1 H1 y st1 s1 r2 ex => exit_ok q st1 s1 r2 ex, fun _ _ _ _ _ _ _ _ z => z.elim, fun _ _ _ _ _ _ _ _ z => z.elim⟩
  refine wpAny_mono (run [] s1 (Iv.wish _)) (fun fl s' hs => ?_) fun _ _ z => z.elim
  have back : ∀ {σ' : L2.St} {H' : Hp} {v : V} {u : Value}, Inv (cxOf CX P w K mg base N qual scope f cdv A outer s H E0).nox [] σ' H' s' → RelV v u → Q v H' → CE outer P w H s Q u s' := fun J rv q => ⟨_, _, J.os, J.bare, J.base, J.hok, rv, q⟩
  match fl, hs with
  | .ret u, ⟨v, σ', H', J, rv, q⟩ => exact back J rv q
  | .next, ⟨σ', H', J, q⟩ => exact back (v := V.non) (u := Value.none) J rfl q
  | .brk, ⟨_, _, _, q⟩ => exact q.elim
  | .cont, ⟨_, _, _, q⟩ => exact q.elim
theorem okT {x qual : Str} {st : Stmt} {f : Addr} {fd : FuncData} {ps : List Str} {j : Nat} {Rl : Rel} (F : Fun K x qual st f fd) (S : FnScope N ps (defScope st)) (hcx : ∀ (st : List Env) (H : Hp) (s : Shared) (e : Value) (s' : Shared), CX st H s E0 e s' → False) (len : ∀ ts L r L', Rl ts L r L' → ts.length = ps.length)
    (hbody : ∀ (X : Cx), Ct CX P w K mg base j N (defScope st) (fun _ => true) X → PassesOwn (model X.prog X.w) X.A X.env X.xe → ∀ ts L r L', Rl ts L r L' → WS X (defBody st) (startT N ts) L (fnK L r L')) : FnT P w K mg base CX (j + 1) f fd ps Rl := by
  obtain ⟨oc, od, kV, doc, pm, an, cdv, cty, osl, rfl, lk, hcd⟩ := F.ex
  exact fn_T lk hcd S hcx len hbody
theorem okTD {x qual : Str} {params : Arguments} {body : List Stmt} {scope : Scope} {dvs : List V} {kws : List (Str × V)} {f : Addr} {fd : FuncData} {ps : List Str} {j : Nat} {Rl : Rel} (F : FunD K x qual params body scope dvs kws f fd) (S : FnScope N ps scope) (hcx : ∀ (st : List Env) (H : Hp) (s : Shared) (e : Value) (s' : Shared), CX st H s E0 e s' → False) (len : ∀ ts L r L', Rl ts L r L' → ts.length = ps.length)
    (hbody : ∀ (X : Cx), Ct CX P w K mg base j N scope (fun _ => true) X → PassesOwn (model X.prog X.w) X.A X.env X.xe → ∀ ts L r L', Rl ts L r L' → WS X body (startT N ts) L (fnK L r L')) : FnT P w K mg base CX (j + 1) f fd ps Rl := by
  obtain ⟨oc, od, dV, kV, doc, pm, an, cdv, cty, osl, rfl, lk, hcd, _, _⟩ := F.ex
  exact fn_T lk hcd S hcx len hbody
theorem cx0 (st : List Env) (H : Hp) (s : Shared) (e : Value) (s' : Shared) (h : CX0 st H s E0 e s') : False := h
/-- a def that no exception leaves, for what lets exceptions out -/
theorem FnT.end_ {f : Addr} {fd : FuncData} {ps : List Str} {Rl : Rel} {j : Nat} (F : FnT P w K mg base CX j f fd ps Rl) {A : Around} {outer : List Env} {s : Shared} {H : Hp} {args : Args} {us : List Value} {vs : List V} {Q : VK} (hr : Room j A) (hg : A.guards = some []) (e0 : Env0 P w K mg base A outer s H) (hb : BindsTo s fd args (ps.zip us)) (rv : Vals vs us)
    (h : spT K Rl vs H Q E0) : codeAny (model P w) A (.call (.ref f) args) (CR CX outer P w H s Q E0) s := F.go A outer s H args us vs Q hr hg e0 hb rv h
end
end TL


/-! The tree layer, part F: built-ins. -/
namespace TL
open PySem PySem.Spec PyProof.Rows L2

/-- a built-in's answer z to the trees ts, the store as it was -/
def OpA (K : PySem.W.Frag) (r : List V → Hp → VK → Prop) (ts : List T) (L : Store) (z : R) : Prop :=
  ∀ (W : Wd) (H : Hp) (xs : List V) (Q : VK), SR K W H L → RpL K W H ts xs → (∀ v W' H', Step W L H W' L H' → SR K W' H' L → RR K W' L H H' z v → Q v H') → r xs H Q
section
variable {CX : CXT} {P : Program} {w : World} {K : PySem.W.Frag} {mg : Str → Option Value} {base : Heap} {k : Nat} {N : List Str} {sc : Scope} {fs : Str → Bool} {X : Cx}
variable {e a b c tg iter : Expr} {es : List Expr} {ρ ρ' ρ1 : TEnv} {L L1 Lb Lc : Store} {t u : T} {ts us : List T} {pos p : Pos} {i j : Int} {x : Str} {z : R}

theorem ev_cb {id : String} {r : List V → Hp → VK → Prop} (ct : Ct CX P w K mg base k N sc fs X) (hc : CallR X (.builtin id) r) (hv : bootBuiltins x = some (.builtin id)) (hm : mg x = none) (hg : glOk sc x = true) (ha : EvA X (e :: es) ρ L ts L1) (ho : OpA X.K r ts L1 z)
    (he : starEach (e :: es) X.env = (false, eval e X.env) :: starEach es X.env := by rfl) (hpl : (backTo pos (starEach es X.env)).any (·.1) = false := by rfl) : Ev X (.Call (.Name x p) (e :: es) [] pos) ρ L z L1 := by
  refine ⟨fun W H σ Q s en q => ?_⟩
  refine wp_pe (pe_callB hc (ct.gl hg) (by rw [ct.hmg]; exact hm) hv pa_wp (glOk_of hg).2.2 (glOk_of hg).2.1 he hpl) ?_
  refine ha W H σ _ s en fun xs W1 H1 st1 s1 r1 => ?_
  exact ho W1 H1 xs Q s1 r1 fun v W2 H2 st2 s2 r2 => q v W2 H2 (st1.trans st2) s2 (r2.back st1.dom)
theorem ev_cty {T0 : String} {r : List V → Hp → VK → Prop} (ct : Ct CX P w K mg base k N sc fs X) (hc : CallR X (.type T0) r) (hv : bootBuiltins x = some (.type T0)) (hm : mg x = none) (hg : glOk sc x = true) (ha : EvA X (e :: es) ρ L ts L1) (ho : OpA X.K r ts L1 z)
    (he : starEach (e :: es) X.env = (false, eval e X.env) :: starEach es X.env := by rfl) (hpl : (backTo pos (starEach es X.env)).any (·.1) = false := by rfl) : Ev X (.Call (.Name x p) (e :: es) [] pos) ρ L z L1 := by
  refine ⟨fun W H σ Q s en q => ?_⟩
  refine wp_pe (pe_callTy hc (ct.gl hg) (by rw [ct.hmg]; exact hm) hv pa_wp (glOk_of hg).2.2 (glOk_of hg).2.1 he hpl) ?_
  refine ha W H σ _ s en fun xs W1 H1 st1 s1 r1 => ?_
  exact ho W1 H1 xs Q s1 r1 fun v W2 H2 st2 s2 r2 => q v W2 H2 (st1.trans st2) s2 (r2.back st1.dom)
theorem rp1 {W : Wd} {H : Hp} {xs : List V} (r : RpL K W H [t] xs) : ∃ x, xs = [x] ∧ Rp K W H t x := by
  cases r with
  | cons r rs => cases rs; exact ⟨_, rfl, r⟩
theorem rp2 {W : Wd} {H : Hp} {xs : List V} (r : RpL K W H [t, u] xs) : ∃ x y, xs = [x, y] ∧ Rp K W H t x ∧ Rp K W H u y := by
  cases r with
  | cons r rs =>
    obtain ⟨y, rfl, r2⟩ := rp1 rs
    exact ⟨_, y, rfl, r, r2⟩
/-! len -/
theorem ev_len (ct : Ct CX P w K mg base k N sc fs X) (hm : mg "len" = none) (hg : glOk sc "len" = true) (ha : EvA X [e] ρ L [t] L1) (hl : LstT L1 t ts) (he : starEach [e] X.env = (false, eval e X.env) :: starEach [] X.env := by rfl) (hpl : (backTo pos (starEach [] X.env)).any (·.1) = false := by rfl) : Ev X (.Call (.Name "len" p) [e] [] pos) ρ L (.v (I ts.length)) L1 :=
  ev_cb ct call_len_seq PySem.boot_len hm hg ha (fun W H xs Q s r0 q => by
    obtain ⟨x, rfl, r⟩ := rp1 r0
    obtain ⟨l, vs, rfl, hq, rr⟩ := lst_sq s r hl
    exact ⟨l, vs, rfl, .inl hq, by rw [← rr.length]; exact q _ W H .refl s (Rp.v _)⟩) he hpl
theorem ev_lenT (ct : Ct CX P w K mg base k N sc fs X) (hm : mg "len" = none) (hg : glOk sc "len" = true) (ha : EvA X [e] ρ L [.tup ts] L1) (he : starEach [e] X.env = (false, eval e X.env) :: starEach [] X.env := by rfl) (hpl : (backTo pos (starEach [] X.env)).any (·.1) = false := by rfl) : Ev X (.Call (.Name "len" p) [e] [] pos) ρ L (.v (I ts.length)) L1 :=
  ev_cb ct call_len_seq PySem.boot_len hm hg ha (fun W H xs Q s r0 q => by
    obtain ⟨x, rfl, r⟩ := rp1 r0
    cases r with
    | tup f h rr => exact ⟨_, _, rfl, .inr (.inl (.inl h)), by rw [← rr.length]; exact q _ W H .refl s (Rp.v _)⟩) he hpl
/-! list(..), tuple(..), int(..) -/
theorem ev_listT (ct : Ct CX P w K mg base k N sc fs X) (hm : mg "list" = none) (hg : glOk sc "list" = true) (ha : EvA X [e] ρ L [.tup ts] L1) (he : starEach [e] X.env = (false, eval e X.env) :: starEach [] X.env := by rfl) (hpl : (backTo pos (starEach [] X.env)).any (·.1) = false := by rfl) : Ev X (.Call (.Name "list" p) [e] [] pos) ρ L (.n (.lst ts)) L1 :=
  ev_cty ct call_list_of PyProof.Rows.boot_list hm hg ha (fun W H xs Q s r0 q => by
    obtain ⟨x, rfl, r⟩ := rp1 r0
    cases r with
    | tup f h rr => exact ⟨_, _, rfl, .inr (.inl (.inl h)), fun l hl => q _ W _ (.newp hl) (s.new hl) (new_n (t := .lst ts) s hl ⟨_, upd_same, rr.newp hl⟩)⟩) he hpl
theorem ev_listL (ct : Ct CX P w K mg base k N sc fs X) (hm : mg "list" = none) (hg : glOk sc "list" = true) (ha : EvA X [e] ρ L [t] L1) (hl : LstT L1 t ts) (he : starEach [e] X.env = (false, eval e X.env) :: starEach [] X.env := by rfl) (hpl : (backTo pos (starEach [] X.env)).any (·.1) = false := by rfl) : Ev X (.Call (.Name "list" p) [e] [] pos) ρ L (.n (.lst ts)) L1 :=
  ev_cty ct call_list_of PyProof.Rows.boot_list hm hg ha (fun W H xs Q s r0 q => by
    obtain ⟨x, rfl, r⟩ := rp1 r0
    obtain ⟨l, vs, rfl, hq, rr⟩ := lst_sq s r hl
    exact ⟨_, _, rfl, .inl hq, fun l hl => q _ W _ (.newp hl) (s.new hl) (new_n (t := .lst ts) s hl ⟨_, upd_same, rr.newp hl⟩)⟩) he hpl
theorem ev_tupleL (ct : Ct CX P w K mg base k N sc fs X) (hm : mg "tuple" = none) (hg : glOk sc "tuple" = true) (ha : EvA X [e] ρ L [t] L1) (hl : LstT L1 t ts) (he : starEach [e] X.env = (false, eval e X.env) :: starEach [] X.env := by rfl) (hpl : (backTo pos (starEach [] X.env)).any (·.1) = false := by rfl) : Ev X (.Call (.Name "tuple" p) [e] [] pos) ρ L (.v (.tup ts)) L1 :=
  ev_cty ct call_tuple_of PyProof.Rows.boot_tuple hm hg ha (fun W H xs Q s r0 q => by
    obtain ⟨x, rfl, r⟩ := rp1 r0
    obtain ⟨l, vs, rfl, hq, rr⟩ := lst_sq s r hl
    exact ⟨_, _, rfl, .inl ⟨hq, fun l hl => by
      obtain ⟨f1, f2, f3⟩ := frz_tup s hl rr
      exact q _ _ _ f1 f2 f3⟩⟩) he hpl
theorem ev_intB {y : Bool} (ct : Ct CX P w K mg base k N sc fs X) (hm : mg "int" = none) (hg : glOk sc "int" = true) (ha : EvA X [e] ρ L [B y] L1) (he : starEach [e] X.env = (false, eval e X.env) :: starEach [] X.env := by rfl) (hpl : (backTo pos (starEach [] X.env)).any (·.1) = false := by rfl) : Ev X (.Call (.Name "int" p) [e] [] pos) ρ L (.v (I (if y then 1 else 0))) L1 :=
  ev_cty ct call_int1 PyProof.Rows.boot_int hm hg ha (fun W H xs Q s r0 q => by
    obtain ⟨x, rfl, r⟩ := rp1 r0
    cases r
    exact .inr ⟨y, rfl, q _ W H .refl s (Rp.v _)⟩) he hpl
/-! all, any -/
theorem ev_all {bs : List Bool} (ct : Ct CX P w K mg base k N sc fs X) (hm : mg "all" = none) (hg : glOk sc "all" = true) (ha : EvA X [e] ρ L [t] L1) (hl : LstT L1 t (bs.map B)) (he : starEach [e] X.env = (false, eval e X.env) :: starEach [] X.env := by rfl) (hpl : (backTo pos (starEach [] X.env)).any (·.1) = false := by rfl) : Ev X (.Call (.Name "all" p) [e] [] pos) ρ L (.v (B (bs.all id))) L1 :=
  ev_cb ct (cr_all ct.calm) PyProof.Rows.boot_all hm hg ha (fun W H xs Q s r0 q => by
    obtain ⟨x, rfl, r⟩ := rp1 r0
    obtain ⟨l, vs, rfl, hq, rr⟩ := lst_sq s r hl
    have e := RpL.atoms V.bl rr
    subst e
    exact ⟨l, bs, rfl, hq, q _ W H .refl s (Rp.v _)⟩) he hpl
theorem ev_any {bs : List Bool} (ct : Ct CX P w K mg base k N sc fs X) (hm : mg "any" = none) (hg : glOk sc "any" = true) (ha : EvA X [e] ρ L [t] L1) (hl : LstT L1 t (bs.map B)) (he : starEach [e] X.env = (false, eval e X.env) :: starEach [] X.env := by rfl) (hpl : (backTo pos (starEach [] X.env)).any (·.1) = false := by rfl) : Ev X (.Call (.Name "any" p) [e] [] pos) ρ L (.v (B (bs.any id))) L1 :=
  ev_cb ct (cr_any ct.calm) PyProof.Rows.boot_any hm hg ha (fun W H xs Q s r0 q => by
    obtain ⟨x, rfl, r⟩ := rp1 r0
    obtain ⟨l, vs, rfl, hq, rr⟩ := lst_sq s r hl
    have e := RpL.atoms V.bl rr
    subst e
    exact ⟨l, bs, rfl, hq, q _ W H .refl s (Rp.v _)⟩) he hpl
/-! sorted -/
/-- the one rising order of ints -/
def sortI (ns : List Int) : List Int := ns.mergeSort fun a b => decide (a ≤ b)
theorem sortI_perm (ns : List Int) : (sortI ns).Perm ns := List.mergeSort_perm ns _
theorem sortI_sorted (ns : List Int) : (sortI ns).Pairwise (· ≤ ·) := by
  have h := List.pairwise_mergeSort (le := fun a b : Int => decide (a ≤ b)) (fun a b c h1 h2 => by simp only [decide_eq_true_eq] at *; omega) (fun a b => by simp only [Bool.or_eq_true, decide_eq_true_eq]; omega) ns
  exact h.imp fun h => by simpa using h
theorem sortI_uniq {ns ms : List Int} (h1 : ms.Perm ns) (h2 : ms.Pairwise (· ≤ ·)) : ms = sortI ns :=
  List.Perm.eq_of_pairwise (le := fun a b : Int => a ≤ b) (fun a b _ _ h1 h2 => by omega) h2 (sortI_sorted ns) (h1.trans (sortI_perm ns).symm)
theorem ev_sortI {ns : List Int} (ct : Ct CX P w K mg base k N sc fs X) (hm : mg "sorted" = none) (hg : glOk sc "sorted" = true) (ha : EvA X [e] ρ L [t] L1) (hl : LstT L1 t (ns.map I)) (he : starEach [e] X.env = (false, eval e X.env) :: starEach [] X.env := by rfl) (hpl : (backTo pos (starEach [] X.env)).any (·.1) = false := by rfl) : Ev X (.Call (.Name "sorted" p) [e] [] pos) ρ L (.n (.lst ((sortI ns).map I))) L1 :=
  ev_cb ct cr_sortedI PyProof.Rows.boot_sorted hm hg ha (fun W H xs Q s r0 q => by
    obtain ⟨x, rfl, r⟩ := rp1 r0
    obtain ⟨l, vs, rfl, hq, rr⟩ := lst_sq s r hl
    have e := RpL.atoms V.int rr
    subst e
    refine ⟨l, ns, rfl, hq, fun ms p h1 h2 hp => ?_⟩
    have e := sortI_uniq h1 h2
    subst e
    exact q _ W _ (.newp hp) (s.new hp) (new_n (t := .lst _) s hp ⟨_, upd_same, RpL.of_atoms V.int _⟩)) he hpl
/-- pairs of ints -/
abbrev tPair (q : Int × Int) : T := .tup [I q.1, I q.2]
def leP (a b : Int × Int) : Bool := decide (a.1 < b.1) || (decide (a.1 = b.1) && decide (a.2 ≤ b.2))
def sortP (ps : List (Int × Int)) : List (Int × Int) := ps.mergeSort leP
theorem leP_trans (a b c : Int × Int) (h1 : leP a b = true) (h2 : leP b c = true) : leP a c = true := by
  simp only [leP, Bool.or_eq_true, Bool.and_eq_true, decide_eq_true_eq] at *; omega
theorem leP_total (a b : Int × Int) : (leP a b || leP b a) = true := by
  simp only [leP, Bool.or_eq_true, Bool.and_eq_true, decide_eq_true_eq]; omega
theorem leP_antisymm (a b : Int × Int) (h1 : leP a b = true) (h2 : leP b a = true) : a = b := by
  simp only [leP, Bool.or_eq_true, Bool.and_eq_true, decide_eq_true_eq] at *
  apply Prod.ext <;> omega
theorem sortP_perm (ps : List (Int × Int)) : (sortP ps).Perm ps := List.mergeSort_perm ps _
theorem sortP_sorted (ps : List (Int × Int)) : (sortP ps).Pairwise fun a b => leP a b = true := List.pairwise_mergeSort leP_trans leP_total ps
theorem sortP_uniq {ps qs : List (Int × Int)} (h1 : qs.Perm ps) (h2 : qs.Pairwise fun a b => leP a b = true) : qs = sortP ps :=
  List.Perm.eq_of_pairwise (le := fun a b => leP a b = true) (fun a b _ _ h1 h2 => leP_antisymm a b h1 h2) h2 (sortP_sorted ps) (h1.trans (sortP_perm ps).symm)
theorem pairs_k {W : Wd} {H : Hp} : ∀ {ps : List (Int × Int)} {vs : List V}, RpL K W H (ps.map tPair) vs → ∃ kf : V → Int × Int, (∀ x ∈ vs, ∃ t, x = V.ref t ∧ W.F t ∧ H t = some (.tup [.int (kf x).1, .int (kf x).2])) ∧ vs.map kf = ps := by
  intro ps vs r
  refine ⟨fun x => match x with | .ref a => (match H a with | some (.tup [.int i, .int j]) => (i, j) | _ => (0, 0)) | _ => (0, 0), ?_⟩
  induction ps generalizing vs with
  | nil => cases r; exact ⟨fun x h => by simp at h, rfl⟩
  | cons q ps ih =>
    cases r with
    | cons r rs =>
      obtain ⟨h1, h2⟩ := ih rs
      cases r with
      | tup f h r =>
        obtain ⟨x, y, rfl, r1, r2⟩ := rp2 r
        cases r1; cases r2
        refine ⟨fun x hx => ?_, ?_⟩
        · rcases List.mem_cons.mp hx with rfl | hx
          · exact ⟨_, rfl, f, by simp only [h]⟩
          · exact h1 x hx
        · rw [List.map_cons, h2]
          simp only [h]
theorem ev_sortP {ps : List (Int × Int)} (ct : Ct CX P w K mg base k N sc fs X) (hm : mg "sorted" = none) (hg : glOk sc "sorted" = true) (ha : EvA X [e] ρ L [t] L1) (hl : LstT L1 t (ps.map tPair)) (he : starEach [e] X.env = (false, eval e X.env) :: starEach [] X.env := by rfl) (hpl : (backTo pos (starEach [] X.env)).any (·.1) = false := by rfl) : Ev X (.Call (.Name "sorted" p) [e] [] pos) ρ L (.n (.lst ((sortP ps).map tPair))) L1 :=
  ev_cb ct cr_sortedPO PyProof.Rows.boot_sorted hm hg ha (fun W H xs Q s r0 q => by
    obtain ⟨x, rfl, r⟩ := rp1 r0
    obtain ⟨l, vs, rfl, hq, rr⟩ := lst_sq s r hl
    obtain ⟨kf, h1, h2⟩ := pairs_k rr
    refine ⟨l, vs, kf, rfl, hq, fun x hx => let ⟨t, e1, _, e2⟩ := h1 x hx; ⟨t, e1, e2⟩, fun ys p g1 g2 hp => ?_⟩
    have hsorted : (ys.map kf).Pairwise fun a b => leP a b = true := by
      rw [List.pairwise_map]
      refine g1.imp fun {x y} h => ?_
      have h' : SrtO.lexB (kf y) (kf x) = false := h
      have := SrtO.lexB_no.mp h'
      simp only [leP, Bool.or_eq_true, Bool.and_eq_true, decide_eq_true_eq]
      omega
    have hperm : (ys.map kf).Perm ps := by rw [← h2]; exact g2.perm.map kf
    have e := sortP_uniq hperm hsorted
    have hrp : ∀ l : List V, (∀ x ∈ l, ∃ t, x = V.ref t ∧ W.F t ∧ H t = some (.tup [.int (kf x).1, .int (kf x).2])) → RpL X.K W H ((l.map kf).map tPair) l := by
      intro l
      induction l with
      | nil => intro _; exact .nil
      | cons x l ih =>
        intro h
        obtain ⟨t, e1, f, e2⟩ := h x List.mem_cons_self
        refine .cons ?_ (ih fun y hy => h y (List.mem_cons_of_mem _ hy))
        rw [e1] at e2 ⊢
        exact .tup f e2 (.cons (.v _) (.cons (.v _) .nil))
    have r3 := hrp ys fun x hx => h1 x (g2.perm.mem_iff.mp hx)
    rw [e] at r3
    exact q _ W _ (.newp hp) (s.new hp) (new_n (t := .lst _) s hp ⟨_, upd_same, r3.newp hp⟩)) he hpl
/-! isinstance -/
def tyN : T → Option String
  | .v .non => some "NoneType"
  | .v (.bl _) => some "bool"
  | .v (.int _) => some "int"
  | .v (.str _) => some "str"
  | .lst _ => some "list"
  | .tup _ => some "tuple"
  | _ => none
theorem tyX_of {W : Wd} {H : Hp} {v : V} {n : String} (r : Rp K W H t v) (h : tyN t = some n) : TyX K H v (.type n) := by
  cases r with
  | v _ =>
    cases v <;> simp [tyN] at h <;> subst h
    · exact .base .non
    · exact .base (.bl _)
    · exact .base (.int _)
    · exact .base (.str _)
  | lst f e r => simp [tyN] at h; subst h; exact .base (.lst e)
  | tup f e r => simp [tyN] at h; subst h; exact .base (.tup e)
  | cel _ => simp [tyN] at h
  | scr _ _ => simp [tyN] at h
  | dK _ _ _ _ => simp [tyN] at h
  | dT _ _ _ _ => simp [tyN] at h
  | set _ _ => simp [tyN] at h
  | ins _ _ _ _ => simp [tyN] at h
/-- is the thing of the built-in class n? -/
def isA (n : String) (t : T) : Bool := match tyN t with
  | some m => (kitB m n).getD false
  | none => false
theorem ev_isi {n : String} (ct : Ct CX P w K mg base k N sc fs X) (hm : mg "isinstance" = none) (hg : glOk sc "isinstance" = true) (ha : EvA X [a, b] ρ L [t, .v (.ty n)] L1) (h1 : (tyN t).isSome = true) (h2 : ∀ m, tyN t = some m → (kitB m n).isSome = true)
    (he : starEach [a, b] X.env = (false, eval a X.env) :: starEach [b] X.env := by rfl) (hpl : (backTo pos (starEach [b] X.env)).any (·.1) = false := by rfl) : Ev X (.Call (.Name "isinstance" p) [a, b] [] pos) ρ L (.v (B (isA n t))) L1 :=
  ev_cb ct call_isi PyProof.Rows.boot_isinstance hm hg ha (fun W H xs Q s r0 q => by
    obtain ⟨x, y, rfl, r1, r2⟩ := rp2 r0
    cases r2
    obtain ⟨m, hm⟩ := Option.isSome_iff_exists.mp h1
    obtain ⟨z, hz⟩ := Option.isSome_iff_exists.mp (h2 m hm)
    have e : isA n t = z := by unfold isA; rw [hm]; simp [hz]
    refine ⟨x, .ty n, .type m, .type n, z, rfl, .ty n, tyX_of r1 hm, kit_ty hz, ?_⟩
    rw [← e]
    exact q _ W H .refl s (Rp.v _)) he hpl
/-! repr -/
theorem ev_repr {d : PyData} (ct : Ct CX P w K mg base k N sc fs X) (hm : mg "repr" = none) (hg : glOk sc "repr" = true) (ha : EvA X [e] ρ L [t] L1) (hd : pd t = some d) (hs : d.showable = true) (hnd : d.hasDict = false) (hdep : d.depth ≤ 60) (hsz : d.shown.length ≤ sizeLine)
    (hr : isDisplay d = true)
    (he : starEach [e] X.env = (false, eval e X.env) :: starEach [] X.env := by rfl) (hpl : (backTo pos (starEach [] X.env)).any (·.1) = false := by rfl) : Ev X (.Call (.Name "repr" p) [e] [] pos) ρ L (.v (S d.shown)) L1 := by
  refine ev_cb (r := fun vs H Q => ∃ v, vs = [v] ∧ Dp X.K H v d ∧ Q (.str d.shown) H) ct ?_ PyProof.Rows.boot_repr hm hg ha ?_ he hpl
  · intro pins s σ H xs us Q I r h
    obtain ⟨v, rfl, hv, q⟩ := h
    obtain ⟨u, rfl, ru⟩ := vals1 r
    obtain ⟨as, rd⟩ := Dp.reads I d v u hv ru
    obtain ⟨ad, rfl⟩ := isRef_of_reads rd hr
    refine repr_of_reads' rd hs (fun z => by rw [hnd] at z; cases z) ct.gd (by have := ct.room.un; omega) (fun _ _ h => h) (fun h' u tk hk => ?_) hsz
    exact ⟨.str d.shown, H, (I.kept (t' := tk) hk), ⟨u, rfl⟩, q⟩
  · intro W H xs Q s r0 q
    obtain ⟨x, rfl, r⟩ := rp1 r0
    exact ⟨x, rfl, dp_of t x d r hd, q _ W H .refl s (Rp.v _)⟩
/-! the end of a row -/
/-- the law's promise, as a relation: of any script it gives True -/
def lawRel : Rel := fun ts L r L' => ∃ ns : List Int, ts = [.scr (ns.map I)] ∧ ns.length ≤ 63 ∧ r = .v (B true) ∧ L' = L
theorem law_T {mb : Str → Option Value} {fa l : Addr} {fd : FuncData} {y : Str} {j : Nat} {s1 : Shared} {us : List Value} {ns : List Int} (KX : K.In s1.heap) (hns : s1.heap.Ns mainGlobals mg) (hb : s1.heap.Ns builtinsNs mb) (hbb : ∀ x : Str, x ≠ "__name__" → mb x = bootBuiltins x) (hlim : s1.heap.NoLimit) (hgen : s1.gens = #[])
    (hl : s1.heap.get? l = some { cls := .type "list", data := .seq us.toArray }) (hi : IntsAre us ns) (h63 : ns.length ≤ 63) (hr : Room j callerA) (hcx : ∀ (st : List Env) (H : Hp) (s : Shared) (e : Value) (s' : Shared), CX st H s E0 e s' → False)
    (F : ∀ base : Heap, K.In base → base.Ns mainGlobals mg → FnT P w K mg base CX j fa fd [y] lawRel) (hbind : ∀ (s : Shared) (u : Value), BindsTo s fd ⟨[u], []⟩ [(y, u)]) :
    codeAny (model P w) callerA (.call (.ref fa) ⟨[.ref l], []⟩) (fun r s' => r = .ok (.ret (.bool true)) ∧ OldK s1.heap s'.heap ∧ s'.os = s1.os ∧ AllBare s'.gens) s1 := by
  have rv := vals_ints hi
  have lenV := hi.length
  have hsl : ns.length ≤ sizeLine := Nat.le_trans h63 (by decide)
  suffices go : ∀ H : Hp, (∀ b, H b = none ∨ (b = l ∧ ∃ o xs, H b = some (.frz o (.lst xs)))) → HOk P w H s1.heap → (H l ≠ none → K.lookup l = none) → (∃ W : Wd, SR K W H (fun _ => none) ∧ Rp K W H (.scr (ns.map I)) (.ref l)) →
      codeAny (model P w) callerA (.call (.ref fa) ⟨[.ref l], []⟩) (fun r s' => r = .ok (.ret (.bool true)) ∧ OldK s1.heap s'.heap ∧ s'.os = s1.os ∧ AllBare s'.gens) s1 by
    cases hk : K.lookup l with
    | some o =>
      have e := KX l o hk
      rw [hl] at e
      cases e
      refine go (fun _ => none) (fun _ => .inl rfl) (fun b u z => by cases z) (fun z => absurd rfl z) ⟨⟨fun _ => False, fun _ => none⟩, ⟨⟨0, fun _ _ => rfl⟩, fun n ⟨t, z⟩ => (nomatch z), fun _ z => z.elim, fun n a ⟨t, z⟩ => (nomatch z), fun n m a ⟨t, z⟩ => (nomatch z), fun n t a z => (nomatch z)⟩, ?_⟩
      exact .scr (.inr ⟨_, us.toArray, _, hk, rfl, rfl, rfl, by rw [List.size_toArray, lenV]; exact hsl, by simpa using rv⟩) (RpL.of_atoms V.int ns)
    | none =>
      have hh : ∀ b u, (fun b => if b = l then some (HO.frz { cls := .type "list", data := .seq us.toArray } (.lst (ns.map V.int))) else none) b = some u → b = l ∧ u = .frz { cls := .type "list", data := .seq us.toArray } (.lst (ns.map V.int)) := fun b u z => by
        by_cases hb : b = l
        · simp only [hb, if_true] at z; cases z; exact ⟨hb, rfl⟩
        · simp only [hb, if_false] at z; cases z
      refine go (fun b => if b = l then some (.frz { cls := .type "list", data := .seq us.toArray } (.lst (ns.map V.int))) else none) (fun b => ?_) (fun b u z => ?_) (fun _ => hk)
        ⟨⟨fun a => a = l, fun _ => none⟩, ⟨⟨0, fun _ _ => rfl⟩, fun n ⟨t, z⟩ => (nomatch z), fun a z => by (have z1 : a = l := z; simp [z1]), fun n a ⟨t, z⟩ => (nomatch z), fun n m a ⟨t, z⟩ => (nomatch z), fun n t a z => (nomatch z)⟩, ?_⟩
      · by_cases hb : b = l
        · exact .inr ⟨hb, _, _, if_pos hb⟩
        · exact .inl (if_neg hb)
      · obtain ⟨rfl, rfl⟩ := hh b u z
        exact ⟨hl, by rw [List.length_map]; exact hsl, us, _, rv, hl⟩
      · exact .scr (.inl ⟨rfl, _, if_pos rfl⟩) (RpL.of_atoms V.int ns)
  intro H hO hok hK ⟨W, s0, rp⟩
  have noD : ∀ {b : Addr} {o : Obj} {es : Array DictEntry} {ep : Nat}, s1.heap.get? b = some o → o.data = .dict es ep → H b = none := fun {b o es ep} e d => by
    rcases hO b with z | ⟨rfl, _⟩
    · exact z
    · rw [hl] at e; cases e
      cases d
  have nsK : ∀ {b : Addr} {m : Str → Option Value}, s1.heap.Ns b m → (hidT s1.heap H).Ns b m := fun ⟨o, es, ep, e, d, r⟩ => ⟨o, es, ep, hidT_get e (noD e d), d, r⟩
  have hKb : K.In (hidT s1.heap H) := fun b o e => hidT_get (KX b o e) (by
    rcases hO b with z | ⟨rfl, o', xs, z⟩
    · exact z
    · rw [hK (by rw [z]; exact fun z => nomatch z)] at e; cases e)
  have hM : Mod K mg (hidT s1.heap H) := ⟨hKb, nsK hns, ⟨mb, nsK hb, hbb⟩, let ⟨mc, h1, h2⟩ := hlim; ⟨mc, nsK h1, h2⟩⟩
  have env0 : Env0 P w K mg (hidT s1.heap H) callerA [] s1 H := ⟨rfl, hM, fun b o e => of_hidT e, Nat.le_of_eq (hidT_size _ _), trivial, fun b hb => (nomatch (show b ∈ ([] : List Addr) from hb)), hok, .of_eq hgen⟩
  have sp : spT K lawRel [.ref l] H (fun v _ => v = .bl true) E0 := ⟨[.scr (ns.map I)], fun _ => none, .v (B true), fun _ => none, W, s0, .cons rp .nil, ⟨ns, rfl, h63, rfl, rfl⟩, fun x W' H' _ _ r => by cases r; rfl⟩
  refine codeAny_mono ((F _ hKb (nsK hns)).go callerA [] s1 H ⟨[.ref l], []⟩ [.ref l] [.ref l] _ hr rfl env0 (hbind s1 (.ref l)) (.cons rfl .nil) sp) fun out s' q => ?_
  match out, q with
  | .error e, q => exact (hcx [] H s1 e s' q).elim
  | .ok (.ret u), ⟨v, H', os, bare, un, hok', rv', q⟩ =>
    have q' : v = .bl true := q
    subst q'
    obtain rfl : u = Value.bool true := rv'
    refine ⟨rfl, OldK.of_keep fun b o e => ?_, os, bare⟩
    rcases hO b with z | ⟨rfl, ob, xs, z⟩
    · exact un.keep b o e z (fun z => nomatch (show b ∈ ([] : List Addr) from z)) (fun z => nomatch z)
    · obtain ⟨e1, _⟩ := hok b _ z
      obtain ⟨e2, _⟩ := hok' b _ (un.frzs b ob _ z)
      rw [e] at e1; cases e1
      exact e2
/-- the goal that the head leaves -/
theorem walk_T {l : PySem.W.OpenLaw} {j : Nat} {q : Program} {loose : List Str} {XP : (Str → Option Value) → Heap → Prop} {YP : World → Heap → Prop} {d : DefRec} {K : Params → PySem.W.Frag} {CX : World → CXT} {y : Str} (hn : l.most = some 63) (hdf : d.params.defaults = []) (hr : Room j callerA)
    (hcx : ∀ (w : World) (st : List Env) (H : Hp) (s : Shared) (e : Value) (s' : Shared), CX w st H s E0 e s' → False) (hY : ∀ (w : World) (h : Heap), YP w h → (K w.params).In h)
    (F : ∀ (w : World) (mg : Str → Option Value) (fa : Addr) (h : Heap), (K w.params).In h → h.Ns mainGlobals mg → mg d.name = some (.ref fa) → ∃ fd : FuncData, (∀ (s : Shared) (u : Value), BindsTo s fd ⟨[u], []⟩ [(y, u)]) ∧
      ∀ base : Heap, (K w.params).In base → base.Ns mainGlobals mg → FnT l.prog w (K w.params) mg base (CX w) j fa fd [y] lawRel) : PySem.W.WalkO q loose XP YP l.row.toRowW d [] (fun f vs => PySem.call f vs) := by
  refine Att.attach_call hn hdf fun w s₀ s1 mg mb fa o pm cd doc a vs ns G Y ho hd hcd hmg hobj hints hlen hg => ?_
  have KX := hY w _ Y
  obtain ⟨fd, hb, hF⟩ := F w mg fa _ KX G.T.g hmg
  exact law_T KX G.T.g G.T.b G.T.builtins G.T.nolimit hg hobj hints hlen hr (hcx w) hF hb
end
end TL


/-! The tree layer, part G: short forms for printed proofs. -/
namespace TL
open PySem PySem.Spec PyProof.Rows L2

section
variable {CX : CXT} {P : Program} {w : World} {K : PySem.W.Frag} {mg : Str → Option Value} {base : Heap} {k : Nat} {N : List Str} {sc : Scope} {fs : Str → Bool} {X : Cx}
variable {e a b c tg iter elt : Expr} {es ifs : List Expr} {ρ ρ' ρ1 : TEnv} {L L1 Lb Lc : Store} {t u : T} {ts us : List T} {pos p : Pos} {i j : Int} {x : Str} {z : R}

theorem FnT.mono {f : Addr} {fd : FuncData} {ps : List Str} {Rl : Rel} {j j' : Nat} (F : FnT P w K mg base CX j f fd ps Rl) (h : j ≤ j') : FnT P w K mg base CX j' f fd ps Rl := ⟨F.len, fun A o s H args us vs Q hr => F.go A o s H args us vs Q (hr.mono h)⟩
theorem FnT.imp {f : Addr} {fd : FuncData} {ps : List Str} {Rl Rl' : Rel} {j : Nat} (F : FnT P w K mg base CX j f fd ps Rl) (h : ∀ ts L r L', Rl' ts L r L' → Rl ts L r L') : FnT P w K mg base CX j f fd ps Rl' :=
  ⟨fun ts L r L' q => F.len ts L r L' (h _ _ _ _ q), fun A o s H args us vs Q hr hg e0 hb rv ⟨ts, L, r, L', W, s0, rr, hR, q⟩ => F.go A o s H args us vs Q hr hg e0 hb rv ⟨ts, L, r, L', W, s0, rr, h _ _ _ _ hR, q⟩⟩
/-- a def of the module that keeps Rl, all parameters given by place -/
structure DefT (CX : CXT) (P : Program) (w : World) (K : PySem.W.Frag) (mg : Str → Option Value) (base : Heap) (j : Nat) (x : Str) (ps : List Str) (Rl : Rel) : Prop where
  ex : ∃ f fd, FnT P w K mg base CX j f fd ps Rl ∧ mg x = some (.ref f) ∧ PySem.W.keepIn K (.ref f) = true ∧ Binds K fd ps []
/-- a method -/
structure MetT (CX : CXT) (P : Program) (w : World) (K : PySem.W.Frag) (mg : Str → Option Value) (base : Heap) (j : Nat) (C : Addr) (m : Str) (ps : List Str) (Rl : Rel) : Prop where
  ex : ∃ f fd, FnT P w K mg base CX j f fd ps Rl ∧ Meth K C m f ∧ Binds K fd ps []
theorem ec {ps : List Str} {Rl : Rel} {j : Nat} {r : R} (ct : Ct CX P w K mg base k N sc fs X) (D : DefT CX P w K mg base j x ps Rl) (ha : EvA X (e :: es) ρ L ts L1) (h : Rl ts L1 r Lb) (hj : j ≤ k := by decide) (hg : glOk sc x = true := by decide +kernel)
    (he : starEach (e :: es) X.env = (false, eval e X.env) :: starEach es X.env := by first | with_reducible exact se1 | with_reducible exact se2 | with_reducible exact se3 | with_reducible exact se4 | with_reducible exact se5 | with_reducible exact se6 | with_reducible exact se7 | with_reducible exact se8 | with_reducible exact se9 | rfl) (hpl : (backTo pos (starEach es X.env)).any (·.1) = false := by rfl) : Ev X (.Call (.Name x p) (e :: es) [] pos) ρ L r Lb := by
  obtain ⟨f, fd, F, hm, hk, hb⟩ := D.ex
  exact ev_call (ds := []) (dvs := []) ct F hj hm hk hb .nil hg ha (by rw [List.map_nil, List.append_nil]; exact h) he hpl
theorem em {o : Expr} {m : Str} {apos : Pos} {C : Addr} {ps : List Str} {Rl : Rel} {j : Nat} {r : R} {ns : List Str} {pl : Sem Bool} (ct : Ct CX P w K mg base k N sc fs X) (cl : Cls K C) (D : MetT CX P w K mg base j C m ps Rl)
    (ho : Ev X o ρ L (.v t) L1) (hi : InsT L1 t C ns us) (hn : (ns.zip us).lookup m = none) (ha : EvA X (e :: es) ρ L1 ts Lb) (h : Rl (t :: ts) Lb r Lc) (hj : j ≤ k := by decide)
    (hst : starEach (e :: es) X.env = (false, eval e X.env) :: starEach es X.env := by first | with_reducible exact se1 | with_reducible exact se2 | with_reducible exact se3 | with_reducible exact se4 | with_reducible exact se5 | with_reducible exact se6 | with_reducible exact se7 | with_reducible exact se8 | with_reducible exact se9 | rfl) (hpl : (backTo pos (starEach es X.env)).any (·.1) = false := by rfl)
    (ht : eval (.Call (.Attribute o m apos) (e :: es) [] pos) X.env = (do
      let ov ← eval o X.env
      standAt apos.atName
      let (f, first) ← holding [ov] (getMethod ov m pl)
      callWith pos f first (backTo pos (starEach (e :: es) X.env)) (backToKw pos (keywordEach [] X.env))) := by rfl) : Ev X (.Call (.Attribute o m apos) (e :: es) [] pos) ρ L r Lc := by
  obtain ⟨f, fd, F, hm, hb⟩ := D.ex
  exact ev_meth (pl := pl) ct cl hm F hj hb ho hi hn ha h hst hpl ht
theorem em0 {o : Expr} {m : Str} {apos : Pos} {C : Addr} {ps : List Str} {Rl : Rel} {j : Nat} {r : R} {ns : List Str} {pl : Sem Bool} (ct : Ct CX P w K mg base k N sc fs X) (cl : Cls K C) (D : MetT CX P w K mg base j C m ps Rl)
    (ho : Ev X o ρ L (.v t) L1) (hi : InsT L1 t C ns us) (hn : (ns.zip us).lookup m = none) (h : Rl [t] L1 r Lb) (hj : j ≤ k := by decide)
    (ht : eval (.Call (.Attribute o m apos) [] [] pos) X.env = (do
      let ov ← eval o X.env
      standAt apos.atName
      let (f, first) ← holding [ov] (getMethod ov m pl)
      callWith pos f first (backTo pos (starEach [] X.env)) (backToKw pos (keywordEach [] X.env))) := by rfl) : Ev X (.Call (.Attribute o m apos) [] [] pos) ρ L r Lb := by
  obtain ⟨f, fd, F, hm, hb⟩ := D.ex
  exact ev_meth0 (pl := pl) ct cl hm F hj hb ho hi hn h ht

/-! comprehensions that leave the store as it is -/
theorem made_map {α : Type} (xs : List α) (f : α → T) (pf : α → Bool) (gf : α → T) (d : α → Prop) : made (fun i => match xs[i]? with | some x => pf x | none => false) (fun i => match xs[i]? with | some x => gf x | none => N0) xs.length = (xs.filter pf).map gf := by
  have h : ∀ n, n ≤ xs.length → made (fun i => match xs[i]? with | some x => pf x | none => false) (fun i => match xs[i]? with | some x => gf x | none => N0) n = ((xs.take n).filter pf).map gf := by
    intro n
    induction n with
    | zero => intro _; simp [made]
    | succ n ih =>
      intro hn
      have hx : xs[n]? = some xs[n] := List.getElem?_eq_getElem (by omega)
      have e : xs.take (n + 1) = xs.take n ++ [xs[n]] := by rw [List.take_add_one, hx]; rfl
      rw [e, List.filter_append, List.map_append, ← ih (by omega)]
      cases hp : pf xs[n] with
      | true => rw [made_yes (by simp only [hx]; exact hp)]; simp [hp, hx]
      | false => rw [made_no (by simp only [hx]; exact hp)]; simp [hp]
  have := h xs.length (Nat.le_refl _)
  rw [List.take_length] at this
  exact this
/-- the blocks of a comprehension, for a proof -/
abbrev Bk (CX : CXT) (P : Program) (w : World) (K : PySem.W.Frag) (mg : Str → Option Value) (base : Heap) (k : Nat) (N : List Str) (sc scope : Scope) (Y : Cx) : Prop := Ct CX P w K mg base k N (relS scope sc) (fun x => scope.names.lookup x == some .cell) Y
theorem lcP {scope : Scope} {vs js : List Nat} {α : Type} {xs : List α} {f : α → T} {pf : α → Bool} {gf : α → T} {ρf : α → TEnv} (ct : Ct CX P w K mg base k N sc fs X) (hk : scope.kind = .function) (hz : xs.length ≤ 100000) (hjs : ∀ j ∈ js, j ∈ vs)
    (ht : ∀ x ∈ xs, ∀ Y, Bk CX P w K mg base k N sc scope Y → TgT Y tg js (f x) (wipeT ρ vs) (ρf x) L) (hc : ∀ x ∈ xs, ∀ Y, Bk CX P w K mg base k N sc scope Y → EvC Y ifs (ρf x) L (pf x) L)
    (he : ∀ x ∈ xs, pf x = true → ∀ Y, Bk CX P w K mg base k N sc scope Y → Ev Y elt (ρf x) L (.v (gf x)) L) :
    LcT X tg elt ifs scope vs ρ (xs.map f) (fun _ => L) (fun i => match xs[i]? with | some x => pf x | none => false) (fun i => match xs[i]? with | some x => gf x | none => N0) where
  sz := by rw [List.length_map]; exact hz
  turn := fun i y hy => by
    rw [List.getElem?_map] at hy
    cases q : xs[i]? with
    | none => rw [q] at hy; cases hy
    | some x =>
      rw [q] at hy; cases hy
      have hx : x ∈ xs := List.mem_of_getElem? q
      refine ⟨js, ρf x, L, hjs, fun s H C cl fp => ht x hx _ (ct.blk hk s H C cl fp), fun s H C cl fp => hc x hx _ (ct.blk hk s H C cl fp), fun hp s H C cl fp => ?_, fun _ => rfl⟩
      exact he x hx hp _ (ct.blk hk s H C cl fp)
/-- [elt for tg in iter if ..], over the items f x of xs -/
theorem elc {scope : Scope} {own : List (Str × Nat)} {js : List Nat} {α : Type} {xs : List α} {f : α → T} {pf : α → Bool} {gf : α → T} {ρf : α → TEnv} (ct : Ct CX P w K mg base k N sc fs X) (ok : blkC N sc scope own = true) (hi : EvI X tg iter ρ L (xs.map f) L1) (hz : xs.length ≤ 100000)
    (ht : ∀ x ∈ xs, ∀ Y, Bk CX P w K mg base k N sc scope Y → TgT Y tg js (f x) (wipeT ρ (own.map (·.2))) (ρf x) L1) (hc : ∀ x ∈ xs, ∀ Y, Bk CX P w K mg base k N sc scope Y → EvC Y ifs (ρf x) L1 (pf x) L1)
    (he : ∀ x ∈ xs, pf x = true → ∀ Y, Bk CX P w K mg base k N sc scope Y → Ev Y elt (ρf x) L1 (.v (gf x)) L1) (hk : scope.kind = .function := by rfl) (hjs : ∀ j ∈ js, j ∈ own.map (·.2) := by decide) (hs : ∀ x, foldedSetIterable iter X.env x = pure x := by intro _; rfl) :
    Ev X (.ListComp elt [⟨tg, iter, ifs, 0⟩] scope pos) ρ L (.n (.lst ((xs.filter pf).map gf))) L1 := by
  have h := ev_lc (pos := pos) ct ok hi (lcP (f := f) (pf := pf) (gf := gf) ct hk hz hjs ht hc he) hs
  rw [List.length_map, made_map xs f pf gf (fun _ => True)] at h
  exact h
/-- without a test -/
theorem elc0 {scope : Scope} {own : List (Str × Nat)} {js : List Nat} {α : Type} {xs : List α} {f : α → T} {gf : α → T} {ρf : α → TEnv} (ct : Ct CX P w K mg base k N sc fs X) (ok : blkC N sc scope own = true) (hi : EvI X tg iter ρ L (xs.map f) L1) (hz : xs.length ≤ 100000)
    (ht : ∀ x ∈ xs, ∀ Y, Bk CX P w K mg base k N sc scope Y → TgT Y tg js (f x) (wipeT ρ (own.map (·.2))) (ρf x) L1)
    (he : ∀ x ∈ xs, ∀ Y, Bk CX P w K mg base k N sc scope Y → Ev Y elt (ρf x) L1 (.v (gf x)) L1) (hk : scope.kind = .function := by rfl) (hjs : ∀ j ∈ js, j ∈ own.map (·.2) := by decide) (hs : ∀ x, foldedSetIterable iter X.env x = pure x := by intro _; rfl) :
    Ev X (.ListComp elt [⟨tg, iter, [], 0⟩] scope pos) ρ L (.n (.lst (xs.map gf))) L1 := by
  have h := elc (pos := pos) (pf := fun _ => true) ct ok hi hz ht (fun _ _ _ _ => ec_nil) (fun x hx _ => he x hx) hk hjs hs
  rw [List.filter_eq_self.mpr (fun _ _ => rfl)] at h
  exact h
/-- name = [..] on one line -/
theorem wlc {scope : Scope} {own : List (Str × Nat)} {js : List Nat} {α : Type} {xs : List α} {f : α → T} {pf : α → Bool} {gf : α → T} {ρf : α → TEnv} {p1 p' : Pos} {rest : List Stmt} {kk : TK} (ct : Ct CX P w K mg base k N sc fs X) (n : Nat) (hx : locOk N sc fs n x = true) (hxl : sc.names.lookup x = some .local)
    (ok : blkC N sc scope own = true) (hi : EvI X tg iter ρ L (xs.map f) L1) (hz : xs.length ≤ 100000)
    (ht : ∀ x ∈ xs, ∀ Y, Bk CX P w K mg base k N sc scope Y → TgT Y tg js (f x) (wipeT ρ (own.map (·.2))) (ρf x) L1) (hc : ∀ x ∈ xs, ∀ Y, Bk CX P w K mg base k N sc scope Y → EvC Y ifs (ρf x) L1 (pf x) L1)
    (he : ∀ x ∈ xs, pf x = true → ∀ Y, Bk CX P w K mg base k N sc scope Y → Ev Y elt (ρf x) L1 (.v (gf x)) L1) (h : WS X rest (ρ.set n (some (.lst ((xs.filter pf).map gf)))) L1 kk) (hk : scope.kind = .function := by rfl) (hjs : ∀ j ∈ js, j ∈ own.map (·.2) := by decide)
    (hsw : (p'.line == p1.line) = true := by rfl) (ha : (scope.names.any fun (n, k) => n == x && (k == .local || k == .cell)) = false := by decide +kernel) (hs : ∀ x, foldedSetIterable iter X.env x = pure x := by intro _; rfl) : WS X (.Assign [.Name x p'] (.ListComp elt [⟨tg, iter, ifs, 0⟩] scope p1) pos :: rest) ρ L kk := by
  refine ws_setLc ct n hx hxl ok hi (lcP (f := f) (pf := pf) (gf := gf) ct hk hz hjs ht hc he) ?_ hsw ha hs
  rw [List.length_map, made_map xs f pf gf (fun _ => True)]
  exact h
/-! enumerate and zip over mapped lists -/
def enumL {α : Type} (xs : List α) : List (Int × α) := (List.range xs.length).filterMap fun (i : Nat) => xs[i]?.map fun x => ((i : Int), x)
theorem enumL_map {α : Type} (f : α → T) (xs : List α) : enumT (xs.map f) = (enumL xs).map fun q => .tup [I q.1, f q.2] := by
  unfold enumT enumL
  rw [List.length_map, List.map_filterMap]
  have : ∀ l : List Nat, (∀ i ∈ l, i < xs.length) → l.map (fun (i : Nat) => T.tup [I i, (xs.map f).getD i N0]) = l.filterMap (fun (i : Nat) => (xs[i]?.map fun x => ((i : Int), x)).map fun q => T.tup [I q.1, f q.2]) := by
    intro l
    induction l with
    | nil => intro _; rfl
    | cons i l ih =>
      intro h
      have hi := h i List.mem_cons_self
      rw [List.map_cons, List.filterMap_cons, ih fun j hj => h j (List.mem_cons_of_mem _ hj)]
      simp [List.getElem?_eq_getElem hi]
  exact this _ fun i hi => List.mem_range.mp hi
theorem mem_enumL {α : Type} {xs : List α} {q : Int × α} (h : q ∈ enumL xs) : ∃ n : Nat, q.1 = (n : Int) ∧ xs[n]? = some q.2 := by
  unfold enumL at h
  obtain ⟨i, _, h2⟩ := List.mem_filterMap.mp h
  cases e : xs[i]? with
  | none => rw [e] at h2; cases h2
  | some x => rw [e] at h2; cases h2; exact ⟨i, rfl, e⟩
theorem ei_enumP {elts : List Expr} {kk : Nat} {tpos : Pos} {α : Type} {f : α → T} {xs : List α} (ct : Ct CX P w K mg base k N sc fs X) (hm : mg "enumerate" = none) (hg : glOk sc "enumerate" = true) (h : EvA X [a] ρ L [.lst (xs.map f)] L1) (hs : starEach [a] X.env = [(false, eval a X.env)] := by rfl) :
    EvI X (.Tuple elts kk tpos) (.Call (.Name "enumerate" p) [a] [] pos) ρ L ((enumL xs).map fun q => .tup [I q.1, f q.2]) L1 := by
  rw [← enumL_map]
  exact ei_enum ct hm hg h hs
/-! stores -/
theorem ne_of_live {m n : Nat} {t : T} (h1 : L m = some t) (h2 : L n = none) : m ≠ n := fun e => by rw [e, h2] at h1; cases h1
theorem updS_drop {n : Nat} {o : Option T} (h : L n = none) : ∀ m t, L m = some t → updS L n o m = some t := fun m t e => by rw [updS_ne (ne_of_live e h)]; exact e
theorem updS_updS {n : Nat} {o o' : Option T} : updS (updS L n o) n o' = updS L n o' := by
  funext m; unfold updS; split <;> rfl
theorem updS_self {n : Nat} {o : Option T} (h : L n = o) : updS L n o = L := by
  funext m; unfold updS; split
  · rename_i e; rw [e, h]
  · rfl
/-! short forms: the names' facts are found by the kernel -/
theorem nv (ct : Ct CX P w K mg base k N sc fs X) (n : Nat) (hρ : ρ[n]? = some (some t)) (h : nmOk N sc n x = true := by decide +kernel) : Ev X (.Name x pos) ρ L (.v t) L := ev_var ct n hρ h
theorem nty (ct : Ct CX P w K mg base k N sc fs X) (n : String) (hm : mg x = none) (hb : bootBuiltins x = some (.type n) := by decide +kernel) (h : glOk sc x = true := by decide +kernel) : Ev X (.Name x pos) ρ L (.v (.v (.ty n))) L := ev_blt ct hm hb rfl h
theorem nint (ct : Ct CX P w K mg base k N sc fs X) {tk : Tok} (hm : mg x = some (.int i tk)) (h : glOk sc x = true := by decide +kernel) : Ev X (.Name x pos) ρ L (.v (I i)) L := ev_glob ct hm ⟨tk, rfl⟩ h
theorem tn (ct : Ct CX P w K mg base k N sc fs X) (n : Nat) (h : locOk N sc fs n x = true := by decide +kernel) : TgT X (.Name x pos) [n] t ρ (ρ.set n (some t)) L := tg_name ct n h
theorem klen (ct : Ct CX P w K mg base k N sc fs X) (hm : mg "len" = none) (ha : EvA X [e] ρ L [t] L1) (hl : LstT L1 t ts) (hg : glOk sc "len" = true := by decide +kernel) (he : starEach [e] X.env = (false, eval e X.env) :: starEach [] X.env := by first | with_reducible exact se1 | with_reducible exact se2 | with_reducible exact se3 | with_reducible exact se4 | with_reducible exact se5 | with_reducible exact se6 | with_reducible exact se7 | with_reducible exact se8 | with_reducible exact se9 | rfl) (hpl : (backTo pos (starEach [] X.env)).any (·.1) = false := by rfl) : Ev X (.Call (.Name "len" p) [e] [] pos) ρ L (.v (I ts.length)) L1 := ev_len ct hm hg ha hl he hpl
theorem klenT (ct : Ct CX P w K mg base k N sc fs X) (hm : mg "len" = none) (ha : EvA X [e] ρ L [.tup ts] L1) (hg : glOk sc "len" = true := by decide +kernel) (he : starEach [e] X.env = (false, eval e X.env) :: starEach [] X.env := by first | with_reducible exact se1 | with_reducible exact se2 | with_reducible exact se3 | with_reducible exact se4 | with_reducible exact se5 | with_reducible exact se6 | with_reducible exact se7 | with_reducible exact se8 | with_reducible exact se9 | rfl) (hpl : (backTo pos (starEach [] X.env)).any (·.1) = false := by rfl) : Ev X (.Call (.Name "len" p) [e] [] pos) ρ L (.v (I ts.length)) L1 := ev_lenT ct hm hg ha he hpl
theorem klistT (ct : Ct CX P w K mg base k N sc fs X) (hm : mg "list" = none) (ha : EvA X [e] ρ L [.tup ts] L1) (hg : glOk sc "list" = true := by decide +kernel) (he : starEach [e] X.env = (false, eval e X.env) :: starEach [] X.env := by first | with_reducible exact se1 | with_reducible exact se2 | with_reducible exact se3 | with_reducible exact se4 | with_reducible exact se5 | with_reducible exact se6 | with_reducible exact se7 | with_reducible exact se8 | with_reducible exact se9 | rfl) (hpl : (backTo pos (starEach [] X.env)).any (·.1) = false := by rfl) : Ev X (.Call (.Name "list" p) [e] [] pos) ρ L (.n (.lst ts)) L1 := ev_listT ct hm hg ha he hpl
theorem klistL (ct : Ct CX P w K mg base k N sc fs X) (hm : mg "list" = none) (ha : EvA X [e] ρ L [t] L1) (hl : LstT L1 t ts) (hg : glOk sc "list" = true := by decide +kernel) (he : starEach [e] X.env = (false, eval e X.env) :: starEach [] X.env := by first | with_reducible exact se1 | with_reducible exact se2 | with_reducible exact se3 | with_reducible exact se4 | with_reducible exact se5 | with_reducible exact se6 | with_reducible exact se7 | with_reducible exact se8 | with_reducible exact se9 | rfl) (hpl : (backTo pos (starEach [] X.env)).any (·.1) = false := by rfl) : Ev X (.Call (.Name "list" p) [e] [] pos) ρ L (.n (.lst ts)) L1 := ev_listL ct hm hg ha hl he hpl
theorem ktupleL (ct : Ct CX P w K mg base k N sc fs X) (hm : mg "tuple" = none) (ha : EvA X [e] ρ L [t] L1) (hl : LstT L1 t ts) (hg : glOk sc "tuple" = true := by decide +kernel) (he : starEach [e] X.env = (false, eval e X.env) :: starEach [] X.env := by first | with_reducible exact se1 | with_reducible exact se2 | with_reducible exact se3 | with_reducible exact se4 | with_reducible exact se5 | with_reducible exact se6 | with_reducible exact se7 | with_reducible exact se8 | with_reducible exact se9 | rfl) (hpl : (backTo pos (starEach [] X.env)).any (·.1) = false := by rfl) : Ev X (.Call (.Name "tuple" p) [e] [] pos) ρ L (.v (.tup ts)) L1 := ev_tupleL ct hm hg ha hl he hpl
theorem kintB {y : Bool} (ct : Ct CX P w K mg base k N sc fs X) (hm : mg "int" = none) (ha : EvA X [e] ρ L [B y] L1) (hg : glOk sc "int" = true := by decide +kernel) (he : starEach [e] X.env = (false, eval e X.env) :: starEach [] X.env := by first | with_reducible exact se1 | with_reducible exact se2 | with_reducible exact se3 | with_reducible exact se4 | with_reducible exact se5 | with_reducible exact se6 | with_reducible exact se7 | with_reducible exact se8 | with_reducible exact se9 | rfl) (hpl : (backTo pos (starEach [] X.env)).any (·.1) = false := by rfl) : Ev X (.Call (.Name "int" p) [e] [] pos) ρ L (.v (I (if y then 1 else 0))) L1 := ev_intB ct hm hg ha he hpl
theorem kall {bs : List Bool} (ct : Ct CX P w K mg base k N sc fs X) (hm : mg "all" = none) (ha : EvA X [e] ρ L [t] L1) (hl : LstT L1 t (bs.map B)) (hg : glOk sc "all" = true := by decide +kernel) (he : starEach [e] X.env = (false, eval e X.env) :: starEach [] X.env := by first | with_reducible exact se1 | with_reducible exact se2 | with_reducible exact se3 | with_reducible exact se4 | with_reducible exact se5 | with_reducible exact se6 | with_reducible exact se7 | with_reducible exact se8 | with_reducible exact se9 | rfl) (hpl : (backTo pos (starEach [] X.env)).any (·.1) = false := by rfl) : Ev X (.Call (.Name "all" p) [e] [] pos) ρ L (.v (B (bs.all id))) L1 := ev_all ct hm hg ha hl he hpl
theorem kany {bs : List Bool} (ct : Ct CX P w K mg base k N sc fs X) (hm : mg "any" = none) (ha : EvA X [e] ρ L [t] L1) (hl : LstT L1 t (bs.map B)) (hg : glOk sc "any" = true := by decide +kernel) (he : starEach [e] X.env = (false, eval e X.env) :: starEach [] X.env := by first | with_reducible exact se1 | with_reducible exact se2 | with_reducible exact se3 | with_reducible exact se4 | with_reducible exact se5 | with_reducible exact se6 | with_reducible exact se7 | with_reducible exact se8 | with_reducible exact se9 | rfl) (hpl : (backTo pos (starEach [] X.env)).any (·.1) = false := by rfl) : Ev X (.Call (.Name "any" p) [e] [] pos) ρ L (.v (B (bs.any id))) L1 := ev_any ct hm hg ha hl he hpl
/-- all(..) of a mapped list of truths -/
theorem kallM {α : Type} {l : List α} {g : α → Bool} (ct : Ct CX P w K mg base k N sc fs X) (hm : mg "all" = none) (ha : EvA X [e] ρ L [.lst (l.map fun x => B (g x))] L1) (hg : glOk sc "all" = true := by decide +kernel) (he : starEach [e] X.env = (false, eval e X.env) :: starEach [] X.env := by first | with_reducible exact se1 | with_reducible exact se2 | with_reducible exact se3 | with_reducible exact se4 | with_reducible exact se5 | with_reducible exact se6 | with_reducible exact se7 | with_reducible exact se8 | with_reducible exact se9 | rfl) (hpl : (backTo pos (starEach [] X.env)).any (·.1) = false := by rfl) : Ev X (.Call (.Name "all" p) [e] [] pos) ρ L (.v (B (l.all g))) L1 :=
  Ev.eq (ev_all (bs := l.map g) ct hm hg ha (.inl (by rw [List.map_map]; rfl)) he hpl) (by rw [List.all_map]; rfl)
theorem kanyM {α : Type} {l : List α} {g : α → Bool} (ct : Ct CX P w K mg base k N sc fs X) (hm : mg "any" = none) (ha : EvA X [e] ρ L [.lst (l.map fun x => B (g x))] L1) (hg : glOk sc "any" = true := by decide +kernel) (he : starEach [e] X.env = (false, eval e X.env) :: starEach [] X.env := by first | with_reducible exact se1 | with_reducible exact se2 | with_reducible exact se3 | with_reducible exact se4 | with_reducible exact se5 | with_reducible exact se6 | with_reducible exact se7 | with_reducible exact se8 | with_reducible exact se9 | rfl) (hpl : (backTo pos (starEach [] X.env)).any (·.1) = false := by rfl) : Ev X (.Call (.Name "any" p) [e] [] pos) ρ L (.v (B (l.any g))) L1 :=
  Ev.eq (ev_any (bs := l.map g) ct hm hg ha (.inl (by rw [List.map_map]; rfl)) he hpl) (by rw [List.any_map]; rfl)
theorem ksortI {ns : List Int} (ct : Ct CX P w K mg base k N sc fs X) (hm : mg "sorted" = none) (ha : EvA X [e] ρ L [t] L1) (hl : LstT L1 t (ns.map I)) (hg : glOk sc "sorted" = true := by decide +kernel) (he : starEach [e] X.env = (false, eval e X.env) :: starEach [] X.env := by first | with_reducible exact se1 | with_reducible exact se2 | with_reducible exact se3 | with_reducible exact se4 | with_reducible exact se5 | with_reducible exact se6 | with_reducible exact se7 | with_reducible exact se8 | with_reducible exact se9 | rfl) (hpl : (backTo pos (starEach [] X.env)).any (·.1) = false := by rfl) : Ev X (.Call (.Name "sorted" p) [e] [] pos) ρ L (.n (.lst ((sortI ns).map I))) L1 := ev_sortI ct hm hg ha hl he hpl
theorem ksortP {ps : List (Int × Int)} (ct : Ct CX P w K mg base k N sc fs X) (hm : mg "sorted" = none) (ha : EvA X [e] ρ L [t] L1) (hl : LstT L1 t (ps.map tPair)) (hg : glOk sc "sorted" = true := by decide +kernel) (he : starEach [e] X.env = (false, eval e X.env) :: starEach [] X.env := by first | with_reducible exact se1 | with_reducible exact se2 | with_reducible exact se3 | with_reducible exact se4 | with_reducible exact se5 | with_reducible exact se6 | with_reducible exact se7 | with_reducible exact se8 | with_reducible exact se9 | rfl) (hpl : (backTo pos (starEach [] X.env)).any (·.1) = false := by rfl) : Ev X (.Call (.Name "sorted" p) [e] [] pos) ρ L (.n (.lst ((sortP ps).map tPair))) L1 := ev_sortP ct hm hg ha hl he hpl
theorem kisi {n : String} (ct : Ct CX P w K mg base k N sc fs X) (hm : mg "isinstance" = none) (ha : EvA X [a, b] ρ L [t, .v (.ty n)] L1) (h1 : (tyN t).isSome = true) (h2 : ∀ m, tyN t = some m → (kitB m n).isSome = true) (hg : glOk sc "isinstance" = true := by decide +kernel)
    (he : starEach [a, b] X.env = (false, eval a X.env) :: starEach [b] X.env := by first | with_reducible exact se1 | with_reducible exact se2 | with_reducible exact se3 | with_reducible exact se4 | with_reducible exact se5 | with_reducible exact se6 | with_reducible exact se7 | with_reducible exact se8 | with_reducible exact se9 | rfl) (hpl : (backTo pos (starEach [b] X.env)).any (·.1) = false := by rfl) : Ev X (.Call (.Name "isinstance" p) [a, b] [] pos) ρ L (.v (B (isA n t))) L1 := ev_isi ct hm hg ha h1 h2 he hpl
/-- .. where the type is known -/
theorem kisiK {n m : String} (ct : Ct CX P w K mg base k N sc fs X) (hm : mg "isinstance" = none) (ha : EvA X [a, b] ρ L [t, .v (.ty n)] L1) (h1 : tyN t = some m) (z : Bool) (h2 : kitB m n = some z := by decide +kernel) (hg : glOk sc "isinstance" = true := by decide +kernel)
    (he : starEach [a, b] X.env = (false, eval a X.env) :: starEach [b] X.env := by first | with_reducible exact se1 | with_reducible exact se2 | with_reducible exact se3 | with_reducible exact se4 | with_reducible exact se5 | with_reducible exact se6 | with_reducible exact se7 | with_reducible exact se8 | with_reducible exact se9 | rfl) (hpl : (backTo pos (starEach [b] X.env)).any (·.1) = false := by rfl) : Ev X (.Call (.Name "isinstance" p) [a, b] [] pos) ρ L (.v (B z)) L1 :=
  Ev.eq (ev_isi ct hm hg ha (by rw [h1]; rfl) (fun m' e => by rw [h1] at e; cases e; rw [h2]; rfl) he hpl) (by unfold isA; rw [h1]; simp [h2])
theorem kr1 (ct : Ct CX P w K mg base k N sc fs X) (hm : mg "range" = none) (h : EvA X [a] ρ L [I j] L1) (h1 : -(2 ^ 62) ≤ j) (h2 : j < 2 ^ 62) (hg : glOk sc "range" = true := by decide +kernel) (hs : starEach [a] X.env = [(false, eval a X.env)] := by rfl) : EvI X tg (.Call (.Name "range" p) [a] [] pos) ρ L ((rangeT 0 j.toNat).map I) L1 := ei_range1 ct hm hg h h1 h2 hs
theorem kr2 (ct : Ct CX P w K mg base k N sc fs X) (hm : mg "range" = none) (h : EvA X [a, b] ρ L [I i, I j] L1) (h1 : -(2 ^ 62) ≤ i) (h2 : i < 2 ^ 62) (h3 : -(2 ^ 62) ≤ j) (h4 : j < 2 ^ 62) (hg : glOk sc "range" = true := by decide +kernel) (hs : starEach [a, b] X.env = [(false, eval a X.env), (false, eval b X.env)] := by rfl) (hs2 : starEach [b] X.env = [(false, eval b X.env)] := by rfl) : EvI X tg (.Call (.Name "range" p) [a, b] [] pos) ρ L ((rangeT i (j - i).toNat).map I) L1 := ei_range2 ct hm hg h h1 h2 h3 h4 hs hs2
theorem kenum {elts : List Expr} {kk : Nat} {tpos : Pos} {α : Type} {f : α → T} {xs : List α} (ct : Ct CX P w K mg base k N sc fs X) (hm : mg "enumerate" = none) (h : EvA X [a] ρ L [.lst (xs.map f)] L1) (hg : glOk sc "enumerate" = true := by decide +kernel) (hs : starEach [a] X.env = [(false, eval a X.env)] := by rfl) :
    EvI X (.Tuple elts kk tpos) (.Call (.Name "enumerate" p) [a] [] pos) ρ L ((enumL xs).map fun q => .tup [I q.1, f q.2]) L1 := ei_enumP ct hm hg h hs
theorem wset {rest : List Stmt} {kk : TK} {p' : Pos} (ct : Ct CX P w K mg base k N sc fs X) (n : Nat) (he : Ev X e ρ L (.v t) L1) (h : WS X rest (ρ.set n (some t)) L1 kk) (hx : locOk N sc fs n x = true := by decide +kernel) (hs : swapsWith e (some (.Name x p')) pos.line X.env = pure false := by rfl) : WS X (.Assign [.Name x p'] e pos :: rest) ρ L kk := ws_set ct n hx he h hs
theorem wsetC {rest : List Stmt} {kk : TK} {p' : Pos} (ct : Ct CX P w K mg base k N sc fs X) (n : Nat) (he : Ev X e ρ L (.n t) L1) (h : ∀ m, L1 m = none → WS X rest (ρ.set n (some (.cel m))) (updS L1 m (some t)) kk) (hx : locOk N sc fs n x = true := by decide +kernel) (hs : swapsWith e (some (.Name x p')) pos.line X.env = pure false := by rfl) : WS X (.Assign [.Name x p'] e pos :: rest) ρ L kk := ws_setC ct n hx he h hs
theorem sw_env {tg : List Expr} {v : Expr} {env env' : Env} (h : env.scope = env'.scope) : swappedStores tg v env = swappedStores tg v env' := by
  unfold swappedStores Env.blockKind Env.kindOf
  rw [h]
theorem wpar {rest : List Stmt} {kk : TK} {y : Str} {px py pt : Pos} {kt k2 pt2} (ct : Ct CX P w K mg base k N sc fs X) (n m : Nat) (ha : EvA X [a, b] ρ L [t, u] L1) (h : WS X rest ((ρ.set n (some t)).set m (some u)) L1 kk) (hij : n ≠ m := by decide)
    (hx : locOk N sc fs n x = true := by decide +kernel) (hy : locOk N sc fs m y = true := by decide +kernel) (hxl : sc.names.lookup x = some .local := by decide +kernel) (hyl : sc.names.lookup y = some .local := by decide +kernel) (hw : swappedStores [.Tuple [.Name x px, .Name y py] kt pt] (.Tuple [a, b] k2 pt2) { X.env with scope := sc } = pure (some [x, y]) := by rfl)
    (hs : swapsWithSole [.Tuple [.Name x px, .Name y py] kt pt] (.Tuple [a, b] k2 pt2) pos.line X.env = pure false := by rfl) : WS X (.Assign [.Tuple [.Name x px, .Name y py] kt pt] (.Tuple [a, b] k2 pt2) pos :: rest) ρ L kk := ws_par ct n m hx hy hxl hyl hij ha h ((sw_env (env' := { X.env with scope := sc }) ct.hsc).trans hw) hs
theorem waugI {rest : List Stmt} {kk : TK} {p' : Pos} (ct : Ct CX P w K mg base k N sc fs X) (n : Nat) (hρ : ρ[n]? = some (some (I i))) (he : Ev X e ρ L (.v (I j)) L1) (h : WS X rest (ρ.set n (some (I (i + j)))) L1 kk) (hx : locOk N sc fs n x = true := by decide +kernel) : WS X (.AugAssign (.Name x p') .Add e pos :: rest) ρ L kk := ws_augI ct n hx hρ he h
/-- name.append(e), the name's list a cell -/
theorem eapp {o : Expr} {apos : Pos} {m : Nat} (ho : Ev X o ρ L (.v (.cel m)) L) (ha : Ev X e ρ L (.v t) L1) (hl0 : L m = some (.lst us)) (hl : L1 m = some (.lst ts)) (hz : ts.length ≤ 100000)
    (hs : starEach [e] X.env = (false, eval e X.env) :: starEach [] X.env := by rfl) (hbase : attributeBase o "append" X.env (eval o X.env) = eval o X.env := by rfl)
    (hfew : ((backTo pos (starEach (e :: []) X.env)).all (fun x => !x.1) && (backToKw pos (keywordEach [] X.env)).all (fun x => x.1.isSome)
      && decide ((e :: []).length + ([] : List Keyword).length + (if ([] : List Keyword).isEmpty then 0 else 1) < 30)) = true := by rfl)
    (hline : (apos.endLine == pos.line) = true := by rfl) (hplain : (backTo pos (starEach [] X.env)).any (·.1) = false := by rfl) : Ev X (.Call (.Attribute o "append" apos) [e] [] pos) ρ L (.v N0) (updS L1 m (some (.lst (ts ++ [t])))) :=
  ev_append ho ha hl hl0 hz (fun h1 h2 => pe_bm PySem.F.plainAttrs_list PySem.F.slot_list_append PySem.F.type_list_append (fun p s σ H x xs v us Q I r1 r2 h => mt_append p s σ H x xs v us Q I r1 r2 h) h1 h2 hbase hfew hline hs hplain) hs
/-- a field read, the class's facts over the written part -/
theorem efl {o : Expr} {f : Str} {C : Addr} {ns : List Str} (ct : Ct CX P w K mg base k N sc fs X) (cl : Cls K C) (hn : NoAttr K C f) (ho : Ev X o ρ L (.v t) L1) (hi : InsT L1 t C ns us) (hl : (ns.zip us).lookup f = some u) (hb : attributeBase o f X.env (eval o X.env) = eval o X.env := by rfl) : Ev X (.Attribute o f pos) ρ L (.v u) L1 :=
  ev_fld (by rw [ct.hK]; exact cl) (by rw [ct.hK]; exact hn) ho hi hl hb
/-! defs with keywords, in the parameters' order -/
structure DefK (CX : CXT) (P : Program) (w : World) (K : PySem.W.Frag) (mg : Str → Option Value) (base : Heap) (j : Nat) (x : Str) (ps : List Str) (n : Nat) (ks : List Str) (Rl : Rel) : Prop where
  ex : ∃ f fd, FnT P w K mg base CX j f fd ps Rl ∧ mg x = some (.ref f) ∧ PySem.W.keepIn K (.ref f) = true ∧ KBn K fd ps n ks (fun us ws => us ++ ws) (fun vs zs => vs ++ zs)
theorem eck {ps ks : List Str} {Rl : Rel} {j n : Nat} {r : R} {kws : List Keyword} {zs : List T} (ct : Ct CX P w K mg base k N sc fs X) (D : DefK CX P w K mg base j x ps n ks Rl) (ha : EvA X (e :: es) ρ L ts L1) (hkw : EvK X kws ρ L1 zs Lb) (h : Rl (ts ++ zs) Lb r Lc) (hn : ts.length = n := by rfl) (hn2 : zs.length = ks.length := by rfl) (hj : j ≤ k := by decide) (hg : glOk sc x = true := by decide +kernel)
    (hall : (backToKw pos (keywordEach kws X.env)).all (·.1.isSome) = true := by rfl) (hks : (backToKw pos (keywordEach kws X.env)).filterMap (·.1) = ks := by rfl)
    (he : starEach (e :: es) X.env = (false, eval e X.env) :: starEach es X.env := by first | with_reducible exact se1 | with_reducible exact se2 | with_reducible exact se3 | with_reducible exact se4 | with_reducible exact se5 | with_reducible exact se6 | with_reducible exact se7 | with_reducible exact se8 | with_reducible exact se9 | rfl)
    (hpl : ((backTo pos (starEach (e :: es) X.env)).any (·.1) || (backToKw pos (keywordEach kws X.env)).any (·.1.isNone)) = false := by rfl) : Ev X (.Call (.Name x p) (e :: es) kws pos) ρ L r Lc := by
  obtain ⟨f, fd, F, hm, hk, hb⟩ := D.ex
  exact ev_callK (fun ts zs => ts ++ zs) ct F hj hm hk hb (fun W H vs us h1 h2 => h1.append h2) hn hn2 hg ha hkw h hall hks he hpl
/-- a class that is made by an __init__ with keywords in order -/
structure MakK (CX : CXT) (P : Program) (w : World) (K : PySem.W.Frag) (mg : Str → Option Value) (base : Heap) (j : Nat) (x : Str) (C : Addr) (ps : List Str) (n : Nat) (ks : List Str) (Rl : Rel) : Prop where
  ex : ∃ f fd, FnT P w K mg base CX j f fd ps Rl ∧ mg x = some (.ref C) ∧ Mk K C f ∧ KBn K fd ps (n + 1) ks (fun us ws => us ++ ws) (fun vs zs => vs ++ zs)
theorem emk {C : Addr} {ps ks : List Str} {Rl : Rel} {j n : Nat} {ns : List Str} {kws : List Keyword} {zs : List T} (ct : Ct CX P w K mg base k N sc fs X) (D : MakK CX P w K mg base j x C ps n ks Rl) (ha : EvA X (e :: es) ρ L ts L1) (hkw : EvK X kws ρ L1 zs Lb)
    (h : ∀ n, Lb n = none → ∃ Lz, Rl (.cel n :: (ts ++ zs)) (updS Lb n (some (.ins C [] []))) (.v N0) Lz ∧ Lz n = some (.ins C ns us) ∧ (∀ m t, Lc m = some t → Lz m = some t) ∧ Lc n = none)
    (hn : ts.length = n := by rfl) (hn2 : zs.length = ks.length := by rfl) (hj : j + 1 ≤ k := by decide) (hg : glOk sc x = true := by decide +kernel)
    (hall : (backToKw pos (keywordEach kws X.env)).all (·.1.isSome) = true := by rfl) (hks : (backToKw pos (keywordEach kws X.env)).filterMap (·.1) = ks := by rfl)
    (he : starEach (e :: es) X.env = (false, eval e X.env) :: starEach es X.env := by first | with_reducible exact se1 | with_reducible exact se2 | with_reducible exact se3 | with_reducible exact se4 | with_reducible exact se5 | with_reducible exact se6 | with_reducible exact se7 | with_reducible exact se8 | with_reducible exact se9 | rfl)
    (hpl : ((backTo pos (starEach (e :: es) X.env)).any (·.1) || (backToKw pos (keywordEach kws X.env)).any (·.1.isNone)) = false := by rfl) : Ev X (.Call (.Name x p) (e :: es) kws pos) ρ L (.n (.ins C ns us)) Lc := by
  obtain ⟨f, fd, F, hm, M, hb⟩ := D.ex
  exact ev_makeK (g0 := fun us ws => us ++ ws) (gV0 := fun vs zs => vs ++ zs) (fun ts zs => ts ++ zs) ct M F hj hm hb (fun _ _ _ => rfl) (fun _ _ _ => rfl) (fun h1 h2 => h1.append h2) (fun W H vs us h1 h2 => h1.append h2) hn hn2 hg ha hkw h hall hks he hpl
/-- a def of the text, as it stands behind the top -/
def Raw (K : PySem.W.Frag) (mg : Str → Option Value) (x : Str) (st : Stmt) : Prop := ∃ f fd, Fun K x x st f fd ∧ mg x = some (.ref f)
theorem Raw.def {st : Stmt} {ps : List Str} {j : Nat} {Rl : Rel} (F : Raw K mg x st) (S : FnScope N ps (defScope st)) (hcx : ∀ (st : List Env) (H : Hp) (s : Shared) (e : Value) (s' : Shared), CX st H s E0 e s' → False)
    (hb : ∀ (kV doc pm : Value) (an : Option Addr) (cdv ct : Value) (us : List Value), us.length = ps.length → bindArgs (PySem.W.fnOf x x (defArgs st) (defBody st) (defScope st) .none kV doc pm an cdv ct) ⟨us, []⟩ = pure (ps.zip us))
    (len : ∀ ts L r L', Rl ts L r L' → ts.length = ps.length)
    (hbody : ∀ (X : Cx), Ct CX P w K mg base j N (defScope st) (fun _ => true) X → PassesOwn (model X.prog X.w) X.A X.env X.xe → ∀ ts L r L', Rl ts L r L' → WS X (defBody st) (startT N ts) L (fnK L r L')) : DefT CX P w K mg base (j + 1) x ps Rl := by
  obtain ⟨f, fd, F, hm⟩ := F
  exact ⟨f, fd, okT F S hcx len hbody, hm, F.kp, F.binds hb⟩
theorem Raw.defK {st : Stmt} {ps ks : List Str} {j n : Nat} {Rl : Rel} (F : Raw K mg x st) (S : FnScope N ps (defScope st)) (hcx : ∀ (st : List Env) (H : Hp) (s : Shared) (e : Value) (s' : Shared), CX st H s E0 e s' → False)
    (hb : ∀ (kV doc pm : Value) (an : Option Addr) (cdv ct : Value) (us ws : List Value), us.length = n → ws.length = ks.length → bindArgs (PySem.W.fnOf x x (defArgs st) (defBody st) (defScope st) .none kV doc pm an cdv ct) ⟨us, ks.zip ws⟩ = pure (ps.zip (us ++ ws)))
    (len : ∀ ts L r L', Rl ts L r L' → ts.length = ps.length)
    (hbody : ∀ (X : Cx), Ct CX P w K mg base j N (defScope st) (fun _ => true) X → PassesOwn (model X.prog X.w) X.A X.env X.xe → ∀ ts L r L', Rl ts L r L' → WS X (defBody st) (startT N ts) L (fnK L r L')) : DefK CX P w K mg base (j + 1) x ps n ks Rl := by
  obtain ⟨f, fd, F, hm⟩ := F
  obtain ⟨oc, od, kV, doc, pm, an, cdv, cty, osl, rfl, lk, hcd⟩ := F.ex
  exact ⟨f, _, fn_T lk hcd S hcx len hbody, hm, F.kp, ⟨fun s us ws _ l1 l2 => .of_eq (hb kV doc pm an cdv cty us ws l1 l2), fun h1 h2 => h1.append h2⟩⟩
end
end TL


/-! The tree layer, part H: the text's defs as data, the end of a row. -/
namespace TL
open PySem PySem.Spec PyProof.Rows L2

section
variable {CX : CXT} {P : Program} {w : World} {K : PySem.W.Frag} {mg : Str → Option Value} {base : Heap} {k : Nat} {N : List Str} {sc : Scope} {fs : Str → Bool} {X : Cx}
variable {e a b c tg iter elt : Expr} {es ifs : List Expr} {ρ ρ' ρ1 : TEnv} {L L1 Lb Lc : Store} {t u : T} {ts us : List T} {pos p : Pos} {i j : Int} {x : Str} {z : R}

theorem ev_fdivW (ha : Ev X a ρ L (.v (I i)) L1) (hb : Ev X b ρ L1 (.v (I j)) Lb) (h : CDivW i j) : Ev X (.BinOp a .FloorDiv b pos) ρ L (.v (I (i / j))) Lb := ev_bin op_fdivW ha hb (ot_I h)
theorem eb_truI (h : Ev X e ρ L (.v (I i)) L1) (he : ∀ whole, isTrue e X.env whole = (do let v ← whole; standAt e.pos; holding [v] (truthy v)) := by intro _; rfl) : EvB X e ρ L (i != 0) L1 := by
  refine ⟨fun W H σ Q s en q => ?_⟩
  refine wp_pt (pt_truth pe_wp he) ?_
  refine h W H σ _ s en fun x W1 H1 st1 s1 r1 => ?_
  cases r1
  exact ⟨_, rfl, q W1 H1 st1 s1⟩
theorem eb_truL (h : Ev X e ρ L (.v t) L1) (hl : LstT L1 t ts) (he : ∀ whole, isTrue e X.env whole = (do let v ← whole; standAt e.pos; holding [v] (truthy v)) := by intro _; rfl) : EvB X e ρ L (!ts.isEmpty) L1 := by
  refine ⟨fun W H σ Q s en q => ?_⟩
  refine wp_pt (pt_truth pe_wp he) ?_
  refine h W H σ _ s en fun x W1 H1 st1 s1 r1 => ?_
  obtain ⟨l, vs, rfl, hq, rr⟩ := lst_sq s1 r1 hl
  refine ⟨_, .inl ⟨vs, hq, rfl⟩, ?_⟩
  have e : vs.isEmpty = ts.isEmpty := by
    have := rr.length
    cases vs <;> cases ts <;> simp_all
  rw [e]
  exact q W1 H1 st1 s1
theorem ei_eq (h : EvI X tg iter ρ L ts L1) (e : ts = us) : EvI X tg iter ρ L us L1 := e ▸ h
/-- no exception leaves, of any context -/
abbrev Calm0 (CX : CXT) : Prop := ∀ (st : List Env) (H : Hp) (s : Shared) (e : Value) (s' : Shared), CX st H s E0 e s' → False
/-- a def of the module: what the head tells of it -/
structure Fd (K : PySem.W.Frag) (mg : Str → Option Value) (x : Str) (st : Stmt) (kws : List (Str × V)) : Prop where
  ex : ∃ f fd, FunD K x x (defArgs st) (defBody st) (defScope st) [] kws f fd ∧ mg x = some (.ref f)
abbrev Bd0 (x : Str) (st : Stmt) (ps : List Str) : Prop := ∀ (kV doc pm : Value) (an : Option Addr) (cdv ct : Value) (us : List Value), us.length = ps.length → bindArgs (PySem.W.fnOf x x (defArgs st) (defBody st) (defScope st) .none kV doc pm an cdv ct) ⟨us, []⟩ = pure (ps.zip us)
abbrev BdK (x : Str) (st : Stmt) (ps : List Str) (n : Nat) (ks : List Str) : Prop := ∀ (kV doc pm : Value) (an : Option Addr) (cdv ct : Value) (us ws : List Value), us.length = n → ws.length = ks.length → bindArgs (PySem.W.fnOf x x (defArgs st) (defBody st) (defScope st) .none kV doc pm an cdv ct) ⟨us, ks.zip ws⟩ = pure (ps.zip (us ++ ws))
abbrev LenR (Rl : Rel) (n : Nat) : Prop := ∀ ts L r L', Rl ts L r L' → ts.length = n
abbrev Bdy (CX : CXT) (P : Program) (w : World) (K : PySem.W.Frag) (mg : Str → Option Value) (base : Heap) (j : Nat) (N : List Str) (st : Stmt) (Rl : Rel) : Prop :=
  ∀ (X : Cx), Ct CX P w K mg base j N (defScope st) (fun _ => true) X → PassesOwn (model X.prog X.w) X.A X.env X.xe → ∀ ts L r L', Rl ts L r L' → WS X (defBody st) (startT N ts) L (fnK L r L')
theorem Fd.def {st : Stmt} {ps : List Str} {j : Nat} {Rl : Rel} (F : Fd K mg x st []) (S : FnScope N ps (defScope st)) (hcx : Calm0 CX) (hb : Bd0 x st ps) (len : LenR Rl ps.length) (hbody : Bdy CX P w K mg base j N st Rl) : DefT CX P w K mg base (j + 1) x ps Rl := by
  obtain ⟨f, fd, F, hm⟩ := F.ex
  exact ⟨f, fd, okTD F S hcx len hbody, hm, F.kp, F.bindsN hb⟩
theorem Fd.defK {st : Stmt} {kws : List (Str × V)} {ps ks : List Str} {j n : Nat} {Rl : Rel} (F : Fd K mg x st kws) (S : FnScope N ps (defScope st)) (hcx : Calm0 CX) (hb : BdK x st ps n ks) (len : LenR Rl ps.length) (hbody : Bdy CX P w K mg base j N st Rl) : DefK CX P w K mg base (j + 1) x ps n ks Rl := by
  obtain ⟨f, fd, F, hm⟩ := F.ex
  refine ⟨f, fd, okTD F S hcx len hbody, hm, F.kp, ?_⟩
  obtain ⟨oc, od, dV, kV, doc, pm, an, cdv, cty, osl, rfl, lk, hcd, hD, hK⟩ := F.ex
  rcases hD with ⟨_, rfl⟩ | ⟨e, _⟩
  · exact ⟨fun s us ws _ l1 l2 => .of_eq (hb kV doc pm an cdv cty us ws l1 l2), fun h1 h2 => h1.append h2⟩
  · exact absurd rfl e
/-- a method of the class x of the module -/
structure Md (K : PySem.W.Frag) (mg : Str → Option Value) (x m q : Str) (st : Stmt) (kws : List (Str × V)) : Prop where
  ex : ∃ C f fd, FunD K m q (defArgs st) (defBody st) (defScope st) [] kws f fd ∧ mg x = some (.ref C) ∧ Meth K C m f
abbrev Bm0 (m q : Str) (st : Stmt) (ps : List Str) : Prop := ∀ (kV doc pm : Value) (an : Option Addr) (cdv ct : Value) (us : List Value), us.length = ps.length → bindArgs (PySem.W.fnOf m q (defArgs st) (defBody st) (defScope st) .none kV doc pm an cdv ct) ⟨us, []⟩ = pure (ps.zip us)
abbrev BmK (m q : Str) (st : Stmt) (ps : List Str) (n : Nat) (ks : List Str) : Prop := ∀ (kV doc pm : Value) (an : Option Addr) (cdv ct : Value) (us ws : List Value), us.length = n → ws.length = ks.length → bindArgs (PySem.W.fnOf m q (defArgs st) (defBody st) (defScope st) .none kV doc pm an cdv ct) ⟨us, ks.zip ws⟩ = pure (ps.zip (us ++ ws))
theorem Md.met {C : Addr} {m q : Str} {st : Stmt} {ps : List Str} {j : Nat} {Rl : Rel} (F : Md K mg x m q st []) (hC : mg x = some (.ref C)) (S : FnScope N ps (defScope st)) (hcx : Calm0 CX) (hb : Bm0 m q st ps) (len : LenR Rl ps.length) (hbody : Bdy CX P w K mg base j N st Rl) : MetT CX P w K mg base (j + 1) C m ps Rl := by
  obtain ⟨C', f, fd, F, hm, M⟩ := F.ex
  have e := hC.symm.trans hm
  cases e
  exact ⟨f, fd, okTD F S hcx len hbody, M, F.bindsN hb⟩
/-- a class whose __init__ takes keywords -/
structure Mi (K : PySem.W.Frag) (mg : Str → Option Value) (x q : Str) (st : Stmt) (kws : List (Str × V)) : Prop where
  ex : ∃ C f fd, FunD K "__init__" q (defArgs st) (defBody st) (defScope st) [] kws f fd ∧ mg x = some (.ref C) ∧ Mk K C f
theorem Mi.makK {C : Addr} {q : Str} {st : Stmt} {kws : List (Str × V)} {ps ks : List Str} {j n : Nat} {Rl : Rel} (F : Mi K mg x q st kws) (hC : mg x = some (.ref C)) (S : FnScope N ps (defScope st)) (hcx : Calm0 CX) (hb : BmK "__init__" q st ps (n + 1) ks) (len : LenR Rl ps.length) (hbody : Bdy CX P w K mg base j N st Rl) : MakK CX P w K mg base (j + 1) x C ps n ks Rl := by
  obtain ⟨C', f, fd, F, hm, M⟩ := F.ex
  have e := hC.symm.trans hm
  cases e
  refine ⟨f, fd, okTD F S hcx len hbody, hm, M, ?_⟩
  obtain ⟨oc, od, dV, kV, doc, pm, an, cdv, cty, osl, rfl, lk, hcd, hD, hK⟩ := F.ex
  rcases hD with ⟨_, rfl⟩ | ⟨e, _⟩
  · exact ⟨fun s us ws _ l1 l2 => .of_eq (hb kV doc pm an cdv cty us ws l1 l2), fun h1 h2 => h1.append h2⟩
  · exact absurd rfl e
/-- a store into a field of a cell that is an instance, by place -/
theorem putF_new {f : Str} {y : V} : ∀ {ns : List Str} {vs : List V}, ns.length = vs.length → f ∉ ns → putF f y (ns.zip vs) = (ns ++ [f]).zip (vs ++ [y])
  | [], [], _, _ => rfl
  | n :: ns, v :: vs, h, hf => by
    have h1 : f ≠ n := fun e => hf (by rw [e]; exact List.mem_cons_self)
    have h2 : f ∉ ns := fun e => hf (List.mem_cons_of_mem _ e)
    have ih := putF_new (f := f) (y := y) (ns := ns) (vs := vs) (Nat.succ.inj h) h2
    show putF f y ((n, v) :: ns.zip vs) = (n, v) :: (ns ++ [f]).zip (vs ++ [y])
    rw [← ih]
    simp [putF, h1, Ne.symm h1]
/-- o.f = e, a field that is new -/
theorem wfld {C : Addr} {f : Str} {p' : Pos} {m : Nat} {ns : List Str} {o : Expr} {rest : List Stmt} {kk : TK} (ct : Ct CX P w K mg base k N sc fs X) (cl : Cls K C) (hn : NoAttr K C f) (he : Ev X e ρ L (.v t) L1) (ho : Ev X o ρ L1 (.v (.cel m)) L1) (hl : L1 m = some (.ins C ns ts))
    (h : WS X rest ρ (updS L1 m (some (.ins C (ns ++ [f]) (ts ++ [t])))) kk) (hlen : ns.length = ts.length := by rfl) (hf : f ∉ ns := by decide) (hz : ns.length < 100 := by decide) (hs : swapsWith e (some (.Attribute o f p')) pos.line X.env = pure false := by rfl) : WS X (.Assign [.Attribute o f p'] e pos :: rest) ρ L kk :=
  ws_fld (by rw [ct.hK]; exact cl) (by rw [ct.hK]; exact hn) he ho hl hz hlen (fun vs hv y => ⟨vs ++ [y], putF_new hv.symm hf, by simp [hv], fun W H r1 r2 => r1.append (.cons r2 .nil)⟩) h hs
/-! the end of a row, the head's facts as data -/
theorem walk_TE {l : PySem.W.OpenLaw} {j : Nat} {q : Program} {loose : List Str} {XP : (Str → Option Value) → Heap → Prop} {YP : World → Heap → Prop} {d : DefRec} {CX : World → CXT} {y : Str} (hn : l.most = some 63) (hdf : d.params.defaults = []) (hr : Room j callerA)
    (hcx : ∀ w : World, Calm0 (CX w))
    (F : ∀ (w : World) (mg : Str → Option Value) (fa : Addr) (h : Heap), YP w h → h.Ns mainGlobals mg → mg d.name = some (.ref fa) → ∃ (K : PySem.W.Frag) (fd : FuncData), K.In h ∧ (∀ (s : Shared) (u : Value), BindsTo s fd ⟨[u], []⟩ [(y, u)]) ∧
      ∀ base : Heap, K.In base → base.Ns mainGlobals mg → FnT l.prog w K mg base (CX w) j fa fd [y] lawRel) : PySem.W.WalkO q loose XP YP l.row.toRowW d [] (fun f vs => PySem.call f vs) := by
  refine Att.attach_call hn hdf fun w s₀ s1 mg mb fa o pm cd doc a vs ns G Y ho hd hcd hmg hobj hints hlen hg => ?_
  obtain ⟨K, fd, KX, hb, hF⟩ := F w mg fa _ Y G.T.g hmg
  exact law_T KX G.T.g G.T.b G.T.builtins G.T.nolimit hg hobj hints hlen hr (hcx w) hF hb
/-- the law's def, from its body -/
theorem Fd.law {st : Stmt} {j : Nat} {y : Str} {fa : Addr} (F : Fd K mg x st []) (hx : mg x = some (.ref fa)) (S : FnScope N [y] (defScope st)) (hcx : Calm0 CX) (hb : Bd0 x st [y]) (hbody : ∀ base : Heap, K.In base → base.Ns mainGlobals mg → Bdy CX P w K mg base j N st lawRel) :
    ∃ fd : FuncData, (∀ (s : Shared) (u : Value), BindsTo s fd ⟨[u], []⟩ [(y, u)]) ∧ ∀ base : Heap, K.In base → base.Ns mainGlobals mg → FnT P w K mg base CX (j + 1) fa fd [y] lawRel := by
  obtain ⟨f, fd, F, hm⟩ := F.ex
  have e := hx.symm.trans hm
  cases e
  exact ⟨fd, fun s u => F.bindsA hb s [u] rfl, fun base h1 h2 => okTD F S hcx (fun ts L r L' h => by obtain ⟨ns, rfl, _⟩ := h; rfl) (hbody base h1 h2)⟩
end
end TL


/-! Towns as trees. -/
namespace TL
open PySem PySem.Spec PyProof.Rows L2

/-- a street: from a to b, of rhythm r, night n -/
structure Lane where
  a : Int
  b : Int
  r : Int
  n : Int
deriving DecidableEq
def tLane (l : Lane) : T := .tup [I l.a, I l.b, I l.r, I l.n]
structure Lane.Ok (m : Int) (l : Lane) : Prop where
  a1 : 1 ≤ l.a
  a2 : l.a ≤ m
  b1 : 1 ≤ l.b
  b2 : l.b ≤ m
  ne : l.a ≠ l.b
  r1 : 1 ≤ l.r
  r2 : l.r ≤ 6
structure Tw where
  n : Int
  st : List Lane
  wd : List (Int × Int)
  bd : List Int
deriving DecidableEq
abbrev twNs : List Str := ["many", "lanes", "wides", "beds"]
abbrev tTw (C : Addr) (t : Tw) : T := .ins C twNs [I t.n, .tup (t.st.map tLane), .tup (t.wd.map tPair), .tup (t.bd.map I)]
/-- pairs that may be told: each of two places, the lesser first, each once -/
structure PairsOk (m : Int) (ps : List (Int × Int)) : Prop where
  ok : ∀ p ∈ ps, 1 ≤ p.1 ∧ p.1 ≤ m ∧ 1 ≤ p.2 ∧ p.2 ≤ m ∧ p.1 < p.2
  nd : ps.Nodup
structure InnsOk (m : Int) (ps : List Int) : Prop where
  ok : ∀ p ∈ ps, 1 ≤ p ∧ p ≤ m
  nd : ps.Nodup
structure PartsOk (t : Tw) : Prop where
  n1 : 1 ≤ t.n
  n8 : t.n ≤ 8
  st : ∀ l ∈ t.st, l.Ok t.n
  s12 : t.st.length ≤ 12
  wd : PairsOk t.n t.wd
  bd : InnsOk t.n t.bd
/-- the town made of the parts -/
def Tw.made (t : Tw) : Tw := ⟨t.n, t.st, sortP t.wd, sortI t.bd⟩
theorem nodup_len {α : Type} [DecidableEq α] : ∀ {l m : List α}, l.Nodup → (∀ x ∈ l, x ∈ m) → l.length ≤ m.length
  | [], _, _, _ => Nat.zero_le _
  | x :: l, m, h, hs => by
    have h1 := (List.nodup_cons.mp h)
    have h2 := nodup_len (l := l) (m := m.erase x) h1.2 fun y hy => by
      have hne : y ≠ x := fun e => h1.1 (e ▸ hy)
      exact (List.mem_erase_of_ne hne).mpr (hs y (List.mem_cons_of_mem _ hy))
    have hx := hs x List.mem_cons_self
    have h3 := List.length_erase_of_mem hx
    have h4 : 0 < m.length := List.length_pos_of_mem hx
    rw [List.length_cons]
    omega
theorem pairs_len {m : Int} {ps : List (Int × Int)} (h : PairsOk m ps) (h8 : m ≤ 8) : ps.length ≤ 64 := by
  refine Nat.le_trans (nodup_len (m := (rangeT 1 8).flatMap fun i => (rangeT 1 8).map fun j => (i, j)) h.nd fun p hp => ?_) (by decide)
  obtain ⟨h1, h2, h3, h4, _⟩ := h.ok p hp
  rw [List.mem_flatMap]
  refine ⟨p.1, mem_rangeT.mpr ⟨h1, by omega⟩, ?_⟩
  rw [List.mem_map]
  exact ⟨p.2, mem_rangeT.mpr ⟨h3, by omega⟩, rfl⟩
theorem inns_len {m : Int} {ps : List Int} (h : InnsOk m ps) (h8 : m ≤ 8) : ps.length ≤ 8 := by
  refine Nat.le_trans (nodup_len (m := rangeT 1 8) h.nd fun p hp => ?_) (by decide)
  obtain ⟨h1, h2⟩ := h.ok p hp
  exact mem_rangeT.mpr ⟨h1, by omega⟩
/-! a value as a thing of a def -/
def isIntT : T → Bool
  | .v (.int _) => true
  | _ => false
/-! shapes of what the town is made of -/
theorem pd_I (i : Int) : pd (I i) = some (.int i) := by unfold pd pdV; rfl
theorem pdL_map {α : Type} {f : α → T} {g : α → PyData} (h : ∀ a, pd (f a) = some (g a)) : ∀ l : List α, pdL (l.map f) = some (l.map g)
  | [] => by unfold pdL; rfl
  | a :: l => by
    rw [List.map_cons]; unfold pdL
    rw [h a, pdL_map h l]; rfl
theorem pd_tup {ts : List T} {ds : List PyData} (h : pdL ts = some ds) : pd (.tup ts) = some (.tuple ds) := by unfold pd; rw [h]; rfl
theorem pd_lstL {ts : List T} {ds : List PyData} (h : pdL ts = some ds) : pd (.lst ts) = some (.list ds) := by unfold pd; rw [h]; rfl
def dPair (p : Int × Int) : PyData := .tuple [.int p.1, .int p.2]
def dLane (l : Lane) : PyData := .tuple [.int l.a, .int l.b, .int l.r, .int l.n]
theorem pd_pair (p : Int × Int) : pd (tPair p) = some (dPair p) := pd_tup (by unfold pdL; rw [pd_I]; unfold pdL; rw [pd_I]; unfold pdL; rfl)
theorem pd_lane (l : Lane) : pd (tLane l) = some (dLane l) := pd_tup (by unfold pdL; rw [pd_I]; unfold pdL; rw [pd_I]; unfold pdL; rw [pd_I]; unfold pdL; rw [pd_I]; unfold pdL; rfl)
end TL


/-! What the defs about towns promise. -/
namespace TL
open PySem PySem.Spec PyProof.Rows L2
theorem isA_known {t : T} (h : (tyN t).isSome = true) (n : String) (hn : n = "int" ∨ n = "bool" ∨ n = "tuple" ∨ n = "list") : ∀ m, tyN t = some m → (kitB m n).isSome = true := by
  intro m hm
  have key : ∀ m ∈ ["NoneType", "bool", "int", "str", "list", "tuple"], ∀ n ∈ ["int", "bool", "tuple", "list"], (kitB m n).isSome = true := by decide +kernel
  refine key m ?_ n (by rcases hn with rfl | rfl | rfl | rfl <;> decide)
  cases t with
  | v x => cases x <;> simp [tyN] at hm <;> subst hm <;> decide
  | lst _ => simp [tyN] at hm; subst hm; decide
  | tup _ => simp [tyN] at hm; subst hm; decide
  | _ => simp [tyN] at hm
def wholeT (t : T) (lo hi : Int) : Bool := match t with
  | .v (.int i) => decide (lo ≤ i) && decide (i ≤ hi)
  | _ => false
def isTupT : T → Bool
  | .tup _ => true
  | _ => false
def isLstT : T → Bool
  | .lst _ => true
  | _ => false
theorem isA_of {t : T} {m n : String} {z : Bool} (h : tyN t = some m) (k : kitB m n = some z) : isA n t = z := by
  unfold isA; rw [h]; simp [k]
theorem isA_any {t : T} (h : (tyN t).isSome = true) : (isA "int" t && !isA "bool" t) = isIntT t := by
  cases t with
  | v x =>
    cases x with
    | non => rw [isA_of (t := .v .non) (m := "NoneType") rfl (z := false) (by decide +kernel)]; rfl
    | bl b => rw [isA_of (t := .v (.bl b)) (m := "bool") rfl (z := true) (by decide +kernel), isA_of (t := .v (.bl b)) (m := "bool") rfl (z := true) (by decide +kernel)]; rfl
    | int i => rw [isA_of (t := .v (.int i)) (m := "int") rfl (z := true) (by decide +kernel), isA_of (t := .v (.int i)) (m := "int") rfl (z := false) (by decide +kernel)]; rfl
    | str i => rw [isA_of (t := .v (.str i)) (m := "str") rfl (z := false) (by decide +kernel)]; rfl
    | _ => simp [tyN] at h
  | lst l => rw [isA_of (t := .lst l) (m := "list") rfl (z := false) (by decide +kernel)]; rfl
  | tup l => rw [isA_of (t := .tup l) (m := "tuple") rfl (z := false) (by decide +kernel)]; rfl
  | _ => simp [tyN] at h
theorem isA_tup {t : T} (h : (tyN t).isSome = true) : isA "tuple" t = isTupT t := by
  cases t with
  | v x =>
    cases x with
    | non => rw [isA_of (t := .v .non) (m := "NoneType") rfl (z := false) (by decide +kernel)]; rfl
    | bl b => rw [isA_of (t := .v (.bl b)) (m := "bool") rfl (z := false) (by decide +kernel)]; rfl
    | int i => rw [isA_of (t := .v (.int i)) (m := "int") rfl (z := false) (by decide +kernel)]; rfl
    | str i => rw [isA_of (t := .v (.str i)) (m := "str") rfl (z := false) (by decide +kernel)]; rfl
    | _ => simp [tyN] at h
  | lst l => rw [isA_of (t := .lst l) (m := "list") rfl (z := false) (by decide +kernel)]; rfl
  | tup l => rw [isA_of (t := .tup l) (m := "tuple") rfl (z := true) (by decide +kernel)]; rfl
  | _ => simp [tyN] at h
theorem isA_lst {t : T} (h : (tyN t).isSome = true) : isA "list" t = isLstT t := by
  cases t with
  | v x =>
    cases x with
    | non => rw [isA_of (t := .v .non) (m := "NoneType") rfl (z := false) (by decide +kernel)]; rfl
    | bl b => rw [isA_of (t := .v (.bl b)) (m := "bool") rfl (z := false) (by decide +kernel)]; rfl
    | int i => rw [isA_of (t := .v (.int i)) (m := "int") rfl (z := false) (by decide +kernel)]; rfl
    | str i => rw [isA_of (t := .v (.str i)) (m := "str") rfl (z := false) (by decide +kernel)]; rfl
    | _ => simp [tyN] at h
  | lst l => rw [isA_of (t := .lst l) (m := "list") rfl (z := true) (by decide +kernel)]; rfl
  | tup l => rw [isA_of (t := .tup l) (m := "tuple") rfl (z := false) (by decide +kernel)]; rfl
  | _ => simp [tyN] at h
/-- a def that looks at trees and gives a value, the store as it was -/
def Pure (n : Nat) (f : List T → Option T) : Rel := fun ts L r L' => ts.length = n ∧ ∃ u, f ts = some u ∧ r = .v u ∧ L' = L
def R_is_any : Rel := fun ts L r L' => ∃ t, ts = [t] ∧ (tyN t).isSome = true ∧ r = .v (B (isIntT t)) ∧ L' = L
def R_is_whole : Rel := fun ts L r L' => ∃ t lo hi, ts = [t, I lo, I hi] ∧ (tyN t).isSome = true ∧ r = .v (B (wholeT t lo hi)) ∧ L' = L
def laneB (m : Int) (l : Lane) : Bool := decide (1 ≤ l.a) && decide (l.a ≤ m) && (decide (1 ≤ l.b) && decide (l.b ≤ m)) && !decide (l.a = l.b) && (decide (1 ≤ l.r) && decide (l.r ≤ 6))
theorem laneB_ok {m : Int} {l : Lane} : laneB m l = true ↔ l.Ok m := by
  unfold laneB
  simp only [Bool.and_eq_true, decide_eq_true_eq, Bool.not_eq_true', decide_eq_false_iff_not]
  constructor
  · rintro ⟨⟨⟨⟨h1, h2⟩, h3, h4⟩, h5⟩, h6, h7⟩; exact ⟨h1, h2, h3, h4, h5, h6, h7⟩
  · rintro ⟨h1, h2, h3, h4, h5, h6, h7⟩; exact ⟨⟨⟨⟨h1, h2⟩, h3, h4⟩, h5⟩, h6, h7⟩
def pairB (m : Int) (p : Int × Int) : Bool := ((decide (1 ≤ p.1) && decide (p.1 ≤ m)) && (decide (1 ≤ p.2) && decide (p.2 ≤ m))) && decide (p.1 < p.2)
def R_is_street : Rel := fun ts L r L' => ∃ l m, ts = [tLane l, I m] ∧ r = .v (B (laneB m l)) ∧ L' = L
def R_is_pair : Rel := fun ts L r L' => ∃ p m, ts = [tPair p, I m] ∧ r = .v (B (pairB m p)) ∧ L' = L
def R_check_streets : Rel := fun ts L r L' => ∃ (ls : List Lane) (m : Int), ts = [.lst (ls.map tLane), I m] ∧ (∀ l ∈ ls, l.Ok m) ∧ ls.length ≤ 12 ∧ r = .v N0 ∧ L' = L
def R_check_broad : Rel := fun ts L r L' => ∃ (ps : List (Int × Int)) (m : Int), ts = [.lst (ps.map tPair), I m] ∧ PairsOk m ps ∧ r = .v N0 ∧ L' = L
def R_check_inns : Rel := fun ts L r L' => ∃ (ps : List Int) (m : Int), ts = [.lst (ps.map I), I m] ∧ InnsOk m ps ∧ r = .v N0 ∧ L' = L
def R_init (C : Addr) : Rel := fun ts L r L' => ∃ (n : Nat) (t : Tw) (b i : T), ts = [.cel n, I t.n, .lst (t.st.map tLane), b, i] ∧ PartsOk t ∧ (b = .lst (t.wd.map tPair) ∨ b = N0 ∧ t.wd = []) ∧ (i = .lst (t.bd.map I) ∨ i = N0 ∧ t.bd = []) ∧
  L n = some (.ins C [] []) ∧ r = .v N0 ∧ L' = updS L n (some (tTw C t.made))
def R_streets (C : Addr) : Rel := fun ts L r L' => ∃ (t : Tw), ts = [tTw C t] ∧ r = .n (.lst (t.st.map tLane)) ∧ L' = L
def R_broad (C : Addr) : Rel := fun ts L r L' => ∃ (t : Tw), ts = [tTw C t] ∧ r = .n (.lst (t.wd.map tPair)) ∧ L' = L
def R_inns (C : Addr) : Rel := fun ts L r L' => ∃ (t : Tw), ts = [tTw C t] ∧ r = .n (.lst (t.bd.map I)) ∧ L' = L
def R_count (C : Addr) : Rel := fun ts L r L' => ∃ (t : Tw), ts = [tTw C t] ∧ r = .v (I t.n) ∧ L' = L
def R_street_of (C : Addr) : Rel := fun ts L r L' => ∃ (t : Tw) (i : Int) (l : Lane), ts = [tTw C t, I i] ∧ 0 ≤ i ∧ t.st[i.toNat]? = some l ∧ t.st.length ≤ 12 ∧ r = .v (tLane l) ∧ L' = L
def turnsB (l : Lane) (d : Int) : Bool := decide ((d - l.n) % l.r = 0)
def R_turns_on (C : Addr) : Rel := fun ts L r L' => ∃ (t : Tw) (i : Int) (l : Lane) (d : Int), ts = [tTw C t, I i, I d] ∧ 0 ≤ i ∧ t.st[i.toNat]? = some l ∧ t.st.length ≤ 12 ∧ 0 < l.r ∧ r = .v (B (turnsB l d)) ∧ L' = L
/-! shapes -/
structure Sh (t : T) (d : PyData) (k : Nat) : Prop where
  e : pd t = some d
  c : d.canLay0 = true
  z : d.depth ≤ k
theorem Sh.shp {t : T} {d : PyData} {k : Nat} (h : Sh t d k) (hk : k ≤ 64 := by decide) : shp t = true := by
  unfold TL.shp
  rw [h.e]
  show (d.canLay0 && decide (d.depth ≤ 64)) = true
  rw [h.c, decide_eq_true (Nat.le_trans h.z hk)]; rfl
theorem Sh.eqT {t u : T} {d e : PyData} {k l : Nat} (h : Sh t d k) (g : Sh u e l) : eqT t u = PyData.eqv d e := by
  unfold TL.eqT
  rw [h.e, g.e]
theorem Sh.refl {t : T} {d : PyData} {k : Nat} (h : Sh t d k) : TL.eqT t t = true := by
  rw [h.eqT h]; exact SeqAt.eqv_refl d h.c
theorem sh_I (i : Int) : Sh (I i) (.int i) 0 := ⟨pd_I i, rfl, Nat.zero_le _⟩
theorem sh_B (b : Bool) : Sh (B b) (.bool b) 0 := ⟨by unfold pd pdV; rfl, rfl, Nat.zero_le _⟩
theorem sh_N : Sh N0 .none 0 := ⟨by unfold pd pdV; rfl, rfl, Nat.zero_le _⟩
/-- many -/
structure ShL (ts : List T) (ds : List PyData) (k : Nat) : Prop where
  e : pdL ts = some ds
  c : PyData.canLayAll0 ds = true
  z : PyData.depthAll ds ≤ k
theorem shl_nil {k : Nat} : ShL [] [] k := ⟨by unfold pdL; rfl, rfl, Nat.zero_le _⟩
theorem shl_cons {t : T} {ts : List T} {d : PyData} {ds : List PyData} {k l : Nat} (h : Sh t d l) (g : ShL ts ds k) (hk : l ≤ k := by decide) : ShL (t :: ts) (d :: ds) k := by
  refine ⟨by unfold pdL; rw [h.e, g.e], ?_, ?_⟩
  · show (d.canLay0 && PyData.canLayAll0 ds) = true
    rw [h.c, g.c]; rfl
  · show max d.depth (PyData.depthAll ds) ≤ k
    have := h.z; have := g.z; omega
theorem shl_map {α : Type} {f : α → T} {g : α → PyData} {k : Nat} (h : ∀ a, Sh (f a) (g a) k) : ∀ l : List α, ShL (l.map f) (l.map g) k
  | [] => shl_nil
  | a :: l => shl_cons (h a) (shl_map h l) (Nat.le_refl _)
theorem sh_tup {ts : List T} {ds : List PyData} {k : Nat} (h : ShL ts ds k) : Sh (.tup ts) (.tuple ds) (k + 1) := ⟨pd_tup h.e, h.c, Nat.succ_le_succ h.z⟩
theorem sh_lst {ts : List T} {ds : List PyData} {k : Nat} (h : ShL ts ds k) : Sh (.lst ts) (.list ds) (k + 1) := ⟨pd_lstL h.e, h.c, Nat.succ_le_succ h.z⟩
theorem sh_pair (p : Int × Int) : Sh (tPair p) (dPair p) 1 := sh_tup (shl_cons (sh_I _) (shl_cons (sh_I _) shl_nil))
theorem sh_lane (l : Lane) : Sh (tLane l) (dLane l) 1 := sh_tup (shl_cons (sh_I _) (shl_cons (sh_I _) (shl_cons (sh_I _) (shl_cons (sh_I _) shl_nil))))
theorem sh_pairs (ps : List (Int × Int)) : Sh (.lst (ps.map tPair)) (.list (ps.map dPair)) 2 := sh_lst (shl_map sh_pair ps)
theorem sh_ints (ps : List Int) : Sh (.lst (ps.map I)) (.list (ps.map .int)) 1 := sh_lst (shl_map sh_I ps)
theorem eqv_int (i j : Int) : PyData.eqv (.int i) (.int j) = decide (i = j) := by
  by_cases h : i = j
  · subst h; simp [PyData.eqv]
  · simp [PyData.eqv, h]
theorem eqT_I (i j : Int) : eqT (I i) (I j) = decide (i = j) := by rw [(sh_I i).eqT (sh_I j), eqv_int]
theorem eqT_pair (p q : Int × Int) : eqT (tPair p) (tPair q) = decide (p = q) := by
  rw [(sh_pair p).eqT (sh_pair q)]
  obtain ⟨p1, p2⟩ := p
  obtain ⟨q1, q2⟩ := q
  simp only [dPair, PyData.eqv, PyData.eqvAll, Bool.and_true, Prod.mk.injEq]
  by_cases h1 : p1 = q1 <;> by_cases h2 : p2 = q2 <;> simp [h1, h2]
theorem eqT_lane (p q : Lane) : eqT (tLane p) (tLane q) = decide (p = q) := by
  rw [(sh_lane p).eqT (sh_lane q)]
  obtain ⟨p1, p2, p3, p4⟩ := p
  obtain ⟨q1, q2, q3, q4⟩ := q
  simp only [dLane, PyData.eqv, PyData.eqvAll, Bool.and_true, Lane.mk.injEq]
  by_cases h1 : p1 = q1 <;> by_cases h2 : p2 = q2 <;> by_cases h3 : p3 = q3 <;> by_cases h4 : p4 = q4 <;> simp [h1, h2, h3, h4]
theorem eqvAll_map {α : Type} [DecidableEq α] {g : α → PyData} (h : ∀ a b, PyData.eqv (g a) (g b) = decide (a = b)) : ∀ l m : List α, PyData.eqvAll (l.map g) (m.map g) = decide (l = m)
  | [], [] => by simp [PyData.eqvAll]
  | [], _ :: _ => by simp [PyData.eqvAll]
  | _ :: _, [] => by simp [PyData.eqvAll]
  | a :: l, b :: m => by
    rw [List.map_cons, List.map_cons, PyData.eqvAll, h, eqvAll_map h l m]
    by_cases h1 : a = b <;> by_cases h2 : l = m <;> simp [h1, h2]
theorem inT_map {α : Type} [DecidableEq α] {f : α → T} (h : ∀ a b, eqT (f a) (f b) = decide (a = b)) (a : α) (l : List α) : inT (f a) (.lst (l.map f)) = decide (a ∈ l) := by
  show (l.map f).any (fun y => eqT y (f a)) = _
  rw [List.any_map]
  induction l with
  | nil => simp
  | cons b l ih =>
    rw [List.any_cons, ih]
    simp only [Function.comp, h]
    by_cases e : b = a
    · simp [e]
    · simp [e, Ne.symm e]
/-- the first items are left out of those behind -/
theorem not_in_take {α : Type} {l : List α} {n : Nat} {a : α} (hn : l.Nodup) (h : l[n]? = some a) : a ∉ l.take n := by
  intro hm
  obtain ⟨i, hi, e⟩ := List.mem_iff_getElem.mp hm
  rw [List.getElem_take] at e
  obtain ⟨hl, e2⟩ := List.getElem?_eq_some_iff.mp h
  rw [List.length_take] at hi
  have := (List.getElem_inj hn).mp (e.trans e2.symm)
  omega
theorem cutT_map {α β : Type} (f : α → β) (l : List α) (lo hi : Option Int) : cutT (l.map f) lo hi = (cutT l lo hi).map f := by
  unfold cutT
  rw [List.length_map, ← List.map_drop, ← List.map_take]
theorem atI_map {α β : Type} {f : α → β} {l : List α} {i : Int} {a : α} (h0 : 0 ≤ i) (h : l[i.toNat]? = some a) : atI (l.map f) i = some (f a) := by
  obtain ⟨n, rfl⟩ := Int.eq_ofNat_of_zero_le h0
  rw [Int.toNat_natCast] at h
  have hlt := (List.getElem?_eq_some_iff.mp h).1
  unfold atI
  have e : ixN (l.map f).length (n : Int) = some n := by
    unfold ixN
    rw [List.length_map, if_pos (by omega), if_pos (by omega)]
    simp
  rw [e]
  show (l.map f)[n]? = _
  rw [List.getElem?_map, h]; rfl
theorem cutT_take {α : Type} {l : List α} {n : Nat} (h : n ≤ l.length) : cutT l none (some (n : Int)) = l.take n := by
  unfold cutT
  rw [HT.sIx_none, HT.sIx_nat]
  simp [Nat.min_eq_left h]
/-- a def that writes a cell of its caller -/
theorem exit_upd {L L1 : Store} {r : R} {n : Nat} {t0 t : T} (h : L n = some t0) (e : L1 = updS L n (some t)) : Exit L r L1 r (updS L n (some t)) := by
  subst e
  refine ⟨fun m u hm => ⟨hm, ?_⟩, .inl rfl⟩
  by_cases hmn : m = n
  · rw [hmn]; exact ⟨t0, h⟩
  · rw [updS_ne hmn] at hm; exact ⟨u, hm⟩
end TL


/-! Home nights: what the defs promise, and the numbers behind. -/
namespace TL
open PySem PySem.Spec PyProof.Rows L2
theorem least_of {p : Nat → Prop} (h : ∃ n, p n) : ∃ n, p n ∧ ∀ m, m < n → ¬ p m := by
  obtain ⟨n, hn⟩ := h
  induction n using Nat.strongRecOn with
  | ind n ih =>
    by_cases q : ∃ m, m < n ∧ p m
    · obtain ⟨m, h1, h2⟩ := q; exact ih m h1 h2
    · exact ⟨n, hn, fun m h1 h2 => q ⟨m, h1, h2⟩⟩
def R_common_part : Rel := fun ts L r L' => ∃ a b : Nat, ts = [I a, I b] ∧ r = .v (I (Nat.gcd a b)) ∧ L' = L
def nvB (h l : Lane) : Bool := !decide ((h.n - l.n) % ((Nat.gcd h.r.toNat l.r.toNat : Nat) : Int) = 0)
def L00 : Lane := ⟨1, 2, 1, 0⟩
def tornB (st : List Lane) (i j : Nat) : Bool := nvB (st.getD i L00) (st.getD j L00)
def FirstO (b : Nat → Nat → Bool) (n : Nat) : Option (Nat × Nat) → Prop
  | none => ∀ i j, i < j → j < n → b i j = false
  | some (i, j) => i < j ∧ j < n ∧ b i j = true ∧ (∀ k, i < k → k < j → b i k = false) ∧ (∀ k m, k < i → k < m → m < n → b k m = false)
theorem firstO_ex (b : Nat → Nat → Bool) (n : Nat) : ∃ o, FirstO b n o := by
  by_cases h : ∃ i, ∃ j, i < j ∧ j < n ∧ b i j = true
  · obtain ⟨i, h1, h2⟩ := least_of h
    obtain ⟨j, ⟨h3, h4, h5⟩, h6⟩ := least_of h1
    refine ⟨some (i, j), h3, h4, h5, fun k k1 k2 => ?_, fun k m k1 k2 k3 => ?_⟩
    · cases e : b i k with
      | false => rfl
      | true => exact absurd ⟨k1, by omega, e⟩ (h6 k k2)
    · cases e : b k m with
      | false => rfl
      | true => exact absurd ⟨m, k2, k3, e⟩ (h2 k k1)
  · refine ⟨none, fun i j h1 h2 => ?_⟩
    cases e : b i j with
    | false => rfl
    | true => exact absurd ⟨i, j, h1, h2, e⟩ h
theorem firstO_uniq {b : Nat → Nat → Bool} {n : Nat} : ∀ {o o' : Option (Nat × Nat)}, FirstO b n o → FirstO b n o' → o = o'
  | none, none, _, _ => rfl
  | none, some (i, j), h, ⟨h1, h2, h3, _⟩ => by rw [h i j h1 h2] at h3; cases h3
  | some (i, j), none, ⟨h1, h2, h3, _⟩, h => by rw [h i j h1 h2] at h3; cases h3
  | some (i, j), some (k, m), ⟨a1, a2, a3, a4, a5⟩, ⟨b1, b2, b3, b4, b5⟩ => by
    have e1 : i = k := by
      rcases Nat.lt_trichotomy i k with h | h | h
      · rw [b5 i j h a1 a2] at a3; cases a3
      · exact h
      · rw [a5 k m h b1 b2] at b3; cases b3
    subst e1
    have e2 : j = m := by
      rcases Nat.lt_trichotomy j m with h | h | h
      · rw [b4 j a1 h] at a3; cases a3
      · exact h
      · rw [a4 m b1 h] at b3; cases b3
    rw [e2]
theorem firstO_congr {b c : Nat → Nat → Bool} {n : Nat} (h : ∀ i j, i < j → j < n → b i j = c i j) : ∀ {o : Option (Nat × Nat)}, FirstO b n o → FirstO c n o
  | none, f => fun i j h1 h2 => by rw [← h i j h1 h2]; exact f i j h1 h2
  | some (i, j), ⟨a1, a2, a3, a4, a5⟩ => ⟨a1, a2, by rw [← h i j a1 a2]; exact a3, fun k k1 k2 => by rw [← h i k k1 (by omega)]; exact a4 k k1 k2, fun k m k1 k2 k3 => by rw [← h k m k2 k3]; exact a5 k m k1 k2 k3⟩
def tO : Option (Nat × Nat) → T
  | none => N0
  | some (i, j) => .tup [I i, I j]
def StOk (st : List Lane) : Prop := st.length ≤ 12 ∧ ∀ l ∈ st, 1 ≤ l.r ∧ l.r ≤ 6
/-- the least number that all rhythms part -/
def lcmL (st : List Lane) : Nat := st.foldl (fun f l => Nat.lcm f l.r.toNat) 1
theorem foldl_lcm_dvd : ∀ (st : List Lane) (f : Nat), f ∣ st.foldl (fun f l => Nat.lcm f l.r.toNat) f
  | [], f => Nat.dvd_refl f
  | l :: st, f => Nat.dvd_trans (Nat.dvd_lcm_left f _) (foldl_lcm_dvd st _)
theorem foldl_lcm_mem : ∀ (st : List Lane) (f : Nat) (l : Lane), l ∈ st → l.r.toNat ∣ st.foldl (fun f l => Nat.lcm f l.r.toNat) f
  | m :: st, f, l, h => by
    rcases List.mem_cons.mp h with rfl | h
    · exact Nat.dvd_trans (Nat.dvd_lcm_right f _) (foldl_lcm_dvd st _)
    · exact foldl_lcm_mem st _ l h
theorem foldl_lcm_least : ∀ (st : List Lane) (f m : Nat), f ∣ m → (∀ l ∈ st, l.r.toNat ∣ m) → st.foldl (fun f l => Nat.lcm f l.r.toNat) f ∣ m
  | [], f, m, h, _ => h
  | l :: st, f, m, h, h2 => foldl_lcm_least st _ m (Nat.lcm_dvd h (h2 l List.mem_cons_self)) fun x hx => h2 x (List.mem_cons_of_mem _ hx)
theorem lcmL_mem {st : List Lane} {l : Lane} (h : l ∈ st) : l.r.toNat ∣ lcmL st := foldl_lcm_mem st 1 l h
theorem lcmL_least {st : List Lane} {m : Nat} (h : ∀ l ∈ st, l.r.toNat ∣ m) : lcmL st ∣ m := foldl_lcm_least st 1 m (Nat.one_dvd m) h
theorem r_60 {r : Int} (h1 : 1 ≤ r) (h2 : r ≤ 6) : r.toNat ∣ 60 := by
  have : r.toNat = 1 ∨ r.toNat = 2 ∨ r.toNat = 3 ∨ r.toNat = 4 ∨ r.toNat = 5 ∨ r.toNat = 6 := by omega
  rcases this with h | h | h | h | h | h <;> rw [h] <;> decide
theorem lcmL_60 {st : List Lane} (h : StOk st) : lcmL st ∣ 60 := lcmL_least fun l hl => r_60 (h.2 l hl).1 (h.2 l hl).2
theorem lcmL_pos {st : List Lane} (h : StOk st) : 0 < lcmL st := Nat.pos_of_dvd_of_pos (lcmL_60 h) (by decide)
theorem lcmL_le {st : List Lane} (h : StOk st) : lcmL st ≤ 60 := Nat.le_of_dvd (by decide) (lcmL_60 h)
theorem lcmL_snoc (st : List Lane) (l : Lane) : lcmL (st ++ [l]) = Nat.lcm (lcmL st) l.r.toNat := by
  unfold lcmL; rw [List.foldl_append]; rfl
def R_least_common (C : Addr) : Rel := fun ts L r L' => ∃ t : Tw, ts = [tTw C t] ∧ StOk t.st ∧ r = .v (I (lcmL t.st)) ∧ L' = L
def R_never_both (C : Addr) : Rel := fun ts L r L' => ∃ (t : Tw) (i j : Nat) (h l : Lane), ts = [tTw C t, I i, I j] ∧ StOk t.st ∧ t.st[i]? = some h ∧ t.st[j]? = some l ∧ r = .v (B (nvB h l)) ∧ L' = L
def R_torn_pair (C : Addr) : Rel := fun ts L r L' => ∃ (t : Tw) (o : Option (Nat × Nat)), ts = [tTw C t] ∧ StOk t.st ∧ FirstO (tornB t.st) t.st.length o ∧ r = .v (tO o) ∧ L' = L
def homeB (st : List Lane) (d : Int) : Bool := st.all fun l => turnsB l d
def R_is_home (C : Addr) : Rel := fun ts L r L' => ∃ (t : Tw) (d : Int), ts = [tTw C t, I d] ∧ StOk t.st ∧ r = .v (B (homeB t.st d)) ∧ L' = L
def homesL (st : List Lane) : List Int := (rangeT 0 (lcmL st)).filter (homeB st)
def R_home (C : Addr) : Rel := fun ts L r L' => ∃ (t : Tw) (o : Option (Nat × Nat)), ts = [tTw C t] ∧ StOk t.st ∧ FirstO (tornB t.st) t.st.length o ∧ L' = L ∧
  match o with
  | some (i, j) => r = .v (.tup [S "never", I i, I j])
  | none => ∃ d ds, homesL t.st = d :: ds ∧ r = .v (.tup [S "nights", I d, I (lcmL t.st)])
def atB (st : List Lane) (g : Lane → Bool) (i : Int) : Bool := match st[i.toNat]? with
  | some l => g l
  | none => true
theorem atB_all {st : List Lane} (g : Lane → Bool) : ((rangeT 0 st.length).all (atB st g)) = st.all g := by
  unfold rangeT atB
  rw [List.all_map]
  apply Bool.eq_iff_iff.mpr
  rw [List.all_eq_true, List.all_eq_true]
  constructor
  · intro h l hl
    obtain ⟨i, hi, e⟩ := List.mem_iff_getElem.mp hl
    have := h i (List.mem_range.mpr hi)
    simpa [List.getElem?_eq_getElem hi, e] using this
  · intro h i hi
    have hi := List.mem_range.mp hi
    simpa [List.getElem?_eq_getElem hi] using h _ (List.getElem_mem hi)
theorem rangeT_get' {lo : Int} {n i : Nat} {x : T} (h : ((rangeT lo n).map I)[i]? = some x) : i < n ∧ x = I (lo + i) := by
  rw [List.getElem?_map] at h
  cases q : (rangeT lo n)[i]? with
  | none => rw [q] at h; cases h
  | some y =>
    rw [q] at h
    obtain ⟨h1, h2⟩ := rangeT_get q
    exact ⟨h1, by rw [← h2]; exact (Option.some.inj h).symm⟩
theorem len_range {lo : Int} {n : Nat} : ((rangeT lo n).map I).length = n := by rw [List.length_map, length_rangeT]
end TL


/-! The laws' wells: numbers drawn of a cell of the script. -/
namespace TL
open PySem PySem.Spec PyProof.Rows L2
structure W3 where
  a : Int
  c : Int
  k : Int
abbrev tW (w : W3) : T := .lst [I w.a, I w.c, I w.k]
structure W3.Ok (w : W3) (b : Nat) : Prop where
  a : 0 ≤ w.a
  k : 0 ≤ w.k
  b : w.k ≤ b
def num1 (w : W3) : Int := (w.c % 2147483629 + 7919 * (w.k + 1) + w.c / 2147483629 % 65521 + 1) ^ 5 % 2147483647
def num2 (w : W3) : Int := num1 w * (num1 w / 1009 + 69621 + (w.k + 1)) % 2147483629
def num3 (w : W3) : Int := num2 w * (num2 w / 2003 + 40692) % 2147483399
def drV (w : W3) (s : Int) : Int := if 0 < w.a then w.a % s else num3 w % s
def drW (w : W3) (s : Int) : W3 := if 0 < w.a then ⟨w.a / s, w.c, w.k⟩ else ⟨w.a, w.c, w.k + 1⟩
theorem drV_ge {w : W3} {s : Int} (h : 0 < s) : 0 ≤ drV w s := by
  unfold drV; split <;> exact Int.emod_nonneg _ (by omega)
theorem drV_lt {w : W3} {s : Int} (h : 0 < s) : drV w s < s := by
  unfold drV; split <;> exact Int.emod_lt_of_pos _ h
theorem drW_ok {w : W3} {s : Int} {b : Nat} (h : w.Ok b) (hs : 0 < s) : (drW w s).Ok (b + 1) := by
  obtain ⟨h1, h2, h3⟩ := h
  unfold drW; split
  · exact ⟨Int.ediv_nonneg h1 (by omega), h2, by show w.k ≤ _; omega⟩
  · exact ⟨h1, by show 0 ≤ w.k + 1; omega, by show w.k + 1 ≤ _; omega⟩
theorem W3.Ok.mono {w : W3} {b c : Nat} (h : w.Ok b) (hb : b ≤ c) : w.Ok c := ⟨h.a, h.k, by have := h.b; omega⟩
def R_draw : Rel := fun ts L r L' => ∃ (n : Nat) (w : W3) (s : Int) (b : Nat), ts = [.cel n, I s] ∧ L n = some (tW w) ∧ w.Ok b ∧ b < 1000000 ∧ 0 < s ∧ s < 1000000 ∧ r = .v (I (drV w s)) ∧ L' = updS L n (some (tW (drW w s)))
def oneV (w : W3) (xs : List T) : T := xs.getD (drV w xs.length).toNat N0
def R_one : Rel := fun ts L r L' => ∃ (n : Nat) (w : W3) (xs : List T) (b : Nat), ts = [.cel n, .lst xs] ∧ L n = some (tW w) ∧ w.Ok b ∧ b < 1000000 ∧ 0 < xs.length ∧ xs.length < 1000 ∧ r = .v (oneV w xs) ∧ L' = updS L n (some (tW (drW w xs.length)))
def well0 (c : Int) : W3 := ⟨if 10 ^ 18 ≤ c then c else 0, c, 0⟩
theorem well0_ok (c : Int) : (well0 c).Ok 0 := by
  refine ⟨?_, Int.le_refl _, Int.le_refl _⟩
  show 0 ≤ (if (10 : Int) ^ 18 ≤ c then c else 0)
  split <;> omega
def R_well : Rel := fun ts L r L' => ∃ c : Int, ts = [I c] ∧ r = .n (tW (well0 c)) ∧ L' = L
def oneI (w : W3) (xs : List Int) : Int := xs.getD (drV w xs.length).toNat 0
theorem one_lt {w : W3} {n : Nat} (h : 0 < n) : (drV w n).toNat < n := by
  have h1 := drV_ge (w := w) (s := (n : Int)) (by omega)
  have h2 := drV_lt (w := w) (s := (n : Int)) (by omega)
  omega
theorem oneV_I {w : W3} {xs : List Int} (h : 0 < xs.length) : oneV w (xs.map I) = I (oneI w xs) := by
  unfold oneV oneI
  rw [List.length_map]
  have h1 := one_lt (w := w) h
  rw [List.getD_eq_getElem?_getD, List.getD_eq_getElem?_getD, List.getElem?_map, List.getElem?_eq_getElem h1]
  rfl
theorem oneI_mem {w : W3} {xs : List Int} (h : 0 < xs.length) : oneI w xs ∈ xs := by
  unfold oneI
  have h1 := one_lt (w := w) h
  rw [List.getD_eq_getElem?_getD, List.getElem?_eq_getElem h1]
  exact List.getElem_mem h1
/-- streets -/
def fars : List Int := [0, 0, 1, -1, 7, -10 ^ 57]
def lane1 (m : Int) (rh : List Int) (once : Bool) (base : Int) (w : W3) : Lane × W3 :=
  let w1 := drW w m
  let w2 := drW w1 (m - 1)
  let w3 := drW w2 rh.length
  let w4 := drW w3 (fars.length : Int)
  (⟨1 + drV w m, (1 + drV w m + drV w1 (m - 1)) % m + 1, oneI w2 rh, (if once = true then base else drV w4 60) + oneI w2 rh * oneI w3 fars⟩, drW w4 60)
def lanesF (m : Int) (rh : List Int) (once : Bool) (base : Int) (w : W3) : Nat → List Lane × W3
  | 0 => ([], w)
  | k + 1 => ((lanesF m rh once base w k).1 ++ [(lane1 m rh once base (lanesF m rh once base w k).2).1], (lane1 m rh once base (lanesF m rh once base w k).2).2)
def stsN (m most : Int) (w : W3) : Nat := (drV (drW w 60) (most + 1) * (if (decide (1 < m)) = true then 1 else 0)).toNat
def stsF (m most : Int) (rh : List Int) (once : Bool) (w : W3) : List Lane × W3 := lanesF m rh once (drV w 60) (drW (drW w 60) (most + 1)) (stsN m most w)
def RhOk (rh : List Int) : Prop := 0 < rh.length ∧ rh.length ≤ 6 ∧ ∀ r ∈ rh, 1 ≤ r ∧ r ≤ 6
theorem lane1_ok {m : Int} {rh : List Int} {once : Bool} {base : Int} {w : W3} (h2 : 2 ≤ m) (hr : RhOk rh) : (lane1 m rh once base w).1.Ok m := by
  have a1 := drV_ge (w := w) (s := m) (by omega)
  have a2 := drV_lt (w := w) (s := m) (by omega)
  have b1 := drV_ge (w := drW w m) (s := m - 1) (by omega)
  have b2 := drV_lt (w := drW w m) (s := m - 1) (by omega)
  have r1 := hr.2.2 _ (oneI_mem (w := drW (drW w m) (m - 1)) hr.1)
  have e1 := Int.emod_nonneg (1 + drV w m + drV (drW w m) (m - 1)) (b := m) (by omega)
  have e2 := Int.emod_lt_of_pos (1 + drV w m + drV (drW w m) (m - 1)) (b := m) (by omega)
  refine ⟨by show 1 ≤ 1 + drV w m; omega, by show 1 + drV w m ≤ m; omega, by show 1 ≤ _ % m + 1; omega, by show _ % m + 1 ≤ m; omega, ?_, r1.1, r1.2⟩
  show 1 + drV w m ≠ (1 + drV w m + drV (drW w m) (m - 1)) % m + 1
  intro h
  generalize drV w m = x at *
  generalize drV (drW w m) (m - 1) = y at *
  by_cases hc : 1 + x + y < m
  · rw [Int.emod_eq_of_lt (by omega) hc] at h; omega
  · have e3 : (1 + x + y) % m = 1 + x + y - m := by
      rw [← Int.sub_emod_right, Int.emod_eq_of_lt (by omega) (by omega)]
    rw [e3] at h; omega
theorem lane1_w {m : Int} {rh : List Int} {once : Bool} {base : Int} {w : W3} {b : Nat} (h2 : 2 ≤ m) (hr : RhOk rh) (hw : w.Ok b) : (lane1 m rh once base w).2.Ok (b + 5) := by
  have h0 := hr.1
  exact drW_ok (drW_ok (drW_ok (drW_ok (drW_ok hw (by omega)) (by omega)) (by omega)) (by decide)) (by decide)
theorem lanesF_ok {m : Int} {rh : List Int} {once : Bool} {base : Int} {w : W3} {b : Nat} (h2 : 2 ≤ m) (hr : RhOk rh) (hw : w.Ok b) : ∀ k : Nat, (∀ l ∈ (lanesF m rh once base w k).1, l.Ok m) ∧ (lanesF m rh once base w k).1.length = k ∧ (lanesF m rh once base w k).2.Ok (b + 5 * k)
  | 0 => ⟨fun l hl => (nomatch hl), rfl, hw⟩
  | k + 1 => by
    obtain ⟨h3, h4, h5⟩ := lanesF_ok (once := once) (base := base) h2 hr hw k
    refine ⟨fun l hl => ?_, ?_, ?_⟩
    · rcases List.mem_append.mp hl with hl | hl
      · exact h3 l hl
      · rw [List.mem_singleton.mp hl]; exact lane1_ok h2 hr
    · show ((lanesF m rh once base w k).1 ++ [_]).length = k + 1
      rw [List.length_append, h4]; rfl
    · exact (lane1_w (once := once) (base := base) h2 hr h5).mono (by omega)
theorem stsN_le {m most : Int} {w : W3} (h : 0 ≤ most) : stsN m most w ≤ most.toNat := by
  have a1 := drV_ge (w := drW w 60) (s := most + 1) (by omega)
  have a2 := drV_lt (w := drW w 60) (s := most + 1) (by omega)
  unfold stsN
  split <;> simp <;> omega
theorem stsF_ok {m most : Int} {rh : List Int} {once : Bool} {w : W3} {b : Nat} (hm : 1 ≤ m) (h0 : 0 ≤ most) (h12 : most ≤ 12) (hr : RhOk rh) (hw : w.Ok b) : (∀ l ∈ (stsF m most rh once w).1, l.Ok m) ∧ (stsF m most rh once w).1.length ≤ 12 ∧ (stsF m most rh once w).2.Ok (b + 62) := by
  have w2 := drW_ok (drW_ok hw (s := 60) (by decide)) (s := most + 1) (by omega)
  unfold stsF
  have hn := stsN_le (m := m) (w := w) h0
  by_cases h : 1 < m
  · obtain ⟨h1, h2, h3⟩ := lanesF_ok (once := once) (base := drV w 60) (m := m) (by omega) hr w2 (stsN m most w)
    exact ⟨h1, by rw [h2]; omega, h3.mono (by omega)⟩
  · have e : stsN m most w = 0 := by unfold stsN; simp [h]
    rw [e]
    exact ⟨fun l hl => (nomatch hl), Nat.zero_le _, W3.Ok.mono w2 (by omega)⟩
def R_sts : Rel := fun ts L r L' => ∃ (n : Nat) (w : W3) (b : Nat) (m most : Int) (rh : List Int) (once : Bool), ts = [.cel n, I m, I most, .lst (rh.map I), B once] ∧ L n = some (tW w) ∧ w.Ok b ∧ b < 900000 ∧ 1 ≤ m ∧ m ≤ 8 ∧ 0 ≤ most ∧ most ≤ 12 ∧ RhOk rh ∧
  r = .n (.lst ((stsF m most rh once w).1.map tLane)) ∧ L' = updS L n (some (tW (stsF m most rh once w).2))
/-- each kept where a drawn number is 0 -/
def drN (w : W3) (s : Int) : Nat → W3
  | 0 => w
  | k + 1 => drW (drN w s k) s
theorem drN_ok {w : W3} {s : Int} {b : Nat} (h : w.Ok b) (hs : 0 < s) : ∀ k : Nat, (drN w s k).Ok (b + k)
  | 0 => h
  | k + 1 => drW_ok (drN_ok h hs k) hs
def pickN {α : Type} (xs : List α) (s : Int) (w : W3) : Nat → List α
  | 0 => []
  | k + 1 => pickN xs s w k ++ (match xs[k]? with | some x => if drV (drN w s k) s = 0 then [x] else [] | none => [])
def pickL {α : Type} (xs : List α) (s : Int) (w : W3) : List α := pickN xs s w xs.length
theorem pick_made {α : Type} (xs : List α) (f : α → T) (s : Int) (w : W3) : ∀ n : Nat, made (fun i => decide (drV (drN w s i) s = 0)) (fun i => match xs[i]? with | some x => f x | none => N0) n = (pickN xs s w n).map f ∨ xs.length < n
  | 0 => .inl rfl
  | n + 1 => by
    by_cases hn : xs.length < n + 1
    · exact .inr hn
    · left
      have hx : xs[n]? = some xs[n] := List.getElem?_eq_getElem (by omega)
      have ih := (pick_made xs f s w n).resolve_right (by omega)
      by_cases h : drV (drN w s n) s = 0
      · rw [made_yes (by simp [h]), ih]
        simp [pickN, hx, h]
      · rw [made_no (by simp [h]), ih]
        simp [pickN, hx, h]
theorem pickN_sub {α : Type} (xs : List α) (s : Int) (w : W3) : ∀ n : Nat, (pickN xs s w n).Sublist (xs.take n)
  | 0 => List.Sublist.slnil.trans (List.nil_sublist _)
  | n + 1 => by
    rw [List.take_add_one]
    refine List.Sublist.append (pickN_sub xs s w n) ?_
    cases h : xs[n]? with
    | none => exact List.nil_sublist _
    | some x =>
      show (if _ then _ else _ : List α).Sublist _
      split
      · exact List.Sublist.refl _
      · exact List.nil_sublist _
theorem pickL_sub {α : Type} (xs : List α) (s : Int) (w : W3) : (pickL xs s w).Sublist xs := by
  have := pickN_sub xs s w xs.length
  rwa [List.take_length] at this
def pairsTo (m : Nat) : List (Int × Int) := (rangeT 2 m).flatMap fun q => (rangeT 1 (q - 1).toNat).map fun p => (p, q)
theorem pairsTo_succ (m : Nat) : pairsTo (m + 1) = pairsTo m ++ (rangeT 1 (m + 1)).map fun p => (p, (2 + m : Int)) := by
  unfold pairsTo
  have e : rangeT 2 (m + 1) = rangeT 2 m ++ [(2 + m : Int)] := by
    unfold rangeT; rw [List.range_succ, List.map_append]; rfl
  rw [e, List.flatMap_append]
  congr 1
  show (rangeT 1 (2 + (m : Int) - 1).toNat).map _ ++ [] = _
  rw [List.append_nil]
  congr 2
  omega
theorem pairsTo_mem {m : Nat} {p : Int × Int} (h : p ∈ pairsTo m) : 1 ≤ p.1 ∧ p.1 < p.2 ∧ p.2 ≤ m + 1 := by
  unfold pairsTo at h
  obtain ⟨q, h1, h2⟩ := List.mem_flatMap.mp h
  obtain ⟨x, h3, rfl⟩ := List.mem_map.mp h2
  have := mem_rangeT.mp h1
  have := mem_rangeT.mp h3
  exact ⟨by show 1 ≤ x; omega, by show x < q; omega, by show q ≤ _; omega⟩
theorem rangeT_nodup (lo : Int) (n : Nat) : (rangeT lo n).Nodup := by
  show List.Pairwise (· ≠ ·) ((List.range n).map _)
  rw [List.pairwise_map]
  exact (List.nodup_range (n := n)).imp fun {a b} h e => h (by omega)
theorem pairsTo_nodup : ∀ m : Nat, (pairsTo m).Nodup
  | 0 => List.nodup_nil
  | m + 1 => by
    rw [pairsTo_succ]
    refine List.nodup_append.mpr ⟨pairsTo_nodup m, ?_, ?_⟩
    · show List.Pairwise (· ≠ ·) ((rangeT 1 (m + 1)).map _)
      rw [List.pairwise_map]
      exact (rangeT_nodup 1 (m + 1)).imp fun {a b} h e => h (Prod.mk.inj e).1
    · intro a ha b hb e
      have h1 := pairsTo_mem ha
      obtain ⟨x, _, rfl⟩ := List.mem_map.mp hb
      rw [e] at h1
      have : (2 + (m : Int)) ≤ m + 1 := h1.2.2
      omega
theorem pairsTo_len {m : Nat} (h : m ≤ 7) : (pairsTo m).length ≤ 28 := by
  have : m = 0 ∨ m = 1 ∨ m = 2 ∨ m = 3 ∨ m = 4 ∨ m = 5 ∨ m = 6 ∨ m = 7 := by omega
  rcases this with h | h | h | h | h | h | h | h <;> subst h <;> decide +kernel
def tParts (t : Tw) : T := .tup [I t.n, .lst (t.st.map tLane), .lst (t.wd.map tPair), .lst (t.bd.map I)]
def oftens : List Int := [2, 5, 9]
/-- the parts of a town -/
def partsF (m most : Int) (rh : List Int) (w : W3) : Tw × W3 :=
  let q := stsF m most rh (decide (0 < drV w 4)) (drW w 4)
  let s := oneI q.2 oftens
  let w3 := drW q.2 (oftens.length : Int)
  let ps := pairsTo (m - 1).toNat
  let w4 := drN w3 (2 * s) ps.length
  (⟨m, q.1, pickL ps (2 * s) w3, pickL (rangeT 1 m.toNat) s w4⟩, drN w4 s m.toNat)
theorem oneI_oftens (w : W3) : oneI w oftens = 2 ∨ oneI w oftens = 5 ∨ oneI w oftens = 9 := by
  have := oneI_mem (w := w) (xs := oftens) (by decide)
  simpa [oftens] using this
theorem partsF_ok {m most : Int} {rh : List Int} {w : W3} {b : Nat} (h1 : 1 ≤ m) (h8 : m ≤ 8) (h0 : 0 ≤ most) (h12 : most ≤ 12) (hr : RhOk rh) (hw : w.Ok b) : PartsOk (partsF m most rh w).1 ∧ (partsF m most rh w).1.n = m ∧ (partsF m most rh w).2.Ok (b + 100) := by
  obtain ⟨s1, s2, s3⟩ := stsF_ok (m := m) (most := most) (rh := rh) (once := decide (0 < drV w 4)) h1 h0 h12 hr (drW_ok hw (s := 4) (by decide))
  have hl := pairsTo_len (m := (m - 1).toNat) (by omega)
  refine ⟨⟨h1, h8, s1, s2, ⟨fun p hp => ?_, (pairsTo_nodup _).sublist (pickL_sub _ _ _)⟩, ⟨fun p hp => ?_, (rangeT_nodup _ _).sublist (pickL_sub _ _ _)⟩⟩, rfl, ?_⟩
  · obtain ⟨a1, a2, a3⟩ := pairsTo_mem ((pickL_sub _ _ _).subset hp)
    exact ⟨a1, by show p.1 ≤ m; omega, by omega, by show p.2 ≤ m; omega, a2⟩
  · have := mem_rangeT.mp ((pickL_sub _ _ _).subset hp)
    exact ⟨this.1, by show p ≤ m; omega⟩
  · have ho := oneI_oftens (stsF m most rh (decide (0 < drV w 4)) (drW w 4)).2
    have hs : 0 < oneI (stsF m most rh (decide (0 < drV w 4)) (drW w 4)).2 oftens := by omega
    refine W3.Ok.mono (drN_ok (drN_ok (drW_ok s3 (by decide)) (by omega) _) hs _) ?_
    omega
def R_parts : Rel := fun ts L r L' => ∃ (n : Nat) (w : W3) (b : Nat) (m most : Int) (rh : List Int), ts = [.cel n, I m, I most, .lst (rh.map I)] ∧ L n = some (tW w) ∧ w.Ok b ∧ b < 800000 ∧ 1 ≤ m ∧ m ≤ 8 ∧ 0 ≤ most ∧ most ≤ 12 ∧ RhOk rh ∧
  r = .v (tParts (partsF m most rh w).1) ∧ L' = updS L n (some (tW (partsF m most rh w).2))
def R_made (C : Addr) : Rel := fun ts L r L' => ∃ t : Tw, ts = [tParts t] ∧ PartsOk t ∧ r = .n (tTw C t.made) ∧ L' = L
theorem updS_comm {L : Store} {n m : Nat} {x y : Option T} (h : n ≠ m) : updS (updS L n x) m y = updS (updS L m y) n x := by
  funext i
  unfold updS
  by_cases h1 : i = m
  · rw [if_pos h1, if_neg (fun e => h (e.symm.trans h1)), if_pos h1]
  · rw [if_neg h1]
    by_cases h2 : i = n
    · rw [if_pos h2, if_pos h2]
    · rw [if_neg h2, if_neg h2, if_neg h1]
/-- a def that makes a list as a cell, and writes a cell of its caller -/
theorem exit_cellU {L L1 : Store} {n c : Nat} {t0 F W : T} (hn : L n = some t0) (hc : L c = none) (e : L1 = updS (updS L c (some F)) n (some W)) : Exit L (.v (.cel c)) L1 (.n F) (updS L n (some W)) := by
  subst e
  have hne : n ≠ c := ne_of_live hn hc
  refine ⟨fun m u hm => ?_, .inr ⟨c, F, rfl, rfl, hc, by rw [updS_ne hne.symm, updS_same]⟩⟩
  by_cases hmn : m = n
  · rw [hmn] at hm ⊢
    rw [updS_same] at hm ⊢
    exact ⟨hm, _, hn⟩
  · rw [updS_ne hmn] at hm ⊢
    rw [updS_ne (ne_of_live hm hc)]
    exact ⟨hm, _, hm⟩
/-! comprehensions whose turns write the store -/
section
variable {CX : CXT} {P : Program} {w : World} {K : PySem.W.Frag} {mg : Str → Option Value} {base : Heap} {k : Nat} {N : List Str} {sc : Scope} {fs : Str → Bool} {X : Cx}
variable {tg iter elt : Expr} {ifs : List Expr} {ρ : TEnv} {L : Store} {pos : Pos} {x : Str}
theorem lcS {scope : Scope} {vs js : List Nat} {α : Type} {xs : List α} {f : α → T} {Lf : Nat → Store} {pf : Nat → Bool} {gf : α → T} {ρf : α → TEnv} (ct : Ct CX P w K mg base k N sc fs X) (hk : scope.kind = .function) (hz : xs.length ≤ 100000) (hjs : ∀ j ∈ js, j ∈ vs)
    (ht : ∀ i x, xs[i]? = some x → ∀ Y, Bk CX P w K mg base k N sc scope Y → TgT Y tg js (f x) (wipeT ρ vs) (ρf x) (Lf i)) (hc : ∀ i x, xs[i]? = some x → ∀ Y, Bk CX P w K mg base k N sc scope Y → EvC Y ifs (ρf x) (Lf i) (pf i) (Lf (i + 1)))
    (he : ∀ i x, xs[i]? = some x → pf i = true → ∀ Y, Bk CX P w K mg base k N sc scope Y → Ev Y elt (ρf x) (Lf (i + 1)) (.v (gf x)) (Lf (i + 1))) :
    LcT X tg elt ifs scope vs ρ (xs.map f) Lf pf (fun i => match xs[i]? with | some x => gf x | none => N0) where
  sz := by rw [List.length_map]; exact hz
  turn := fun i y hy => by
    rw [List.getElem?_map] at hy
    cases q : xs[i]? with
    | none => rw [q] at hy; cases hy
    | some x =>
      rw [q] at hy; cases hy
      refine ⟨js, ρf x, Lf (i + 1), hjs, fun s H C cl fp => ht i x q _ (ct.blk hk s H C cl fp), fun s H C cl fp => hc i x q _ (ct.blk hk s H C cl fp), fun hp s H C cl fp => ?_, fun _ => rfl⟩
      exact he i x q hp _ (ct.blk hk s H C cl fp)
/-- name = [x for x in xs if draw(well, s) == 0] on one line -/
theorem wpick {scope : Scope} {own : List (Str × Nat)} {js : List Nat} {α : Type} {xs : List α} {f : α → T} {ρf : α → TEnv} {p1 p' : Pos} {rest : List Stmt} {kk : TK} {m : Nat} {v : W3} {s : Int} (ct : Ct CX P w K mg base k N sc fs X) (n : Nat)
    (hi : EvI X tg iter ρ L (xs.map f) L) (hv : L m = some (tW v)) (hz : xs.length ≤ 100000)
    (ht : ∀ x ∈ xs, ∀ L Y, Bk CX P w K mg base k N sc scope Y → TgT Y tg js (f x) (wipeT ρ (own.map (·.2))) (ρf x) L)
    (hc : ∀ i x, xs[i]? = some x → ∀ Y, Bk CX P w K mg base k N sc scope Y → EvC Y ifs (ρf x) (updS L m (some (tW (drN v s i)))) (decide (drV (drN v s i) s = 0)) (updS (updS L m (some (tW (drN v s i)))) m (some (tW (drW (drN v s i) s)))))
    (he : ∀ x ∈ xs, ∀ L Y, Bk CX P w K mg base k N sc scope Y → Ev Y elt (ρf x) L (.v (f x)) L) (h : WS X rest (ρ.set n (some (.lst ((pickL xs s v).map f)))) (updS L m (some (tW (drN v s xs.length)))) kk)
    (hx : locOk N sc fs n x = true := by decide +kernel) (hxl : sc.names.lookup x = some .local := by decide +kernel) (ok : blkC N sc scope own = true := by decide +kernel) (hk : scope.kind = .function := by rfl) (hjs : ∀ j ∈ js, j ∈ own.map (·.2) := by decide)
    (hsw : (p'.line == p1.line) = true := by rfl) (ha : (scope.names.any fun (n, k) => n == x && (k == .local || k == .cell)) = false := by decide +kernel) (hs : ∀ x, foldedSetIterable iter X.env x = pure x := by intro _; rfl) : WS X (.Assign [.Name x p'] (.ListComp elt [⟨tg, iter, ifs, 0⟩] scope p1) pos :: rest) ρ L kk := by
  have e0 : updS L m (some (tW (drN v s 0))) = L := updS_self hv
  refine ws_setLc (Lf := fun i => updS L m (some (tW (drN v s i)))) ct n hx hxl ok (by rw [e0]; exact hi) (lcS (f := f) (pf := fun i => decide (drV (drN v s i) s = 0)) (gf := f) (ρf := ρf) ct hk hz hjs (fun i x q Y c => ht x (List.mem_of_getElem? q) _ Y c) (fun i x q Y c => ?_) (fun i x q _ Y c => he x (List.mem_of_getElem? q) _ Y c)) ?_ hsw ha hs
  · have := hc i x q Y c
    rw [updS_updS] at this
    exact this
  · rw [List.length_map, (pick_made xs f s v xs.length).resolve_right (Nat.lt_irrefl _)]
    exact h
end
end TL


/-! != of instances with an own __eq__. -/
namespace TL
open PySem PySem.Spec PyProof.Rows L2
/-- the class at C as the text left it: nothing above it but object, an own __eq__ at f, no __ne__ -/
def slotsB (sl : List (Option Value)) : Bool := match sl with
  | [_, _, _, _, some (.builtin _), _] => true
  | _ => false
def clsShapeB (C : Addr) (o : Obj) : Bool := match o with
  | ⟨.type n, _, .cls cd, sl⟩ => decide (n = "type") && (decide (cd.mro = [.ref C, .type "object"]) && ((!cd.hasDel) && slotsB sl.toList))
  | _ => false
def keyStrB (e : DictEntry) : Bool := match e.key with
  | .str _ _ => true
  | _ => false
def nsEqB (K : PySem.W.Frag) (N f : Addr) : Bool := match K.lookup N with
  | some ⟨_, _, .dict es _, _⟩ => es.toList.all keyStrB && (decide (nsFind es "__eq__" = some (.ref f)) && decide (nsFind es "__ne__" = none))
  | _ => false
def fnTyB (K : PySem.W.Frag) (f : Addr) : Bool := match K.lookup f with
  | some ⟨.type n, _, _, _⟩ => decide (n = "function")
  | _ => false
def ownEqB (K : PySem.W.Frag) (C f : Addr) : Bool := (match K.lookup C with
  | some o => clsShapeB C o && (match o.data with
    | .cls cd => nsEqB K cd.ns f
    | _ => false)
  | none => false) && fnTyB K f
theorem look_objEq : ∃ y, typeLookup (.type "object") ("__eq__" : Str) = pure y := by
  refine ⟨some (.builtin "object.__eq__"), ?_⟩
  rw [typeLookup_type, PySem.builtinLookup_eq_fast]
  kernel_rfl
theorem ownEq_of {K : PySem.W.Frag} {h : Heap} {x C f : Addr} {o : Obj} (X : K.In h) (hx : h.get? x = some o) (hc : o.cls = .ref C) (e : ownEqB K C f = true) : h.OwnEqNoNe x C f "object" [.type "object"] := by
  unfold ownEqB at e
  obtain ⟨e1, e2⟩ := Bool.and_eq_true_iff.mp e
  cases q : K.lookup C with
  | none => rw [q] at e1; cases e1
  | some oC =>
    rw [q] at e1
    obtain ⟨e3, e4⟩ := Bool.and_eq_true_iff.mp (show (clsShapeB C oC && _) = true from e1)
    obtain ⟨oc, od, dt, osl⟩ := oC
    cases dt with
    | cls cd =>
      cases oc with
      | type n =>
        have e5 : (decide (n = "type") && (decide (cd.mro = [.ref C, .type "object"]) && ((!cd.hasDel) && slotsB osl.toList))) = true := e3
        simp only [Bool.and_eq_true, decide_eq_true_eq, Bool.not_eq_true'] at e5
        obtain ⟨rfl, h2, h3, h4⟩ := e5
        obtain ⟨nm, bs, mro, N, qn, hdct, sn, sub, ab, col, hd⟩ := cd
        subst h2
        subst h3
        have e6 : nsEqB K N f = true := e4
        unfold nsEqB at e6
        cases qN : K.lookup N with
        | none => rw [qN] at e6; cases e6
        | some oN =>
          obtain ⟨nc, nd, ndt, nsl⟩ := oN
          rw [qN] at e6
          cases ndt with
          | dict es ep =>
            obtain ⟨k1, k2⟩ := Bool.and_eq_true_iff.mp (show (es.toList.all keyStrB && (decide (nsFind es "__eq__" = some (.ref f)) && decide (nsFind es "__ne__" = none))) = true from e6)
            obtain ⟨k3, k4⟩ := Bool.and_eq_true_iff.mp k2
            unfold fnTyB at e2
            cases qf : K.lookup f with
            | none => rw [qf] at e2; cases e2
            | some of =>
              obtain ⟨fc, fd, fdt, fsl⟩ := of
              rw [qf] at e2
              cases fc with
              | type m =>
                have hm : m = "function" := of_decide_eq_true e2
                subst hm
                obtain ⟨y, hy⟩ := look_objEq
                have hsl : ∃ k0 k1 k2 k3 id k5, osl = #[k0, k1, k2, k3, some (.builtin id), k5] := by
                  obtain ⟨l⟩ := osl
                  have h4' : slotsB l = true := h4
                  unfold slotsB at h4'
                  split at h4'
                  · exact ⟨_, _, _, _, _, _, rfl⟩
                  · cases h4'
                obtain ⟨k0, k1', k2', k3', id, k5, rfl⟩ := hsl
                refine ⟨o, ⟨.type "function", fd, fdt, fsl⟩, nm, qn, N, bs, hdct, sn, sub, ab, col, od, k0, k1', k2', k3', k5, id, nsFind es, y, hx, hc, X _ _ q, ⟨_, es, ep, X _ _ qN, rfl, fun e he => ?_, fun _ => rfl⟩, of_decide_eq_true k3, X _ _ qf, rfl, PySem.F.mro_object, hy, of_decide_eq_true k4⟩
                have := List.all_eq_true.mp k1 e (Array.mem_toList_iff.mpr he)
                unfold keyStrB at this
                split at this
                · rename_i n' t' q'
                  exact ⟨n', t', q'⟩
                · cases this
              | _ => cases e2
          | _ => cases e6
      | _ => cases e3
    | _ => cases e4
section
variable {CX : CXT} {P : Program} {w : World} {K : PySem.W.Frag} {mg : Str → Option Value} {base : Heap} {k : Nat} {N : List Str} {sc : Scope} {fs : Str → Bool} {X : Cx}
variable {a b : Expr} {ρ : TEnv} {L L1 Lb : Store} {t u : T} {pos : Pos}
/-- what is asked of two instances ahead of their own == -/
def rNeG (K : PySem.W.Frag) (C : Addr) (Rl : Rel) : R2 := fun x y H Q => ∃ a b dx dy fs gs, x = .ref a ∧ y = .ref b ∧ H a = some (.ins C dx fs) ∧ H b = some (.ins C dy gs) ∧ spT K Rl [x, y] H (fun v H' => ∃ z, v = .bl z ∧ Q (.bl (!z)) H') E0
theorem op_neG {C f : Addr} {fd : FuncData} {ps : List Str} {Rl : Rel} {j : Nat} (ct : Ct CX P w K mg base k N sc fs X) (F : FnT P w K mg base CX j f fd ps Rl) (hj : j + 1 ≤ k) (hb : Binds K fd ps []) (hne : ownEqB K C f = true) : OpR X (compareOp .NotEq) (rNeG X.K C Rl) := by
  have hx := ct.pass
  have hr := ct.room.mono hj
  have gd := ct.gd
  obtain ⟨rfl, rfl, rfl, rfl, rfl, _, _, _, _, _, _, _, _, _⟩ := ct
  intro pins s σ H x y v u Q I rx ry h
  obtain ⟨a, b, dx, dy, fs, gs, rfl, rfl, ha, hb', hsp⟩ := h
  obtain rfl : v = Value.ref a := rx
  obtain rfl : u = Value.ref b := ry
  obtain ⟨mA, J, _⟩ := ins_get I.hok ha
  obtain ⟨mB, J', _⟩ := ins_get I.hok hb'
  have O := ownEq_of I.kIn J.obj rfl hne
  have e0 : Env0 X.prog X.w X.K X.mg X.base X.A.in1 X.stack s H := by
    have e := I.env0
    exact ⟨e.frames, e.mod, e.bs, e.bsz, e.funs, e.frf, e.hok, e.bare⟩
  have rr : Vals [V.ref a, V.ref b] [Value.ref a, Value.ref b] := .cons rfl (.cons rfl .nil)
  have hl : ([Value.ref a, Value.ref b] ++ []).length = ps.length := by
    obtain ⟨ts', L', r', L'', W', _, r1, hR, _⟩ := hsp
    rw [← F.len _ _ _ _ hR, r1.length]; rfl
  have hu : X.A.units + 1 < cLine := by have := hr.un; omega
  have bb := hb s [Value.ref a, Value.ref b] I.kIn hl
  rw [List.append_nil] at bb
  have key := codeAny_mono (F.go X.A.in1 X.stack s H ⟨[.ref a, .ref b], []⟩ [.ref a, .ref b] [.ref a, .ref b] _ hr.in1 gd e0 bb rr hsp) (R' := fun out s' => match out with
    | .error e => X.xe e s'
    | .ok (.ret v) => ∃ z, v = .bool z ∧ EP X pins σ Q (.bool (!z)) s'
    | _ => False) fun out s' q => by
      match out, q with
      | .error e, q => exact hx pins σ H s e s' I q
      | .ok (.ret u), q =>
        obtain ⟨v, H', I3, rv, z, ev, q3⟩ := I.after q
        subst ev
        obtain rfl : u = Value.bool z := rv
        exact ⟨z, rfl, V.bl (!z), H', I3, rfl, q3⟩
  obtain ⟨hh, g, d, tk, os⟩ := s
  refine compareOp_ne_ownEq PySem.F.cmp_object O J'.obj rfl hu (wpAny_call (codeAny_mono key fun out s' q => ?_))
  match out, q with
  | .error e, q => exact q
  | .ok (.ret u), q => exact q
theorem ot_neG {C : Addr} {Rl : Rel} {ns ns' : List Str} {ts us : List T} {z : Bool} (h : Rl [.ins C ns ts, .ins C ns' us] L (.v (B z)) L) : OpT K (rNeG K C Rl) (.ins C ns ts) (.ins C ns' us) L (.v (B (!z))) := fun W H x y Q s r1 r2 q => by
  have r1' := r1
  have r2' := r2
  cases r1 with
  | ins f1 h1 l1 rr1 =>
    cases r2 with
    | ins f2 h2 l2 rr2 =>
      refine ⟨_, _, _, _, _, _, rfl, rfl, h1, h2, _, L, _, L, W, s, .cons r1' (.cons r2' .nil), h, fun v W' H' st s' r => ?_⟩
      cases r
      exact ⟨z, rfl, q _ W' H' st s' (.v _)⟩
/-- x != y, instances of a class with an own == -/
theorem eb_neG {C : Addr} {ps : List Str} {Rl : Rel} {j : Nat} {ns ns' : List Str} {ts us : List T} {z : Bool} (ct : Ct CX P w K mg base k N sc fs X) (D : MetT CX P w K mg base j C "__eq__" ps Rl) (hne : ownEqB K C (He.ma K C "__eq__") = true) (ha : Ev X a ρ L (.v (.ins C ns ts)) L1) (hb : Ev X b ρ L1 (.v (.ins C ns' us)) Lb)
    (h : Rl [.ins C ns ts, .ins C ns' us] Lb (.v (B z)) Lb) (hj : j + 1 ≤ k := by decide) : EvB X (.Compare a [.NotEq] [b] pos) ρ L (!z) Lb := by
  obtain ⟨f, fd, F, M, hbd⟩ := D.ex
  have ef : He.ma K C "__eq__" = f := by unfold He.ma; rw [M.at_]
  rw [ef] at hne
  exact eb_cmp (op_neG ct F hj hbd hne) ha hb (by rw [ct.hK]; exact ot_neG h) (nomark _)
/-- what isinstance asks of an own class -/
def isiB (K : PySem.W.Frag) (C : Addr) : Bool := decide (PySem.W.findIn K (.ref C) "__class__" = some (some (.builtin "object.__class__"))) && (decide (PySem.W.specialIn K (.builtin "object.__class__") "__get__" = some (some (.builtin "getset_descriptor.__get__"))) &&
  (decide (PySem.W.takesIn K (.builtin "object.__class__") = some true) && decide (PySem.W.mroIn K C (.type "object") = some true)))
theorem ev_isiC {p : Pos} {C : Addr} {ns : List Str} {ts : List T} (ct : Ct CX P w K mg base k N sc fs X) (hm : mg "isinstance" = none) (cl : Cls K C) (hC : isiB K C = true) (ha : EvA X [a, b] ρ L [.ins C ns ts, .v (.ref C)] L1) (hg : glOk sc "isinstance" = true := by decide +kernel)
    (he : starEach [a, b] X.env = (false, eval a X.env) :: starEach [b] X.env := by rfl) (hpl : (backTo pos (starEach [b] X.env)).any (·.1) = false := by rfl) : Ev X (.Call (.Name "isinstance" p) [a, b] [] pos) ρ L (.v (B true)) L1 :=
  ev_cb ct call_isi PyProof.Rows.boot_isinstance hm hg ha (fun W H xs Q s r0 q => by
    obtain ⟨x, y, rfl, r1, r2⟩ := rp2 r0
    cases r2
    cases r1 with
    | ins f h1 l1 rr =>
      unfold isiB at hC
      simp only [Bool.and_eq_true, decide_eq_true_eq] at hC
      obtain ⟨c1, c2, c3, c4⟩ := hC
      refine ⟨_, .ref C, .ref C, .ref C, true, rfl, .own C, .base (.ins h1 (by rw [ct.hK]; exact cl) (by rw [ct.hK]; exact c1) (by rw [ct.hK]; exact c2) (by rw [ct.hK]; exact c3) (by rw [ct.hK]; exact c4)), ?_, ?_⟩
      · unfold PySem.W.kitOne
        rw [if_pos (by simp)]
      · exact q _ W H .refl s (Rp.v _)) he hpl
/-- the module's class as a value -/
theorem ncls {x : Str} {C : Addr} (ct : Ct CX P w K mg base k N sc fs X) (hm : mg x = some (.ref C)) (h : glOk sc x = true := by decide +kernel) : Ev X (.Name x pos) ρ L (.v (.v (.ref C))) L := ev_glob ct hm rfl h
/-- two texts -/
theorem eb_neS {x y : Str} (ha : Ev X a ρ L (.v (S x)) L1) (hb : Ev X b ρ L1 (.v (S y)) Lb) : EvB X (.Compare a [.NotEq] [b] pos) ρ L (!decide (x = y)) Lb := eb_cmp op_ne ha hb (fun W H u v Q s r1 r2 q => by
  cases r1; cases r2
  have : decide (x = y) = decide (V.str x = V.str y) := by
    by_cases e : x = y
    · subst e; simp
    · rw [decide_eq_false e, decide_eq_false (fun z => e (V.str.inj z))]
  exact ⟨rfl, by rw [← this]; exact q _ W H .refl s (.v _)⟩) (nomark _)
end
/-! == of towns -/
def tFour (t : Tw) : T := .tup [I t.n, .tup (t.st.map tLane), .tup (t.wd.map tPair), .tup (t.bd.map I)]
theorem sh_four (t : Tw) : Sh (tFour t) (.tuple [.int t.n, .tuple (t.st.map dLane), .tuple (t.wd.map dPair), .tuple (t.bd.map .int)]) 3 :=
  sh_tup (shl_cons (sh_I _) (shl_cons (sh_tup (shl_map sh_lane _)) (shl_cons (sh_tup (shl_map sh_pair _)) (shl_cons (sh_tup (shl_map sh_I _)) shl_nil))))
def R_eq (C : Addr) : Rel := fun ts L r L' => ∃ t u : Tw, ts = [tTw C t, tTw C u] ∧ r = .v (B (eqT (tFour t) (tFour u))) ∧ L' = L
end TL


/-! Home nights: the law's own defs, and the numbers. -/
namespace TL
open PySem PySem.Spec PyProof.Rows L2
def cellAt (ns : List Int) (k : Int) : Int := ns.getD k.toNat 0
def R_cell_at : Rel := fun ts L r L' => ∃ (ns : List Int) (k : Int), ts = [.scr (ns.map I), I k] ∧ 0 ≤ k ∧ r = .v (I (cellAt ns k)) ∧ L' = L
def R_lwhole : Rel := fun ts L r L' => ∃ t : Tw, ts = [tParts t] ∧ StOk t.st ∧ r = .v (I (lcmL t.st)) ∧ L' = L
def R_lhome : Rel := fun ts L r L' => ∃ (x : T) (ls : List Lane) (rest : List T) (d : Int), ts = [.tup (x :: .lst (ls.map tLane) :: rest), I d] ∧ StOk ls ∧ r = .v (B (homeB ls d)) ∧ L' = L
def bothB (h l : Lane) : Bool := ((rangeT 0 60).filter (homeB [h, l])).isEmpty
def b2 (st : List Lane) (i j : Nat) : Bool := bothB (st.getD i L00) (st.getD j L00)
def R_ltorn : Rel := fun ts L r L' => ∃ (t : Tw) (o : Option (Nat × Nat)), ts = [tParts t] ∧ StOk t.st ∧ FirstO (b2 t.st) t.st.length o ∧ r = .v (tO o) ∧ L' = L
def R_ldue : Rel := fun ts L r L' => ∃ (t : Tw) (o : Option (Nat × Nat)), ts = [tParts t] ∧ StOk t.st ∧ FirstO (b2 t.st) t.st.length o ∧ L' = L ∧
  match o with
  | some (i, j) => r = .v (.tup [S "never", I i, I j])
  | none => ∃ d ds, homesL t.st = d :: ds ∧ r = .v (.tup [S "nights", I d, I (lcmL t.st)])
/-! the first of a range -/
theorem rangeT_cons (lo : Int) (n : Nat) : rangeT lo (n + 1) = lo :: rangeT (lo + 1) n := by
  unfold rangeT
  rw [List.range_succ_eq_map, List.map_cons, List.map_map]
  refine congr (congrArg List.cons (by omega)) ?_
  refine List.map_congr_left fun i _ => ?_
  show lo + ((i + 1 : Nat) : Int) = lo + 1 + i
  omega
theorem filter_first {p : Int → Bool} : ∀ {n : Nat} {lo x : Int}, lo ≤ x → x < lo + n → p x = true → (∀ y, lo ≤ y → y < x → p y = false) → ∃ ds, (rangeT lo n).filter p = x :: ds
  | 0, lo, x, h1, h2, _, _ => by omega
  | n + 1, lo, x, h1, h2, hx, hy => by
    rw [rangeT_cons]
    by_cases e : lo = x
    · subst e
      exact ⟨_, by rw [List.filter_cons_of_pos hx]⟩
    · have hlo := hy lo (Int.le_refl _) (by omega)
      rw [List.filter_cons_of_neg (by rw [hlo]; decide)]
      exact filter_first (by omega) (by omega) hx fun y a b => hy y (by omega) b
theorem filter_some {p : Int → Bool} {n : Nat} {lo x : Int} (h1 : lo ≤ x) (h2 : x < lo + n) (hx : p x = true) : ∃ d ds, (rangeT lo n).filter p = d :: ds := by
  cases e : (rangeT lo n).filter p with
  | nil =>
    have := List.mem_filter.mpr ⟨mem_rangeT.mpr ⟨h1, h2⟩, hx⟩
    rw [e] at this; cases this
  | cons d ds => exact ⟨d, ds, rfl⟩
/-! two streets -/
theorem fin_two : ((List.range 7).all fun r => (List.range 7).all fun s => r == 0 || s == 0 || ((List.range r).all fun a => (List.range s).all fun b =>
    (!decide (((a : Int) - (b : Int)) % ((Nat.gcd r s : Nat) : Int) = 0)) == ((rangeT 0 60).filter fun d => decide ((d - (a : Int)) % (r : Int) = 0) && (decide ((d - (b : Int)) % (s : Int) = 0) && true)).isEmpty)) = true := by decide +kernel
theorem turns_mod (d n r : Int) : (d - n % r) % r = (d - n) % r := by
  rw [Int.sub_emod, Int.emod_emod_of_dvd _ (Int.dvd_refl r), ← Int.sub_emod]
theorem two_ok {h l : Lane} (h1 : 1 ≤ h.r) (h6 : h.r ≤ 6) (l1 : 1 ≤ l.r) (l6 : l.r ≤ 6) : nvB h l = bothB h l := by
  have key := List.all_eq_true.mp (List.all_eq_true.mp fin_two h.r.toNat (List.mem_range.mpr (by omega))) l.r.toNat (List.mem_range.mpr (by omega))
  have z1 : (h.r.toNat == 0) = false := by rw [beq_eq_false_iff_ne]; omega
  have z2 : (l.r.toNat == 0) = false := by rw [beq_eq_false_iff_ne]; omega
  simp only [z1, z2, Bool.false_or] at key
  have eh : (h.r.toNat : Int) = h.r := by omega
  have el : (l.r.toNat : Int) = l.r := by omega
  have a1 := Int.emod_nonneg h.n (b := h.r) (by omega)
  have a2 := Int.emod_lt_of_pos h.n (b := h.r) (by omega)
  have c1 := Int.emod_nonneg l.n (b := l.r) (by omega)
  have c2 := Int.emod_lt_of_pos l.n (b := l.r) (by omega)
  have k2 := List.all_eq_true.mp (List.all_eq_true.mp key (h.n % h.r).toNat (List.mem_range.mpr (by omega))) (l.n % l.r).toNat (List.mem_range.mpr (by omega))
  have k3 := eq_of_beq k2
  have ea : ((h.n % h.r).toNat : Int) = h.n % h.r := by omega
  have eb : ((l.n % l.r).toNat : Int) = l.n % l.r := by omega
  rw [ea, eb, eh, el] at k3
  unfold bothB
  have e1 : (rangeT 0 60).filter (homeB [h, l]) = (rangeT 0 60).filter fun d => decide ((d - h.n % h.r) % h.r = 0) && (decide ((d - l.n % l.r) % l.r = 0) && true) := by
    refine List.filter_congr fun d _ => ?_
    rw [turns_mod, turns_mod]
    simp [homeB, turnsB]
  rw [e1, ← k3]
  unfold nvB
  have hg1 : ((Nat.gcd h.r.toNat l.r.toNat : Nat) : Int) ∣ h.r := by
    rw [← eh]; exact Int.natCast_dvd_natCast.mpr (by first | exact Nat.gcd_dvd_left _ _ | (rw [Int.toNat_natCast]; exact Nat.gcd_dvd_left _ _))
  have hg2 : ((Nat.gcd h.r.toNat l.r.toNat : Nat) : Int) ∣ l.r := by
    rw [← el]; exact Int.natCast_dvd_natCast.mpr (by first | exact Nat.gcd_dvd_right _ _ | (rw [Int.toNat_natCast]; exact Nat.gcd_dvd_right _ _))
  rw [Int.sub_emod, ← Int.emod_emod_of_dvd h.n hg1, ← Int.emod_emod_of_dvd l.n hg2, ← Int.sub_emod]
/-! many streets -/
theorem fin_dist : ((List.range 61).all fun f => f == 0 || 60 % f != 0 || ((List.range 7).all fun h => h == 0 || ((List.range 7).all fun r => r == 0 || Nat.lcm (Nat.gcd f r) (Nat.gcd h r) % Nat.gcd (Nat.lcm f h) r == 0))) = true := by decide +kernel
theorem dist_ok {f h r : Nat} (hf : f ∣ 60) (h1 : 1 ≤ h) (h6 : h ≤ 6) (r1 : 1 ≤ r) (r6 : r ≤ 6) : Nat.gcd (Nat.lcm f h) r ∣ Nat.lcm (Nat.gcd f r) (Nat.gcd h r) := by
  have hf0 : 0 < f := Nat.pos_of_dvd_of_pos hf (by decide)
  have hf60 : f ≤ 60 := Nat.le_of_dvd (by decide) hf
  have k1 := List.all_eq_true.mp fin_dist f (List.mem_range.mpr (by omega))
  have z1 : (f == 0) = false := by rw [beq_eq_false_iff_ne]; omega
  have z2 : (60 % f != 0) = false := by rw [Nat.mod_eq_zero_of_dvd hf]; rfl
  simp only [z1, z2, Bool.false_or] at k1
  have k2 := List.all_eq_true.mp k1 h (List.mem_range.mpr (by omega))
  have z3 : (h == 0) = false := by rw [beq_eq_false_iff_ne]; omega
  simp only [z3, Bool.false_or] at k2
  have k3 := List.all_eq_true.mp k2 r (List.mem_range.mpr (by omega))
  have z4 : (r == 0) = false := by rw [beq_eq_false_iff_ne]; omega
  simp only [z4, Bool.false_or] at k3
  exact Nat.dvd_of_mod_eq_zero (eq_of_beq k3)
theorem gcd_lcmL {st : List Lane} {r : Nat} {x : Nat} (r1 : 1 ≤ r) (r6 : r ≤ 6) (ok : ∀ l ∈ st, 1 ≤ l.r ∧ l.r ≤ 6) (h : ∀ l ∈ st, Nat.gcd l.r.toNat r ∣ x) : ∀ f : Nat, f ∣ 60 → Nat.gcd f r ∣ x → Nat.gcd (st.foldl (fun f l => Nat.lcm f l.r.toNat) f) r ∣ x := by
  induction st with
  | nil => intro f _ hf; exact hf
  | cons l st ih =>
    intro f h60 hf
    have hl := ok l List.mem_cons_self
    refine ih (fun m hm => ok m (List.mem_cons_of_mem _ hm)) (fun m hm => h m (List.mem_cons_of_mem _ hm)) _ (Nat.lcm_dvd h60 (r_60 hl.1 hl.2)) ?_
    exact Nat.dvd_trans (dist_ok h60 (by omega) (by omega) r1 r6) (Nat.lcm_dvd hf (h l List.mem_cons_self))
theorem fin_meet : ((List.range 61).all fun m => m == 0 || ((List.range 7).all fun r => r == 0 || ((List.range r).all fun t => t % Nat.gcd m r != 0 || ((List.range r).any fun k => (t + m * k) % r == 0)))) = true := by decide +kernel
theorem meet_ok {m r : Nat} {t : Int} (m1 : 1 ≤ m) (m60 : m ≤ 60) (r1 : 1 ≤ r) (r6 : r ≤ 6) (h : ((Nat.gcd m r : Nat) : Int) ∣ t) : ∃ k : Nat, (t + m * k) % (r : Int) = 0 := by
  have k1 := List.all_eq_true.mp fin_meet m (List.mem_range.mpr (by omega))
  have z1 : (m == 0) = false := by rw [beq_eq_false_iff_ne]; omega
  simp only [z1, Bool.false_or] at k1
  have k2 := List.all_eq_true.mp k1 r (List.mem_range.mpr (by omega))
  have z2 : (r == 0) = false := by rw [beq_eq_false_iff_ne]; omega
  simp only [z2, Bool.false_or] at k2
  have a1 := Int.emod_nonneg t (b := (r : Int)) (by omega)
  have a2 := Int.emod_lt_of_pos t (b := (r : Int)) (by omega)
  have k3 := List.all_eq_true.mp k2 (t % r).toNat (List.mem_range.mpr (by omega))
  have hd : Nat.gcd m r ∣ (t % (r : Int)).toNat := by
    have h1 : ((Nat.gcd m r : Nat) : Int) ∣ (r : Int) := Int.natCast_dvd_natCast.mpr (Nat.gcd_dvd_right m r)
    have h2 : ((Nat.gcd m r : Nat) : Int) ∣ t % (r : Int) := by
      rw [Int.emod_def]
      exact Int.dvd_sub h (Int.dvd_trans h1 (Int.dvd_mul_right _ _))
    have h3 : (((t % (r : Int)).toNat : Nat) : Int) = t % (r : Int) := by omega
    rw [← h3] at h2
    exact Int.natCast_dvd_natCast.mp h2
  have z3 : ((t % (r : Int)).toNat % Nat.gcd m r != 0) = false := by rw [Nat.mod_eq_zero_of_dvd hd]; rfl
  simp only [z3, Bool.false_or] at k3
  obtain ⟨k, hk, e⟩ := List.any_eq_true.mp k3
  refine ⟨k, ?_⟩
  have e2 : ((t % (r : Int)).toNat + m * k) % r = 0 := eq_of_beq e
  have e3 : ((((t % (r : Int)).toNat + m * k) % r : Nat) : Int) = 0 := by rw [e2]; rfl
  have h3 : (((t % (r : Int)).toNat : Nat) : Int) = t % (r : Int) := by omega
  rw [Int.natCast_emod, Int.natCast_add, h3, Int.natCast_mul] at e3
  rw [Int.emod_add_emod] at e3
  exact e3
theorem lcmL_cons (l : Lane) (st : List Lane) : lcmL st ∣ lcmL (l :: st) := by
  refine lcmL_least fun m hm => ?_
  exact lcmL_mem (List.mem_cons_of_mem l hm)
theorem meet_all : ∀ {st : List Lane}, (∀ l ∈ st, 1 ≤ l.r ∧ l.r ≤ 6) → List.Pairwise (fun h l => nvB h l = false) st → ∃ d : Int, ∀ l ∈ st, (d - l.n) % l.r = 0
  | [], _, _ => ⟨0, fun l h => (nomatch h)⟩
  | l :: st, ok, hp => by
    obtain ⟨hp1, hp2⟩ := List.pairwise_cons.mp hp
    have okst : ∀ m ∈ st, 1 ≤ m.r ∧ m.r ≤ 6 := fun m hm => ok m (List.mem_cons_of_mem _ hm)
    obtain ⟨d, hd⟩ := meet_all okst hp2
    obtain ⟨l1, l6⟩ := ok l List.mem_cons_self
    have el : (l.r.toNat : Int) = l.r := by omega
    have h60 : lcmL st ∣ 60 := lcmL_least fun m hm => r_60 (okst m hm).1 (okst m hm).2
    have hpos : 0 < lcmL st := Nat.pos_of_dvd_of_pos h60 (by decide)
    have hg : Nat.gcd (lcmL st) l.r.toNat ∣ (d - l.n).natAbs := by
      refine gcd_lcmL (by omega) (by omega) okst (fun m hm => ?_) 1 (by decide) (by rw [Nat.gcd_one_left]; exact Nat.one_dvd _)
      have hn := hp1 m hm
      have e1 : (l.n - m.n) % ((Nat.gcd l.r.toNat m.r.toNat : Nat) : Int) = 0 := by
        unfold nvB at hn
        simpa using hn
      have d1 : ((Nat.gcd m.r.toNat l.r.toNat : Nat) : Int) ∣ l.n - m.n := by
        rw [Nat.gcd_comm]; exact Int.dvd_of_emod_eq_zero e1
      have em : (m.r.toNat : Int) = m.r := by have := (okst m hm).1; omega
      have d2 : ((Nat.gcd m.r.toNat l.r.toNat : Nat) : Int) ∣ d - m.n := by
        refine Int.dvd_trans ?_ (Int.dvd_of_emod_eq_zero (hd m hm))
        rw [← em]; exact Int.natCast_dvd_natCast.mpr (by first | exact Nat.gcd_dvd_left _ _ | (rw [Int.toNat_natCast]; exact Nat.gcd_dvd_left _ _))
      have d3 := Int.dvd_sub d2 d1
      rw [show d - m.n - (l.n - m.n) = d - l.n by omega] at d3
      exact Int.ofNat_dvd_left.mp d3
    obtain ⟨k, hk⟩ := meet_ok (t := d - l.n) hpos (Nat.le_of_dvd (by decide) h60) (by omega) (by omega) (Int.ofNat_dvd_left.mpr hg)
    refine ⟨d + (lcmL st : Int) * k, fun m hm => ?_⟩
    rcases List.mem_cons.mp hm with rfl | hm
    · rw [el] at hk
      rw [show d + (lcmL st : Int) * k - m.n = d - m.n + lcmL st * k by omega]; exact hk
    · have em : (m.r.toNat : Int) = m.r := by have := (okst m hm).1; omega
      have hdv : m.r ∣ (lcmL st : Int) * k := by
        refine Int.dvd_trans ?_ (Int.dvd_mul_right _ _)
        rw [← em]; exact Int.natCast_dvd_natCast.mpr (by first | exact lcmL_mem hm | (rw [Int.toNat_natCast]; exact lcmL_mem hm))
      rw [show d + (lcmL st : Int) * k - m.n = (d - m.n) + (lcmL st : Int) * k by omega]
      exact Int.emod_eq_zero_of_dvd (Int.dvd_add (Int.dvd_of_emod_eq_zero (hd m hm)) hdv)
theorem home_mod {st : List Lane} (ok : ∀ l ∈ st, 1 ≤ l.r ∧ l.r ≤ 6) {d : Int} (h : ∀ l ∈ st, (d - l.n) % l.r = 0) : homeB st (d % (lcmL st : Int)) = true := by
  unfold homeB
  rw [List.all_eq_true]
  intro l hl
  unfold turnsB
  refine decide_eq_true ?_
  have el : (l.r.toNat : Int) = l.r := by have := (ok l hl).1; omega
  have hdv : l.r ∣ (lcmL st : Int) := by rw [← el]; exact Int.natCast_dvd_natCast.mpr (by first | exact lcmL_mem hl | (rw [Int.toNat_natCast]; exact lcmL_mem hl))
  refine Int.emod_eq_zero_of_dvd ?_
  have e : d % (lcmL st : Int) - l.n = (d - l.n) - (lcmL st : Int) * (d / (lcmL st : Int)) := by rw [Int.emod_def]; omega
  rw [e]
  exact Int.dvd_sub (Int.dvd_of_emod_eq_zero (h l hl)) (Int.dvd_trans hdv (Int.dvd_mul_right _ _))
theorem homes_some {st : List Lane} (ok : StOk st) (h : FirstO (tornB st) st.length none) : ∃ d ds, homesL st = d :: ds := by
  have hp : List.Pairwise (fun h l => nvB h l = false) st := by
    rw [List.pairwise_iff_getElem]
    intro i j hi hj hij
    have := h i j hij hj
    unfold tornB at this
    rw [List.getD_eq_getElem?_getD, List.getD_eq_getElem?_getD, List.getElem?_eq_getElem hi, List.getElem?_eq_getElem hj] at this
    exact this
  obtain ⟨d, hd⟩ := meet_all ok.2 hp
  have hpos := lcmL_pos ok
  exact filter_some (Int.emod_nonneg _ (by omega)) (by have := Int.emod_lt_of_pos d (b := (lcmL st : Int)) (by omega); omega) (home_mod ok.2 hd)
theorem torn_b2 {st : List Lane} (ok : StOk st) (i j : Nat) (hij : i < j) (hj : j < st.length) : tornB st i j = b2 st i j := by
  unfold tornB b2
  have hi : i < st.length := by omega
  rw [List.getD_eq_getElem?_getD, List.getD_eq_getElem?_getD, List.getElem?_eq_getElem hi, List.getElem?_eq_getElem hj]
  have a := ok.2 _ (List.getElem_mem hi)
  have b := ok.2 _ (List.getElem_mem hj)
  exact two_ok a.1 a.2 b.1 b.2
/-! the least number that all rhythms part, by search -/
def partB (st : List Lane) (d : Int) : Bool := st.all fun l => decide (d % l.r = 0)
theorem whole_first {st : List Lane} (ok : StOk st) : ∃ ds, (rangeT 1 60).filter (partB st) = (lcmL st : Int) :: ds := by
  have hpos := lcmL_pos ok
  have hle := lcmL_le ok
  refine filter_first (by omega) (by omega) ?_ fun y y1 y2 => ?_
  · unfold partB
    rw [List.all_eq_true]
    intro l hl
    refine decide_eq_true (Int.emod_eq_zero_of_dvd ?_)
    have el : (l.r.toNat : Int) = l.r := by have := (ok.2 l hl).1; omega
    rw [← el]; exact Int.natCast_dvd_natCast.mpr (by first | exact lcmL_mem hl | (rw [Int.toNat_natCast]; exact lcmL_mem hl))
  · cases e : partB st y with
    | false => rfl
    | true =>
      unfold partB at e
      rw [List.all_eq_true] at e
      have : lcmL st ∣ y.toNat := lcmL_least fun l hl => by
        have h1 := of_decide_eq_true (e l hl)
        have el : (l.r.toNat : Int) = l.r := by have := (ok.2 l hl).1; omega
        have ey : (y.toNat : Int) = y := by omega
        have h2 := Int.dvd_of_emod_eq_zero h1
        rw [← el, ← ey] at h2
        exact Int.natCast_dvd_natCast.mp h2
      have := Nat.le_of_dvd (by omega) this
      omega
theorem empty_eq {α : Type} {f : α → T} {g : α → PyData} {k : Nat} (h : ∀ a, Sh (f a) (g a) k) (l : List α) : eqT (.lst (l.map f)) (.lst []) = l.isEmpty := by
  rw [(sh_lst (shl_map h l)).eqT (sh_lst (k := 0) shl_nil)]
  cases l <;> simp [PyData.eqv, PyData.eqvAll]
theorem none_left (l : List Lane) (p : Lane → Bool) : eqT (.lst ((l.filter fun x => !p x).map tLane)) (.lst []) = l.all p := by
  rw [empty_eq sh_lane]
  induction l with
  | nil => rfl
  | cons a l ih =>
    cases e : p a with
    | true => rw [List.filter_cons_of_neg (by simp [e]), List.all_cons, e, ih]; rfl
    | false => rw [List.filter_cons_of_pos (by simp [e]), List.all_cons, e]; rfl
theorem at1 (x y : T) (ts : List T) : atI (x :: y :: ts) 1 = some y := by
  unfold atI ixN
  rw [if_pos (by decide), if_pos (by simp only [List.length_cons]; omega)]
  rfl
/-! what is told, as a text -/
def dU (tag : Str) (i j : Int) : PyData := .tuple [.str tag, .int i, .int j]
def tU (tag : Str) (i j : Int) : T := .tup [S tag, I i, I j]
theorem pd_U (tag : Str) (i j : Int) : pd (tU tag i j) = some (dU tag i j) := pd_tup (by
  unfold pdL
  rw [show pd (S tag) = some (.str tag) by unfold pd pdV; rfl]
  unfold pdL
  rw [pd_I]
  unfold pdL
  rw [pd_I]
  unfold pdL; rfl)
theorem int_short : ((List.range 61).all fun i => decide ((PyData.shown (.int (i : Int))).length ≤ 10)) = true := by decide +kernel
theorem shown_short {tag : Str} {i j : Int} (ht : (PyData.shown (.str tag)).length ≤ 100) (i0 : 0 ≤ i) (i1 : i ≤ 60) (j0 : 0 ≤ j) (j1 : j ≤ 60) : (dU tag i j).shown.length ≤ sizeLine := by
  have a := of_decide_eq_true (List.all_eq_true.mp int_short i.toNat (List.mem_range.mpr (by omega)))
  have b := of_decide_eq_true (List.all_eq_true.mp int_short j.toNat (List.mem_range.mpr (by omega)))
  rw [show (i.toNat : Int) = i by omega] at a
  rw [show (j.toNat : Int) = j by omega] at b
  rw [sizeLine_eq]
  have e : (dU tag i j).shown = tupleText [PyData.shown (.str tag), PyData.shown (.int i), PyData.shown (.int j)] := rfl
  rw [e]
  unfold tupleText
  rw [strLen_append, strLen_append]
  have hj := join_length_add [PyData.shown (.str tag), PyData.shown (.int i), PyData.shown (.int j)] (by simp)
  simp only [piled, List.map_cons, List.map_nil, List.sum_cons, List.sum_nil] at hj
  have e1 : (("(" : String) : Str).length = 1 := rfl
  have e2 : ((if ([PyData.shown (.str tag), PyData.shown (.int i), PyData.shown (.int j)].length == 1) = true then ",)" else ")" : String) : Str).length = 1 := rfl
  rw [e1, e2]
  omega
end TL


/-! Numbers of k14: two streets at a time, beginnings, streets told again. -/
namespace TL
open PySem PySem.Spec PyProof.Rows L2
theorem stOk_take {st : List Lane} (ok : StOk st) (k : Nat) : StOk (st.take k) := ⟨by rw [List.length_take]; have := ok.1; omega, fun l hl => ok.2 l (List.mem_of_mem_take hl)⟩
/-- a home day is one of each beginning -/
theorem homeB_take {st : List Lane} {d : Int} (h : homeB st d = true) (k : Nat) : homeB (st.take k) d = true := by
  unfold homeB at h ⊢
  rw [List.all_eq_true] at h ⊢
  exact fun l hl => h l (List.mem_of_mem_take hl)
theorem lcmL_take {st : List Lane} (k : Nat) : lcmL (st.take k) ∣ lcmL st := lcmL_least fun l hl => lcmL_mem (List.mem_of_mem_take hl)
/-- two home days lie whole turns apart -/
theorem homes_apart {st : List Lane} (ok : ∀ l ∈ st, 1 ≤ l.r ∧ l.r ≤ 6) {d e : Int} (hd : homeB st d = true) (he : homeB st e = true) : (d - e) % (lcmL st : Int) = 0 := by
  unfold homeB at hd he
  rw [List.all_eq_true] at hd he
  refine Int.emod_eq_zero_of_dvd (Int.ofNat_dvd_left.mpr (lcmL_least fun l hl => ?_))
  have h1 := Int.dvd_of_emod_eq_zero (of_decide_eq_true (hd l hl))
  have h2 := Int.dvd_of_emod_eq_zero (of_decide_eq_true (he l hl))
  have h3 := Int.dvd_sub h1 h2
  rw [show d - l.n - (e - l.n) = d - e by omega] at h3
  have el : (l.r.toNat : Int) = l.r := by have := (ok l hl).1; omega
  rw [← el] at h3
  exact Int.ofNat_dvd_left.mp h3
/-- nothing is torn in a beginning of what is not torn -/
theorem firstO_none_take {st : List Lane} (h : FirstO (tornB st) st.length none) (k : Nat) : FirstO (tornB (st.take k)) (st.take k).length none := by
  intro i j hij hj
  rw [List.length_take] at hj
  have := h i j hij (by omega)
  unfold tornB at this ⊢
  rw [List.getD_eq_getElem?_getD, List.getD_eq_getElem?_getD] at this ⊢
  rw [List.getElem?_take_of_lt (by omega), List.getElem?_take_of_lt (by omega)]
  exact this
theorem nvB_comm (h l : Lane) : nvB h l = nvB l h := by
  unfold nvB
  rw [Nat.gcd_comm]
  have e : (h.n - l.n) = -(l.n - h.n) := by omega
  have : ((h.n - l.n) % ((Nat.gcd l.r.toNat h.r.toNat : Nat) : Int) = 0) ↔ ((l.n - h.n) % ((Nat.gcd l.r.toNat h.r.toNat : Nat) : Int) = 0) := by
    rw [e]
    constructor
    · intro q; exact Int.emod_eq_zero_of_dvd (Int.dvd_neg.mp (Int.dvd_of_emod_eq_zero q))
    · intro q; exact Int.emod_eq_zero_of_dvd (Int.dvd_neg.mpr (Int.dvd_of_emod_eq_zero q))
  simp [this]
/-- a street told again, some rhythms on, is turned on the same nights -/
theorem turnsB_on (l : Lane) (k d : Int) : turnsB ⟨l.a, l.b, l.r, l.n + l.r * k⟩ d = turnsB l d := by
  unfold turnsB
  show decide ((d - (l.n + l.r * k)) % l.r = 0) = _
  rw [show d - (l.n + l.r * k) = d - l.n - l.r * k by omega, Int.sub_mul_emod_self_left]
theorem two_torn {a b : Lane} (h : nvB a b = true) : FirstO (tornB [a, b]) 2 (some (0, 1)) := ⟨by decide, by decide, h, fun k k1 k2 => by omega, fun k m k1 k2 k3 => by omega⟩
theorem two_meet {a b : Lane} (h : nvB a b = false) : FirstO (tornB [a, b]) 2 none := fun i j h1 h2 => by
  have e1 : i = 0 := by omega
  have e2 : j = 1 := by omega
  subst e1; subst e2
  exact h
/-- the pairs of a list's items, by the second one's place -/
def twosN {α : Type} (st : List α) : Nat → List (α × α)
  | 0 => []
  | j + 1 => twosN st j ++ (match st[j]? with
    | some b => (st.take j).map fun a => (a, b)
    | none => [])
def twos {α : Type} (st : List α) : List (α × α) := twosN st st.length
theorem mem_twosN {α : Type} {st : List α} : ∀ {n : Nat} {q : α × α}, q ∈ twosN st n ↔ ∃ i j, i < j ∧ j < n ∧ st[i]? = some q.1 ∧ st[j]? = some q.2
  | 0, q => ⟨fun h => (nomatch h), fun ⟨i, j, h1, h2, _⟩ => by omega⟩
  | n + 1, q => by
    unfold twosN
    rw [List.mem_append, mem_twosN (n := n)]
    constructor
    · rintro (⟨i, j, h1, h2, h3, h4⟩ | h)
      · exact ⟨i, j, h1, by omega, h3, h4⟩
      · cases e : st[n]? with
        | none => rw [e] at h; cases h
        | some b =>
          rw [e] at h
          obtain ⟨a, ha, rfl⟩ := List.mem_map.mp h
          obtain ⟨i, hi, e2⟩ := List.mem_iff_getElem.mp ha
          rw [List.length_take] at hi
          rw [List.getElem_take] at e2
          exact ⟨i, n, by omega, by omega, by rw [List.getElem?_eq_getElem (by omega), e2], e⟩
    · rintro ⟨i, j, h1, h2, h3, h4⟩
      by_cases hj : j < n
      · exact .inl ⟨i, j, h1, hj, h3, h4⟩
      · right
        have : j = n := by omega
        subst this
        rw [h4]
        refine List.mem_map.mpr ⟨q.1, ?_, rfl⟩
        obtain ⟨hi, e⟩ := List.getElem?_eq_some_iff.mp h3
        exact List.mem_iff_getElem.mpr ⟨i, by rw [List.length_take]; omega, by rw [List.getElem_take]; exact e⟩
/-- some two are torn just where the first torn pair is told -/
theorem torn_twos {st : List Lane} {o : Option (Nat × Nat)} (h : FirstO (tornB st) st.length o) : (twos st).any (fun q => nvB q.1 q.2) = o.isSome := by
  have at_ : ∀ {i : Nat} {x : Lane}, st[i]? = some x → st.getD i L00 = x := fun {i x} e => by rw [List.getD_eq_getElem?_getD, e]; rfl
  cases o with
  | none =>
    show _ = false
    cases e : (twos st).any fun q => nvB q.1 q.2 with
    | false => rfl
    | true =>
      obtain ⟨q, hq, hn⟩ := List.any_eq_true.mp e
      obtain ⟨i, j, h1, h2, h3, h4⟩ := mem_twosN.mp hq
      have := h i j h1 h2
      unfold tornB at this
      rw [at_ h3, at_ h4, hn] at this
      cases this
  | some p =>
    obtain ⟨i, j⟩ := p
    obtain ⟨h1, h2, h3, _⟩ := h
    show _ = true
    refine List.any_eq_true.mpr ⟨(st[i], st[j]), mem_twosN.mpr ⟨i, j, h1, h2, List.getElem?_eq_getElem (by omega), List.getElem?_eq_getElem h2⟩, ?_⟩
    unfold tornB at h3
    rw [at_ (List.getElem?_eq_getElem (show i < st.length by omega)), at_ (List.getElem?_eq_getElem h2)] at h3
    exact h3
/-- a paper ("never", i, j) of two streets that there are -/
def R_shows_never (C : Addr) : Rel := fun ts L r L' => ∃ (t : Tw) (i j : Nat) (a b : Lane), ts = [tTw C t, tU "never" i j] ∧ StOk t.st ∧ t.st[i]? = some a ∧ t.st[j]? = some b ∧ r = .v (B (!decide ((i : Int) = (j : Int)) && nvB a b)) ∧ L' = L
section
variable {X : Cx} {a b : Expr} {ρ : TEnv} {L L1 Lb : Store} {pos : Pos}
theorem eb_eqS {x y : Str} (ha : Ev X a ρ L (.v (S x)) L1) (hb : Ev X b ρ L1 (.v (S y)) Lb) : EvB X (.Compare a [.Eq] [b] pos) ρ L (decide (x = y)) Lb := eb_cmp op_eq ha hb (fun W H u v Q s r1 r2 q => by
  cases r1; cases r2
  have : decide (x = y) = decide (V.str x = V.str y) := by
    by_cases e : x = y
    · subst e; simp
    · rw [decide_eq_false e, decide_eq_false (fun z => e (V.str.inj z))]
  exact ⟨rfl, by rw [← this]; exact q _ W H .refl s (.v _)⟩) (nomark _)
end
end TL


/-! What home tells, as a function. -/
namespace TL
open PySem PySem.Spec PyProof.Rows L2
theorem DefT.imp {CX : CXT} {P : Program} {w : World} {K : PySem.W.Frag} {mg : Str → Option Value} {base : Heap} {j : Nat} {x : Str} {ps : List Str} {Rl Rl' : Rel} (D : DefT CX P w K mg base j x ps Rl) (h : ∀ ts L r L', Rl' ts L r L' → Rl ts L r L') : DefT CX P w K mg base j x ps Rl' := by
  obtain ⟨f, fd, F, a, b, c⟩ := D.ex
  exact ⟨f, fd, F.imp h, a, b, c⟩
noncomputable def tornF (st : List Lane) : Option (Nat × Nat) := Classical.choose (firstO_ex (tornB st) st.length)
theorem tornF_ok (st : List Lane) : FirstO (tornB st) st.length (tornF st) := Classical.choose_spec (firstO_ex (tornB st) st.length)
theorem tornF_eq {st : List Lane} {o : Option (Nat × Nat)} (h : FirstO (tornB st) st.length o) : tornF st = o := firstO_uniq (tornF_ok st) h
def firstD (st : List Lane) : Int := (homesL st).headD 0
noncomputable def homeP (st : List Lane) : Str × Int × Int := match tornF st with
  | some (i, j) => ("never", (i : Int), (j : Int))
  | none => ("nights", firstD st, (lcmL st : Int))
noncomputable def homeT (st : List Lane) : T := tU (homeP st).1 (homeP st).2.1 (homeP st).2.2
def R_homeT (C : Addr) : Rel := fun ts L r L' => ∃ (t : Tw), ts = [tTw C t] ∧ StOk t.st ∧ r = .v (homeT t.st) ∧ L' = L
theorem home_rel {C : Addr} : ∀ ts L r L', R_homeT C ts L r L' → R_home C ts L r L' := by
  rintro ts L r L' ⟨q, rfl, ok, rfl, rfl⟩
  refine ⟨q, tornF q.st, rfl, ok, tornF_ok _, rfl, ?_⟩
  unfold homeT homeP
  have hF := tornF_ok q.st
  cases e : tornF q.st with
  | some p => obtain ⟨i, j⟩ := p; rfl
  | none =>
    rw [e] at hF
    obtain ⟨d, ds, hd⟩ := homes_some ok hF
    refine ⟨d, ds, hd, ?_⟩
    show R.v (tU "nights" (firstD q.st) (lcmL q.st)) = _
    unfold firstD; rw [hd]; rfl
theorem homeP_some {st : List Lane} {i j : Nat} (h : tornF st = some (i, j)) : homeP st = ((("never" : Str)), (i : Int), (j : Int)) := by unfold homeP; rw [h]
theorem homeP_none {st : List Lane} (h : tornF st = none) : homeP st = ((("nights" : Str)), firstD st, (lcmL st : Int)) := by unfold homeP; rw [h]
theorem homeT_some {st : List Lane} {i j : Nat} (h : tornF st = some (i, j)) : homeT st = tU "never" i j := by unfold homeT; rw [homeP_some h]
theorem homeT_none {st : List Lane} (h : tornF st = none) : homeT st = tU "nights" (firstD st) (lcmL st) := by unfold homeT; rw [homeP_none h]
theorem firstD_ok {st : List Lane} (ok : StOk st) (h : tornF st = none) : homeB st (firstD st) = true ∧ 0 ≤ firstD st ∧ firstD st < lcmL st := by
  have hF := tornF_ok st
  rw [h] at hF
  obtain ⟨d, ds, hd⟩ := homes_some ok hF
  have e : firstD st = d := by unfold firstD; rw [hd]; rfl
  have hm : d ∈ homesL st := by rw [hd]; exact List.mem_cons_self
  obtain ⟨h1, h2⟩ := List.mem_filter.mp hm
  have h3 := mem_rangeT.mp h1
  rw [e]
  exact ⟨h2, h3.1, by omega⟩
/-- a home day: then none are torn -/
theorem nvB_of {h l : Lane} (h1 : 1 ≤ h.r) (l1 : 1 ≤ l.r) {d : Int} (a : turnsB h d = true) (b : turnsB l d = true) : nvB h l = false := by
  unfold nvB
  have a1 := Int.dvd_of_emod_eq_zero (of_decide_eq_true a)
  have b1 := Int.dvd_of_emod_eq_zero (of_decide_eq_true b)
  have eh : (h.r.toNat : Int) = h.r := by omega
  have el : (l.r.toNat : Int) = l.r := by omega
  have g1 : ((Nat.gcd h.r.toNat l.r.toNat : Nat) : Int) ∣ h.r := by
    have := Int.natCast_dvd_natCast.mpr (Nat.gcd_dvd_left h.r.toNat l.r.toNat)
    rwa [eh] at this
  have g2 : ((Nat.gcd h.r.toNat l.r.toNat : Nat) : Int) ∣ l.r := by
    have := Int.natCast_dvd_natCast.mpr (Nat.gcd_dvd_right h.r.toNat l.r.toNat)
    rwa [el] at this
  have := Int.dvd_sub (Int.dvd_trans g2 b1) (Int.dvd_trans g1 a1)
  rw [show d - l.n - (d - h.n) = h.n - l.n by omega] at this
  rw [decide_eq_true (Int.emod_eq_zero_of_dvd this)]; rfl
theorem torn_none_of {st : List Lane} (ok : ∀ l ∈ st, 1 ≤ l.r) {d : Int} (h : homeB st d = true) : tornF st = none := by
  refine tornF_eq fun i j hij hj => ?_
  have hi : i < st.length := by omega
  unfold tornB
  rw [List.getD_eq_getElem?_getD, List.getD_eq_getElem?_getD, List.getElem?_eq_getElem hi, List.getElem?_eq_getElem hj]
  unfold homeB at h
  rw [List.all_eq_true] at h
  exact nvB_of (ok _ (List.getElem_mem hi)) (ok _ (List.getElem_mem hj)) (h _ (List.getElem_mem hi)) (h _ (List.getElem_mem hj))
theorem torn_none_iff {st : List Lane} (ok : StOk st) : tornF st = none ↔ ∃ d, homeB st d = true :=
  ⟨fun h => ⟨_, (firstD_ok ok h).1⟩, fun ⟨_, h⟩ => torn_none_of (fun l hl => (ok.2 l hl).1) h⟩
theorem lcmL_eq {st st' : List Lane} (h : ∀ l ∈ st, ∃ m ∈ st', m.r = l.r) (h' : ∀ l ∈ st', ∃ m ∈ st, m.r = l.r) : lcmL st = lcmL st' :=
  Nat.dvd_antisymm (lcmL_least fun l hl => by obtain ⟨m, hm, e⟩ := h l hl; rw [← e]; exact lcmL_mem hm) (lcmL_least fun l hl => by obtain ⟨m, hm, e⟩ := h' l hl; rw [← e]; exact lcmL_mem hm)
theorem homeP_eq {st st' : List Lane} (ok : StOk st) (ok' : StOk st') (hb : ∀ d, homeB st d = homeB st' d) (hl : lcmL st = lcmL st') (h : tornF st = none) : homeP st = homeP st' := by
  have h2 : tornF st' = none := (torn_none_iff ok').mpr (by
    obtain ⟨d, hd⟩ := (torn_none_iff ok).mp h
    exact ⟨d, by rw [← hb]; exact hd⟩)
  rw [homeP_none h, homeP_none h2]
  have : homesL st = homesL st' := by unfold homesL; rw [hl]; exact List.filter_congr fun d _ => hb d
  unfold firstD
  rw [this, hl]
/-- shapes -/
theorem sh_S {x : Str} (h : (PyData.str x).canLay0 = true := by decide +kernel) : Sh (S x) (.str x) 0 := ⟨by unfold pd pdV; rfl, h, Nat.zero_le _⟩
theorem eqv_str (x y : Str) : PyData.eqv (.str x) (.str y) = decide (x = y) := by
  by_cases h : x = y
  · subst h; simp [PyData.eqv]
  · simp [PyData.eqv, h]
theorem tag_ok (st : List Lane) : (homeP st).1 = ("never" : Str) ∨ (homeP st).1 = ("nights" : Str) := by
  cases e : tornF st with
  | some p => obtain ⟨i, j⟩ := p; rw [homeP_some e]; exact .inl rfl
  | none => rw [homeP_none e]; exact .inr rfl
theorem sh_tag {tag : Str} (h : tag = ("never" : Str) ∨ tag = ("nights" : Str)) : Sh (S tag) (.str tag) 0 := by
  rcases h with rfl | rfl <;> exact sh_S
theorem sh_UU {tag : Str} (h : tag = ("never" : Str) ∨ tag = ("nights" : Str)) (i j : Int) : Sh (tU tag i j) (dU tag i j) 1 := sh_tup (shl_cons (sh_tag h) (shl_cons (sh_I _) (shl_cons (sh_I _) shl_nil)))
theorem sh_home (st : List Lane) : Sh (homeT st) (dU (homeP st).1 (homeP st).2.1 (homeP st).2.2) 1 := sh_UU (tag_ok st) _ _
theorem eqv_U (t u : Str) (i j k l : Int) : PyData.eqv (dU t i j) (dU u k l) = decide (t = u ∧ i = k ∧ j = l) := by
  unfold dU
  rw [PyData.eqv, PyData.eqvAll, PyData.eqvAll, PyData.eqvAll, PyData.eqvAll, eqv_str, eqv_int, eqv_int]
  by_cases h1 : t = u <;> by_cases h2 : i = k <;> by_cases h3 : j = l <;> simp [h1, h2, h3]
theorem eqT_home {st st' : List Lane} (h : homeP st = homeP st') : eqT (homeT st) (homeT st') = true := by
  rw [(sh_home st).eqT (sh_home st'), eqv_U, h]; simp
theorem eqT_S {x y : Str} (hx : (PyData.str x).canLay0 = true := by decide +kernel) (hy : (PyData.str y).canLay0 = true := by decide +kernel) : eqT (S x) (S y) = decide (x = y) := by
  rw [(sh_S hx).eqT (sh_S hy), eqv_str]
theorem eqT_B (x y : Bool) : eqT (B x) (B y) = decide (x = y) := by
  rw [(sh_B x).eqT (sh_B y)]
  cases x <;> cases y <;> simp [PyData.eqv]
def twoTw (n : Int) (a b : Lane) : Tw := ⟨n, [a, b], [], []⟩
def stTw (n : Int) (st : List Lane) : Tw := ⟨n, st, [], []⟩
theorem stTw_made (n : Int) (st : List Lane) : (stTw n st).made = stTw n st := by
  unfold stTw Tw.made
  show Tw.mk n st (sortP []) (sortI []) = _
  have e1 : sortP [] = [] := List.length_eq_zero_iff.mp (sortP_perm []).length_eq
  have e2 : sortI [] = [] := List.length_eq_zero_iff.mp (sortI_perm []).length_eq
  rw [e1, e2]
theorem stTw_ok {q : Tw} (ok : PartsOk q) {st : List Lane} (h : ∀ l ∈ st, l ∈ q.st) (h12 : st.length ≤ 12) : PartsOk (stTw q.n st) :=
  ⟨ok.n1, ok.n8, fun l hl => ok.st l (h l hl), h12, ⟨fun p hp => (nomatch hp), List.nodup_nil⟩, ⟨fun p hp => (nomatch hp), List.nodup_nil⟩⟩
theorem PartsOk.stOk {q : Tw} (ok : PartsOk q) : StOk q.st := ⟨ok.s12, fun l hl => ⟨(ok.st l hl).r1, (ok.st l hl).r2⟩⟩
section
variable {CX : CXT} {P : Program} {w : World} {K : PySem.W.Frag} {mg : Str → Option Value} {base : Heap} {k : Nat} {N : List Str} {sc : Scope} {fs : Str → Bool} {X : Cx}
variable {tg iter elt : Expr} {ifs : List Expr} {ρ : TEnv} {L L1 : Store} {pos : Pos} {x : Str}
theorem wlc1 {scope : Scope} {own : List (Str × Nat)} {js : List Nat} {α : Type} {xs : List α} {f : α → T} {pf : α → Bool} {gf : α → T} {ρf : α → TEnv} {p1 p' : Pos} {rest : List Stmt} {kk : TK} (ct : Ct CX P w K mg base k N sc fs X) (n : Nat)
    (hi : EvI X tg iter ρ L (xs.map f) L1) (hz : xs.length ≤ 100000)
    (ht : ∀ x ∈ xs, ∀ Y, Bk CX P w K mg base k N sc scope Y → TgT Y tg js (f x) (wipeT ρ (own.map (·.2))) (ρf x) L1) (hc : ∀ x ∈ xs, ∀ Y, Bk CX P w K mg base k N sc scope Y → EvC Y ifs (ρf x) L1 (pf x) L1)
    (he : ∀ x ∈ xs, pf x = true → ∀ Y, Bk CX P w K mg base k N sc scope Y → Ev Y elt (ρf x) L1 (.v (gf x)) L1) (h : WS X rest (ρ.set n (some (.lst ((xs.filter pf).map gf)))) L1 kk)
    (hx : locOk N sc fs n x = true := by decide +kernel) (hxl : sc.names.lookup x = some .local := by decide +kernel) (ok : blkC N sc scope own = true := by decide +kernel) (hk : scope.kind = .function := by rfl) (hjs : ∀ j ∈ js, j ∈ own.map (·.2) := by decide)
    (hsw : (p'.line == p1.line) = true := by rfl) (ha : (scope.names.any fun (n, k) => n == x && (k == .local || k == .cell)) = false := by decide +kernel) (hs : ∀ x, foldedSetIterable iter X.env x = pure x := by intro _; rfl) : WS X (.Assign [.Name x p'] (.ListComp elt [⟨tg, iter, ifs, 0⟩] scope p1) pos :: rest) ρ L kk :=
  wlc ct n hx hxl ok hi hz ht hc he h hk hjs hsw ha hs
theorem wlc0 {scope : Scope} {own : List (Str × Nat)} {js : List Nat} {α : Type} {xs : List α} {f : α → T} {gf : α → T} {ρf : α → TEnv} {p1 p' : Pos} {rest : List Stmt} {kk : TK} (ct : Ct CX P w K mg base k N sc fs X) (n : Nat)
    (hi : EvI X tg iter ρ L (xs.map f) L1) (hz : xs.length ≤ 100000)
    (ht : ∀ x ∈ xs, ∀ Y, Bk CX P w K mg base k N sc scope Y → TgT Y tg js (f x) (wipeT ρ (own.map (·.2))) (ρf x) L1)
    (he : ∀ x ∈ xs, ∀ Y, Bk CX P w K mg base k N sc scope Y → Ev Y elt (ρf x) L1 (.v (gf x)) L1) (h : WS X rest (ρ.set n (some (.lst (xs.map gf)))) L1 kk)
    (hx : locOk N sc fs n x = true := by decide +kernel) (hxl : sc.names.lookup x = some .local := by decide +kernel) (ok : blkC N sc scope own = true := by decide +kernel) (hk : scope.kind = .function := by rfl) (hjs : ∀ j ∈ js, j ∈ own.map (·.2) := by decide)
    (hsw : (p'.line == p1.line) = true := by rfl) (ha : (scope.names.any fun (n, k) => n == x && (k == .local || k == .cell)) = false := by decide +kernel) (hs : ∀ x, foldedSetIterable iter X.env x = pure x := by intro _; rfl) : WS X (.Assign [.Name x p'] (.ListComp elt [⟨tg, iter, [], 0⟩] scope p1) pos :: rest) ρ L kk := by
  refine wlc1 (pf := fun _ => true) (own := own) (js := js) ct n hi hz ht (fun _ _ _ _ => ec_nil) (fun x hx _ => he x hx) ?_ hx hxl ok hk hjs hsw ha hs
  rw [List.filter_eq_self.mpr (fun _ _ => rfl)]
  exact h
end
section
variable {X : Cx} {es : List Expr} {ρ : TEnv} {L L1 Lb : Store} {t : T} {ts : List T}
theorem eaN {n : Str} {p : Pos} (ha : Ev X (.Name n p) ρ L (.v t) L1) (hb : EvA X es ρ L1 ts Lb) : EvA X (.Name n p :: es) ρ L (t :: ts) Lb := ea_cons ha hb se1
theorem eaC {c : Const} {j p} (ha : Ev X (.Constant c j p) ρ L (.v t) L1) (hb : EvA X es ρ L1 ts Lb) : EvA X (.Constant c j p :: es) ρ L (t :: ts) Lb := ea_cons ha hb se2
theorem eaL {l : List Expr} {p : Pos} (ha : Ev X (.List l p) ρ L (.v t) L1) (hb : EvA X es ρ L1 ts Lb) : EvA X (.List l p :: es) ρ L (t :: ts) Lb := ea_cons ha hb se3
theorem eaT {l : List Expr} {j p} (ha : Ev X (.Tuple l j p) ρ L (.v t) L1) (hb : EvA X es ρ L1 ts Lb) : EvA X (.Tuple l j p :: es) ρ L (t :: ts) Lb := ea_cons ha hb se4
theorem eaK {f : Expr} {l k p} (ha : Ev X (.Call f l k p) ρ L (.v t) L1) (hb : EvA X es ρ L1 ts Lb) : EvA X (.Call f l k p :: es) ρ L (t :: ts) Lb := ea_cons ha hb se5
theorem eaB {x y : Expr} {o p} (ha : Ev X (.BinOp x o y p) ρ L (.v t) L1) (hb : EvA X es ρ L1 ts Lb) : EvA X (.BinOp x o y p :: es) ρ L (t :: ts) Lb := ea_cons ha hb se6
theorem eaS {x y : Expr} {p} (ha : Ev X (.Subscript x y p) ρ L (.v t) L1) (hb : EvA X es ρ L1 ts Lb) : EvA X (.Subscript x y p :: es) ρ L (t :: ts) Lb := ea_cons ha hb se7
theorem eaA {x : Expr} {n p} (ha : Ev X (.Attribute x n p) ρ L (.v t) L1) (hb : EvA X es ρ L1 ts Lb) : EvA X (.Attribute x n p :: es) ρ L (t :: ts) Lb := ea_cons ha hb se8
theorem eaM {x : Expr} {g s p} (ha : Ev X (.ListComp x g s p) ρ L (.v t) L1) (hb : EvA X es ρ L1 ts Lb) : EvA X (.ListComp x g s p :: es) ρ L (t :: ts) Lb := ea_cons ha hb se9
end
end TL


/-! Rules that the hand layer lacks: list += list, set(list of ints), sum of a tuple, in a tuple, a sequence backwards. -/
namespace TL
open PySem PySem.Spec PyProof.Rows L2
section
variable {prog : Program} {w : World} {A : Around} {E : Value → Shared → Prop} {s : Shared} {l b : Addr} {items items2 : Array Value} {n n2 : Nat}
theorem iadd_list {Q : Value → Shared → Prop} (hl : s.heap.get? l = some { cls := .type "list", dict := none, data := .seq items n, slots := #[] }) (hb : s.heap.get? b = some { cls := .type "list", dict := none, data := .seq items2 n2, slots := #[] })
    (h0 : ¬(!items.isEmpty && Builtin.List.listTooLong (items.size + items2.size)) = true) (h1 : items.size ≤ sizeLine) (h2 : items.size + items2.size ≤ sizeLine + 1)
    (h : Q (.ref l) { s with heap := s.heap.update l (Obj.mapSeq fun x => x ++ items2) }) : wpAny (model prog w) A (inplaceOp .Add (.ref l) (.ref b)) Q E s := by
  have ta : s.TypeIs (.ref l) "list" := ⟨_, hl, rfl⟩
  have tb : s.TypeIs (.ref b) "list" := ⟨_, hb, rfl⟩
  unfold inplaceOp
  refine wpAny_holding ?_
  have hsq : isSeqSlot (some (.builtin "list.__iadd__")) = true := by decide +kernel
  have hfi : fillsInplaceSlot (.type "list") "add" (Operator.Add == .Add) = pure false := by
    unfold fillsInplaceSlot
    show (typeLookup (.type "list") (dunderI "add") >>= fun fi => pure (fi.isSome && !isSeqSlot fi)) = pure false
    rw [F.slot_list_iadd.lookup]
    show (pure (true && !isSeqSlot (some (.builtin "list.__iadd__"))) : Sem Bool) = pure false
    rw [hsq]; rfl
  refine wpAny_bind (wpAny_typeOf ta (wpAny_bind (wpAny_of_eq hfi ?_)))
  show wpAny _ A (if false = true then _ else _) Q E s
  rw [if_neg Bool.false_ne_true]
  refine wpAny_bind (wpAny_binaryOp1_none (nm := "add") ta tb noFill_list_add ?_)
  refine wpAny_bind (wpAny_of_eq (PySem.seqSlot_of F.slot_list_iadd.lookup hsq) ?_)
  refine wpAny_bind (wpAny_rule ?_)
  exact call_meets F.slot_list_iadd ta F.entry_list_iadd (F.args_list_iadd_2 _ _) (AutoSeq1.list___iadd___list_list_0 l items n b items2 n2 h0 h1 h2) ⟨hl, hb, h⟩
end
section
open PySem.Calls PyProof.V
variable {prog : Program} {w : World} {A : Around} {E : Value → Shared → Prop} {s : Shared}
theorem sum_tup {t : Addr} {its : Array Value} {ns : List Int} {Q : Value → Shared → Prop} (hh : A.handled = none) (ht : s.heap.IsTuple t its) (hi : IntsAre its.toList ns)
    (h : ∀ h' tk t', (∀ b o, s.heap.get? b = some o → h'.get? b = some o) → Q (.int ns.sum t') { s with heap := h', toks := tk }) : wpAny (model prog w) A (call (.builtin "sum") [.ref t]) Q E s := by
  have hm := hi.numsOf
  obtain ⟨xs, hx⟩ := hi.allInts.items
  have e : its = intItems xs := by rw [← hx]
  subst e
  rw [nums_intItems] at hm
  refine PySem.W.ktm_sumG hh ht fun h' tk t' hk => ?_
  have := h h' tk t' hk
  rw [preSum_eq, List.take_of_length_le (by simp), hm]
  exact this
end
section
open PySem.Calls
variable {prog : Program} {w : World} {A : Around} {E : Value → Shared → Prop} {s : Shared}
/-- an empty set, new -/
abbrev set0 (w : World) : Obj := { cls := .type "set", dict := none, data := .set #[] 0 (.fresh 0 0 (!w.params.followText "set-order")) }
/-- set(l) of a list of ints: what the made set holds -/
theorem set_listR {l : Addr} {its : Array Value} (ns : List Int) {Q : Value → Shared → Prop} (hcalm : A.handled = none) (isL : s.heap.IsList l its) (isI : IntsAre its.toList ns) (few : ns.length + 1 < scanBound)
    (q : ∀ (h' : Heap) (tk c : Nat), SetR w h' s.heap.objs.size (fun j => decide (j ∈ ns)) c → c ≤ ns.length → (∀ b o, s.heap.get? b = some o → h'.get? b = some o) → Q (.ref s.heap.objs.size) { s with heap := h', toks := tk }) :
    wpAny (model prog w) A (call (.type "set") [.ref l]) Q E s := by
  have size_eq : its.size = ns.length := by rw [← Array.length_toList]; exact IntsAre.length isI
  have mro := F.called_set.mro
  obtain ⟨c0, tl0, mro⟩ := mro
  have made := F.called_set.made
  have sub := F.called_set.sub
  refine wpAny_call (codeAny_of_tree (show wpAny _ _ (callAny (.type "set") _) _ _ _ from wpAny_pure ⟨Code.quiet_builtin _ (by decide +kernel), codeAny_builtin F.entry_type_call ?_⟩))
  rw [Around.under_plain (weight_type_call_type "set" [.ref l] []) rfl]
  have k1 := F.called_set.notType
  have k2 := F.called_set.canCreate
  have k3 := F.typeCall_set_1 (.ref l)
  repeat (any_goals (first | assumption | wp_step))
  refine codeAny_mono (L2.code_set_led1 (P := prog) (w := w) (.ref l) (E := E) (Q₁ := fun x s₁ => x = .ref s.heap.objs.size ∧ s₁ = { s with heap := s.heap.push (set0 w) }) ⟨rfl, rfl⟩) fun r s₁ hr => ?_
  rcases r with e | fl
  · exact hr
  rcases fl with _ | _ | _ | x
  all_goals first | exact hr.elim | skip
  obtain ⟨rfl, rfl⟩ := hr
  have atS : (s.heap.push (set0 w)).get? s.heap.objs.size = some (set0 w) := Heap.get?_push_size _ rfl
  have tyS : Shared.TypeIs { s with heap := s.heap.push (set0 w) } (.ref s.heap.objs.size) "set" := ⟨_, atS, rfl⟩
  have look := F.called_set.init.lookup
  have bind := F.called_set.init.bind (.ref s.heap.objs.size)
  repeat (any_goals (first | assumption | wp_step))
  refine codeAny_mono (codeAny_call_builtin (R := wants (fun r s₂ => r = .none ∧ ∃ h' tk c, s₂ = { s with heap := h', toks := tk } ∧ SetR w h' s.heap.objs.size (fun j => decide (j ∈ ns)) c ∧ c ≤ ns.length ∧
    (∀ b o, s.heap.get? b = some o → h'.get? b = some o)) E) F.called_set.init.plain F.entry_set_init (check_set_init_1 tyS ?ini)) fun r₂ s₂ hr₂ => ?fin
  case fin =>
    rcases r₂ with e | fl
    · exact hr₂
    rcases fl with _ | _ | _ | x
    all_goals first | exact hr₂.elim | skip
    obtain ⟨rfl, h', tk, c, rfl, a1, a2, a3⟩ := hr₂
    repeat (any_goals (first | assumption | wp_step))
    exact q _ _ _ a1 a2 a3
  case ini =>
    obtain ⟨ol, atL, clsL, nl, datL⟩ := isL
    obtain ⟨ocls, odict, odata, oslots⟩ := ol
    simp only at clsL datL
    subst clsL; subst datL
    have atL1 : (s.heap.push (set0 w)).get? l = some { cls := .type "list", dict := odict, data := .seq its nl, slots := oslots } := Heap.get?_push_of_some _ atL
    have sb1 := F.sub_list_set
    have sb2 := F.sub_list_frozenset
    have nodict : (Value.type "list" == Value.type "dict") = false := by decide
    have isL1 : (s.heap.push (set0 w)).IsList l its := ⟨_, atL1, rfl, nl, rfl⟩
    unfold Builtin.«set.__init__» noKeywords Builtin.Frozenset.updateFrom
    generalize hIter : pyIter = Iter
    wp_walk
    subst hIter
    refine wpAny_pyIter_list isL1 ?_
    refine wpAny_bind (wpAny_runValue ?_)
    have lt0 : l < s.heap.objs.size := Heap.lt_size atL
    have calm3 : A.in1.in1.in1.handled = none := by simp [hcalm]
    have sz1 : (s.heap.push (set0 w)).objs.size = s.heap.objs.size + 1 := Heap.size_push ..
    have ne1 : l ≠ (s.heap.push (set0 w)).objs.size := sz1 ▸ Nat.ne_of_lt (Nat.lt_succ_of_lt lt0)
    have away : s.heap.objs.size ∉ [(s.heap.push (set0 w)).objs.size, l] := by
      rw [sz1]
      simp only [List.mem_cons, List.not_mem_nil, or_false, not_or]
      exact And.intro (Nat.ne_of_lt (Nat.lt_succ_self s.heap.objs.size)) (Nat.ne_of_gt lt0)
    have vals : ∀ (i : Nat) (v : Value), its[i]? = some v → ∃ k t, ns[i]? = some k ∧ v = .int k t := fun i v hv => by
      have hi : i < ns.length := size_eq ▸ (Array.getElem?_eq_some_iff.mp hv).1
      obtain ⟨t, e⟩ := PyProof.Rows.IntsAre.int_at isI i v (by rw [Array.getElem?_toList]; exact hv)
      exact ⟨ns[i], t, List.getElem?_eq_getElem hi, by rw [e, List.getD_eq_getElem?_getD, List.getElem?_eq_getElem hi] <;> rfl⟩
    have start := (⟨_, Heap.get?_push_size _ rfl, rfl, rfl⟩ : ((s.heap.push (set0 w)).push { cls := .type "list_iterator", data := .fields #[.ref l, .int 0 0] }).IsListIter (s.heap.push (set0 w)).objs.size l 0)
    refine L2.set_update_ints ((Walks.list calm3 _ l ne1 its).toS) s.heap.objs.size away ns size_eq few vals (its.size - 0) 0 _ (by omega) (Nat.zero_le _) ⟨start, (isL1.push _)⟩ ⟨0, Nat.le_refl 0, L2.setR_new_at (Heap.get?_push_of_some _ atS)⟩ fun s' c' moved le' isS => ?_
    obtain ⟨h', g2, d', tk', os'⟩ := s'
    obtain rfl : g2 = s.gens := moved.gens
    obtain rfl : d' = s.drawn := moved.drawn
    obtain rfl : os' = s.os := moved.os
    show wpAny _ _ _ _ _ _
    refine wpAny_pure ?_
    show wpAny _ _ (ret Value.none) _ _ _
    refine wpAny_pure ⟨rfl, h', tk', c', rfl, isS, size_eq ▸ le', fun b o e => ?_⟩
    have lb : b < s.heap.objs.size := Heap.lt_size e
    refine moved.heap b o ?_ (Heap.get?_push_of_some _ (Heap.get?_push_of_some _ e))
    simp only [List.mem_cons, List.not_mem_nil, or_false, not_or]
    rw [sz1]
    exact And.intro (Nat.ne_of_lt lb) (Nat.ne_of_lt (Nat.lt_succ_of_lt lb))
end
section
variable {X : Cx}
/-- += of lists, in place -/
def ipL : TIp := fun x y H Q => ∃ l b xs zs, x = .ref l ∧ y = .ref b ∧ H l = some (.lst xs) ∧ H b = some (.lst zs) ∧ xs.length + zs.length ≤ 100000 ∧ Q (.ref l) (upd H l (.lst (xs ++ zs)))
theorem ip_catL : PIp X .Add ipL := by
  intro pins s σ H x y v u Q I rx ry h
  obtain ⟨l, b, xs, zs, rfl, rfl, hH, hB, hz, q⟩ := h
  cases rx
  cases ry
  obtain ⟨z, its, n, r, hl, e⟩ := I.lstM hH
  obtain ⟨z2, its2, n2, r2, hl2, e2⟩ := I.lstM hB
  have h5 : (100000 : Nat) ≤ sizeLine := by decide
  have hsz : its.toArray.size + its2.toArray.size ≤ sizeLine := by rw [List.size_toArray, List.size_toArray]; omega
  have hlong : ¬ (!its.toArray.isEmpty && Builtin.List.listTooLong (its.toArray.size + its2.toArray.size)) = true := by
    rw [notLongL hsz, Bool.and_false]
    exact Bool.false_ne_true
  refine iadd_list e e2 hlong (by omega) (by omega) ?_
  exact ⟨.ref _, _, I.lset (its' := its ++ its2) hH e (by simp) (r.append r2) (by rw [List.length_append]; omega), rfl, q⟩
/-- sum of a tuple of ints -/
def rSumT (K : PySem.W.Frag) : List V → Hp → VK → Prop := fun vs H Q => ∃ (a : Addr) (ns : List Int), vs = [V.ref a] ∧ SqT K H a (ns.map V.int) ∧ Q (.int ns.sum) H
theorem cr_sumT (hc : X.calm = true) : CallR X (.builtin "sum") (rSumT X.K) := by
  intro pins s σ H vs us Q I r h
  obtain ⟨a, ns, rfl, hs, q⟩ := h
  obtain ⟨its, rv, pt, hz⟩ := I.tuple hs
  rw [Vals.ref1 r]
  exact sum_tup (I.ok.hd hc) (show s.heap.IsTuple a its.toArray from pt) (by simpa using rv.ints) fun h' tk t' hk => ⟨.int _, H, I.kept hk, ⟨_, rfl⟩, q⟩
/-- set of a list of ints -/
def rSetL (K : PySem.W.Frag) (w : World) : List V → Hp → VK → Prop := fun vs H Q => ∃ (a : Addr) (ns : List Int), vs = [V.ref a] ∧ SqL K H a (ns.map V.int) ∧ ns.length ≤ 1000 ∧
  ∀ (p : Addr) (c : Nat), H p = none → c ≤ ns.length → Q (.ref p) (upd H p (SetO w p (fun j => decide (j ∈ ns)) c))
theorem cr_setL (hc : X.calm = true) : CallR X (.type "set") (rSetL X.K X.w) := by
  intro pins s σ H vs us Q I r h
  obtain ⟨a, ns, rfl, hs, hz, q⟩ := h
  obtain ⟨its, rv, pl, _⟩ := I.list hs
  rw [Vals.ref1 r]
  refine set_listR (prog := X.prog) (w := X.w) ns (I.ok.hd hc) pl.isList (by simpa using rv.ints) (by unfold scanBound; omega) fun h' tk c R hcn k => ?_
  exact ⟨.ref s.heap.objs.size, upd H s.heap.objs.size (SetO X.w s.heap.objs.size (fun j => decide (j ∈ ns)) c), I.laid (t' := tk) k (Nat.le_refl _) (setO_new R), rfl, q _ c (I.hok.fresh (Nat.le_refl _)) hcn⟩
/-- x in a tuple of data -/
def rInTD (K : PySem.W.Frag) (neg : Bool) : R2 := fun x y H Q => ∃ d ds, Dp K H x d ∧ Dp K H y (.tuple ds) ∧ SeqAt.shaped d = true ∧ SeqAt.shaped (.tuple ds) = true ∧ Q (.bl (if neg = true then !ds.any fun z => PyData.eqv z d else ds.any fun z => PyData.eqv z d)) H
theorem op_inTD (room : X.A.units + 65 < cLine) : OpR X (compareOp .In) (rInTD X.K false) := fun pins s σ H x y v u Q Iv r1 r2 ⟨d, ds, p1, p2, shd, shs, q⟩ => by
  have ⟨_, rd1⟩ := Dp.reads Iv d x v p1 r1
  have ⟨_, rd2⟩ := Dp.reads Iv (.tuple ds) y u p2 r2
  exact SeqAt.in_tuple_reads rd2 rd1 (SeqAt.canLay_of_shaped shs) (SeqAt.canLay_of_shaped shd) (room_in_shaped shd room) ⟨.bl _, H, Iv, rfl, q⟩
theorem op_notInTD (room : X.A.units + 65 < cLine) : OpR X (compareOp .NotIn) (rInTD X.K true) := fun pins s σ H x y v u Q Iv r1 r2 ⟨d, ds, p1, p2, shd, shs, q⟩ => by
  have ⟨_, rd1⟩ := Dp.reads Iv d x v p1 r1
  have ⟨_, rd2⟩ := Dp.reads Iv (.tuple ds) y u p2 r2
  exact SeqAt.notIn_tuple_reads rd2 rd1 (SeqAt.canLay_of_shaped shs) (SeqAt.canLay_of_shaped shd) (room_in_shaped shd room) ⟨.bl _, H, Iv, rfl, q⟩
end
end TL


/-! The tree layer, part I: sets of ints that are sorted, list += list, sums, in a tuple, lists as cells. -/
namespace TL
open PySem PySem.Spec PyProof.Rows L2
def sortU (ns : List Int) : List Int := sortI ns.eraseDups
theorem mem_sortU {ns : List Int} {k : Int} : k ∈ sortU ns ↔ k ∈ ns := by
  unfold sortU
  rw [(sortI_perm _).mem_iff, List.mem_eraseDups]
theorem nodup_eraseDups : ∀ (n : Nat) (ns : List Int), ns.length ≤ n → ns.eraseDups.Nodup
  | _, [], _ => by simp
  | n + 1, a :: l, h => by
    rw [List.eraseDups_cons]
    refine List.nodup_cons.mpr ⟨fun hm => ?_, nodup_eraseDups n _ ?_⟩
    · rw [List.mem_eraseDups, List.mem_filter] at hm
      simp at hm
    · have := List.length_filter_le (fun b => !b == a) l
      simp only [List.length_cons] at h
      omega
theorem sortU_strict (ns : List Int) : (sortU ns).Pairwise (· < ·) := by
  unfold sortU
  have h1 := sortI_sorted ns.eraseDups
  have h2 : (sortI ns.eraseDups).Nodup := (sortI_perm _).nodup_iff.mpr (nodup_eraseDups _ _ (Nat.le_refl _))
  have := List.Pairwise.and h1 h2
  exact this.imp fun {a b} h => by have := h.1; have := h.2; omega
theorem strict_uniq : ∀ {l m : List Int}, l.Pairwise (· < ·) → m.Pairwise (· < ·) → (∀ k, k ∈ l ↔ k ∈ m) → l = m
  | [], [], _, _, _ => rfl
  | [], b :: m, _, _, h => by have := (h b).mpr List.mem_cons_self; cases this
  | a :: l, [], _, _, h => by have := (h a).mp List.mem_cons_self; cases this
  | a :: l, b :: m, h1, h2, h => by
    obtain ⟨a1, a2⟩ := List.pairwise_cons.mp h1
    obtain ⟨b1, b2⟩ := List.pairwise_cons.mp h2
    have e : a = b := by
      rcases List.mem_cons.mp ((h a).mp List.mem_cons_self) with e | e
      · exact e
      · rcases List.mem_cons.mp ((h b).mpr List.mem_cons_self) with e2 | e2
        · exact e2.symm
        · have := a1 _ e2; have := b1 _ e; omega
    subst e
    refine congrArg _ (strict_uniq a2 b2 fun k => ⟨fun hk => ?_, fun hk => ?_⟩)
    · rcases List.mem_cons.mp ((h k).mp (List.mem_cons_of_mem _ hk)) with e | e
      · have := a1 k hk; omega
      · exact e
    · rcases List.mem_cons.mp ((h k).mpr (List.mem_cons_of_mem _ hk)) with e | e
      · have := b1 k hk; omega
      · exact e
theorem sortU_eq {ns ms : List Int} (h1 : ms.Pairwise (· < ·)) (h2 : ∀ k, k ∈ ms ↔ k ∈ ns) : ms = sortU ns := strict_uniq h1 (sortU_strict ns) fun k => (h2 k).trans mem_sortU.symm
theorem sortU_congr {ns ms : List Int} (h : ∀ k, k ∈ ms ↔ k ∈ ns) : sortU ms = sortU ns := sortU_eq (sortU_strict ms) fun k => mem_sortU.trans (h k)
section
variable {CX : CXT} {P : Program} {w : World} {K : PySem.W.Frag} {mg : Str → Option Value} {base : Heap} {k : Nat} {N : List Str} {sc : Scope} {fs : Str → Bool} {X : Cx}
variable {e a b c tg iter elt : Expr} {es ifs : List Expr} {ρ ρ' ρ1 : TEnv} {L L1 Lb Lc : Store} {t u : T} {ts us : List T} {pos p p2 pos2 : Pos} {i j : Int} {x : Str} {z : R} {ss rest : List Stmt} {kk : TK}
/-- sorted(set(ints)) -/
theorem ev_sortSet {ns : List Int} (ct : Ct CX P w K mg base k N sc fs X) (hm : mg "sorted" = none) (hm2 : mg "set" = none) (ha : EvA X [e] ρ L [t] L1) (hl : LstT L1 t (ns.map I)) (hz : ns.length < 64) (hg : glOk sc "sorted" = true := by decide +kernel) (hg2 : glOk sc "set" = true := by decide +kernel)
    (he : starEach [e] X.env = (false, eval e X.env) :: starEach [] X.env := by first | with_reducible exact se1 | with_reducible exact se2 | with_reducible exact se3 | with_reducible exact se4 | with_reducible exact se5 | with_reducible exact se6 | with_reducible exact se7 | with_reducible exact se8 | with_reducible exact se9 | rfl) (hpl : (backTo pos2 (starEach [] X.env)).any (·.1) = false := by rfl) (hpl2 : (backTo pos (starEach [] X.env)).any (·.1) = false := by rfl) :
    Ev X (.Call (.Name "sorted" p) [.Call (.Name "set" p2) [e] [] pos2] [] pos) ρ L (.n (.lst ((sortU ns).map I))) L1 := by
  refine ⟨fun W H σ Q s en q => ?_⟩
  refine wp_pe (pe_callB (cr_sortedSet ct.calm) (ct.gl hg) (by rw [ct.hmg]; exact hm) PyProof.Rows.boot_sorted (pa_cons (pe_callTy (cr_setL ct.calm) (ct.gl hg2) (by rw [ct.hmg]; exact hm2) PyProof.Rows.boot_set pa_wp (glOk_of hg2).2.2 (glOk_of hg2).2.1 he hpl) pa_nil se5) (glOk_of hg).2.2 (glOk_of hg).2.1 se5 hpl2) ?_
  refine ha W H σ _ s en fun xs W1 H1 st1 s1 r1 => ?_
  obtain ⟨x, rfl, r⟩ := rp1 r1
  obtain ⟨l, vs, rfl, hq, rr⟩ := lst_sq s1 r hl
  have e1 := RpL.atoms V.int rr
  subst e1
  refine ⟨l, ns, rfl, hq, by omega, fun p1 c hp hc => ?_⟩
  refine ⟨p1, fun j => decide (j ∈ ns), c, rfl, upd_same, by omega, fun ms p3 h1 h2 h3 hp3 => ?_⟩
  have e2 : ms = sortU ns := sortU_eq h1 fun k => (h2 k).trans (by simp)
  subst e2
  have st2 : Step W1 L1 H1 W1 L1 (upd H1 p1 (SetO X.w p1 (fun j => decide (j ∈ ns)) c)) := .newp hp
  have s2 := s1.new (o := SetO X.w p1 (fun j => decide (j ∈ ns)) c) hp
  refine q _ W1 _ (st1.trans (st2.trans (.newp hp3))) (s2.new hp3) (((new_n (t := .lst _) s2 hp3 ⟨_, upd_same, RpL.of_atoms V.int _⟩).back st2.dom).back st1.dom)
/-- sum of a pair -/
theorem ksumP {q : Int × Int} (ct : Ct CX P w K mg base k N sc fs X) (hm : mg "sum" = none) (ha : EvA X [e] ρ L [tPair q] L1) (hg : glOk sc "sum" = true := by decide +kernel)
    (he : starEach [e] X.env = (false, eval e X.env) :: starEach [] X.env := by first | with_reducible exact se1 | with_reducible exact se2 | with_reducible exact se3 | with_reducible exact se4 | with_reducible exact se5 | with_reducible exact se6 | with_reducible exact se7 | with_reducible exact se8 | with_reducible exact se9 | rfl) (hpl : (backTo pos (starEach [] X.env)).any (·.1) = false := by rfl) : Ev X (.Call (.Name "sum" p) [e] [] pos) ρ L (.v (I (q.1 + q.2))) L1 :=
  ev_cb ct (cr_sumT ct.calm) (by decide +kernel) hm hg ha (fun W H xs Q s r0 g => by
    obtain ⟨x, rfl, r⟩ := rp1 r0
    cases r with
    | tup f h rr =>
      have e1 := RpL.atoms (l := [q.1, q.2]) V.int rr
      subst e1
      exact ⟨_, [q.1, q.2], rfl, .inl (.inl h), by rw [show ([q.1, q.2] : List Int).sum = q.1 + q.2 by simp]; exact g _ W H .refl s (.v _)⟩) he hpl
theorem ot_inTD (h1 : shp t = true) (h2 : shp (.tup ts) = true) : OpT K (rInTD K false) t (.tup ts) L (.v (B (inT t (.tup ts)))) := fun W H x y Q s r1 r2 q => by
  obtain ⟨d, e1, s1⟩ := shp_of h1
  obtain ⟨e, e2, s2⟩ := shp_of h2
  have ⟨ds, e4, e3⟩ : ∃ ds, e = .tuple ds ∧ pdL ts = some ds := by
    unfold pd at e2
    cases q : pdL ts with
    | none => rw [q] at e2; cases e2
    | some ds => rw [q] at e2; cases e2; exact ⟨ds, rfl, rfl⟩
  subst e4
  refine ⟨d, ds, dp_of t x d r1 e1, dp_of _ y _ r2 e2, s1, s2, ?_⟩
  rw [if_neg Bool.false_ne_true, any_pd e3 e1]
  exact q _ W H .refl s (.v _)
theorem ev_inTt (ct : Ct CX P w K mg base k N sc fs X) (ha : Ev X a ρ L (.v t) L1) (hb : Ev X b ρ L1 (.v (.tup ts)) Lb) (h1 : shp t = true) (h2 : shp (.tup ts) = true) (hm : behindInMarks .In b = false := by rfl) : Ev X (.Compare a [.In] [b] pos) ρ L (.v (B (inT t (.tup ts)))) Lb := ev_cmp (op_inTD ct.u65) ha hb (ot_inTD h1 h2) hm
theorem eb_inTt (ct : Ct CX P w K mg base k N sc fs X) (ha : Ev X a ρ L (.v t) L1) (hb : Ev X b ρ L1 (.v (.tup ts)) Lb) (h1 : shp t = true) (h2 : shp (.tup ts) = true) (hm : behindInMarks .In b = false := by rfl) : EvB X (.Compare a [.In] [b] pos) ρ L (inT t (.tup ts)) Lb := eb_cmp (op_inTD ct.u65) ha hb (ot_inTD h1 h2) hm
theorem inT_mapT {α : Type} [DecidableEq α] {f : α → T} (h : ∀ a b, eqT (f a) (f b) = decide (a = b)) (a : α) (l : List α) : inT (f a) (.tup (l.map f)) = decide (a ∈ l) := inT_map h a l
/-- name += list, name a cell -/
theorem waugL {p' : Pos} {m : Nat} (ct : Ct CX P w K mg base k N sc fs X) (n : Nat) (hρ : ρ[n]? = some (some (.cel m))) (he : Ev X e ρ L (.v u) L1) (hl : L1 m = some (.lst ts)) (hu : LstM L1 u us) (hne : u ≠ .cel m) (hz : ts.length + us.length ≤ 100000)
    (h : WS X rest (ρ.set n (some (.cel m))) (updS L1 m (some (.lst (ts ++ us)))) kk) (hx : locOk N sc fs n x = true := by decide +kernel) : WS X (.AugAssign (.Name x p') .Add e pos :: rest) ρ L kk := by
  refine ws_cons ?_
  refine ⟨fun W H σ D s en d => ?_⟩
  obtain ⟨h1, h2, h3, h4⟩ := ct.loc hx
  obtain ⟨y, e1, e2⟩ := en.2 n _ hρ
  refine wp_ps (ps_aug h1 h2 h3 pe_wp ip_catL h4) ⟨_, e1, ?_⟩
  refine he W H σ _ s en fun v W2 H2 st2 s2 r2 => ?_
  have r3 := e2.step st2 s
  cases r3 with
  | cel ha =>
    obtain ⟨vs, c1, c2⟩ := s2.cel m _ _ hl ha
    obtain ⟨b, zs, rfl, z1, z2⟩ := lst_m s2 r2 hu
    refine ⟨_, b, vs, zs, rfl, rfl, c1, z1, by rw [← c2.length, ← z2.length]; exact hz, ?_⟩
    have c3 : CellR X.K W2 (upd H2 _ (.lst (vs ++ zs))) (.lst (ts ++ us)) _ := ⟨_, upd_same, (c2.append z2).write s2 hl ha⟩
    have st3 := Step.write (t' := .lst (ts ++ us)) (H := H2) (o := .lst (vs ++ zs)) hl ha
    exact d.nx _ _ W2 _ _ (st2.trans st3) (s2.write hl ha c3) ((en.step (st2.trans st3) s).set (.cel ha)) h
/-- name = [..] on one line, the list a cell -/
theorem wlc1C {scope : Scope} {own : List (Str × Nat)} {js : List Nat} {α : Type} {xs : List α} {f : α → T} {pf : α → Bool} {gf : α → T} {ρf : α → TEnv} {p1 p' : Pos} (ct : Ct CX P w K mg base k N sc fs X) (n : Nat)
    (hi : EvI X tg iter ρ L (xs.map f) L1) (hz : xs.length ≤ 100000)
    (ht : ∀ x ∈ xs, ∀ Y, Bk CX P w K mg base k N sc scope Y → TgT Y tg js (f x) (wipeT ρ (own.map (·.2))) (ρf x) L1) (hc : ∀ x ∈ xs, ∀ Y, Bk CX P w K mg base k N sc scope Y → EvC Y ifs (ρf x) L1 (pf x) L1)
    (he : ∀ x ∈ xs, pf x = true → ∀ Y, Bk CX P w K mg base k N sc scope Y → Ev Y elt (ρf x) L1 (.v (gf x)) L1) (h : ∀ m, L1 m = none → WS X rest (ρ.set n (some (.cel m))) (updS L1 m (some (.lst ((xs.filter pf).map gf)))) kk)
    (hx : locOk N sc fs n x = true := by decide +kernel) (hxl : sc.names.lookup x = some .local := by decide +kernel) (ok : blkC N sc scope own = true := by decide +kernel) (hk : scope.kind = .function := by rfl) (hjs : ∀ j ∈ js, j ∈ own.map (·.2) := by decide)
    (hsw : (p'.line == p1.line) = true := by rfl) (ha : (scope.names.any fun (n, k) => n == x && (k == .local || k == .cell)) = false := by decide +kernel) (hs : ∀ x, foldedSetIterable iter X.env x = pure x := by intro _; rfl) : WS X (.Assign [.Name x p'] (.ListComp elt [⟨tg, iter, ifs, 0⟩] scope p1) pos :: rest) ρ L kk := by
  refine ws_setLcC ct n hx hxl ok hi (lcP (f := f) (pf := pf) (gf := gf) ct hk hz hjs ht hc he) (fun m hm => ?_) hsw ha hs
  rw [List.length_map, made_map xs f pf gf (fun _ => True)]
  exact h m hm
theorem wlc0C {scope : Scope} {own : List (Str × Nat)} {js : List Nat} {α : Type} {xs : List α} {f : α → T} {gf : α → T} {ρf : α → TEnv} {p1 p' : Pos} (ct : Ct CX P w K mg base k N sc fs X) (n : Nat)
    (hi : EvI X tg iter ρ L (xs.map f) L1) (hz : xs.length ≤ 100000)
    (ht : ∀ x ∈ xs, ∀ Y, Bk CX P w K mg base k N sc scope Y → TgT Y tg js (f x) (wipeT ρ (own.map (·.2))) (ρf x) L1)
    (he : ∀ x ∈ xs, ∀ Y, Bk CX P w K mg base k N sc scope Y → Ev Y elt (ρf x) L1 (.v (gf x)) L1) (h : ∀ m, L1 m = none → WS X rest (ρ.set n (some (.cel m))) (updS L1 m (some (.lst (xs.map gf)))) kk)
    (hx : locOk N sc fs n x = true := by decide +kernel) (hxl : sc.names.lookup x = some .local := by decide +kernel) (ok : blkC N sc scope own = true := by decide +kernel) (hk : scope.kind = .function := by rfl) (hjs : ∀ j ∈ js, j ∈ own.map (·.2) := by decide)
    (hsw : (p'.line == p1.line) = true := by rfl) (ha : (scope.names.any fun (n, k) => n == x && (k == .local || k == .cell)) = false := by decide +kernel) (hs : ∀ x, foldedSetIterable iter X.env x = pure x := by intro _; rfl) : WS X (.Assign [.Name x p'] (.ListComp elt [⟨tg, iter, [], 0⟩] scope p1) pos :: rest) ρ L kk := by
  refine wlc1C (pf := fun _ => true) (own := own) (js := js) ct n hi hz ht (fun _ _ _ _ => ec_nil) (fun x hx _ => he x hx) (fun m hm => ?_) hx hxl ok hk hjs hsw ha hs
  rw [List.filter_eq_self.mpr (fun _ _ => rfl)]
  exact h m hm
end
end TL


/-! Where one can go: what leads and open_from promise. -/
namespace TL
open PySem PySem.Spec PyProof.Rows L2
def leadsL (l : Lane) (d : Int) : Int × Int := if (d - l.n) / l.r % 2 = 0 then (l.a, l.b) else (l.b, l.a)
def R_leads (C : Addr) : Rel := fun ts L r L' => ∃ (t : Tw) (i : Int) (l : Lane) (d : Int), ts = [tTw C t, I i, I d] ∧ 0 ≤ i ∧ t.st[i.toNat]? = some l ∧ t.st.length ≤ 12 ∧ 1 ≤ l.r ∧ l.r ≤ 6 ∧ r = .v (tPair (leadsL l d)) ∧ L' = L
def R_check_place (C : Addr) : Rel := fun ts L r L' => ∃ (t : Tw) (p : Int), ts = [tTw C t, I p] ∧ 1 ≤ p ∧ p ≤ t.n ∧ r = .v N0 ∧ L' = L
def R_turn_of (C : Addr) : Rel := fun ts L r L' => ∃ (t : Tw), ts = [tTw C t] ∧ StOk t.st ∧ r = .v (I (2 * (lcmL t.st : Int))) ∧ L' = L
/-- the ways that the numbers of streets tell, unsorted -/
def waysL (t : Tw) (p d : Int) : List Int := (((t.st.map fun l => leadsL l d).filter fun q => decide (q.1 = p)).map fun q => q.2) ++ ((t.wd.filter fun q => decide (p = q.1 ∨ p = q.2)).map fun q => q.1 + q.2 - p) ++ (if p ∈ t.bd then [p] else [])
def openL (t : Tw) (p d : Int) : List Int := sortU (waysL t p d)
def R_open_from (C : Addr) : Rel := fun ts L r L' => ∃ (t : Tw) (p d : Int), ts = [tTw C t, I p, I d] ∧ PartsOk t ∧ 1 ≤ p ∧ p ≤ t.n ∧ r = .n (.lst ((openL t p d).map I)) ∧ L' = L
theorem pairs_len28 {m : Int} {ps : List (Int × Int)} (h : PairsOk m ps) (h8 : m ≤ 8) : ps.length ≤ 28 := by
  refine Nat.le_trans (nodup_len (m := pairsTo 7) h.nd fun p hp => ?_) (by decide +kernel)
  obtain ⟨h1, h2, h3, h4, h5⟩ := h.ok p hp
  unfold pairsTo
  rw [List.mem_flatMap]
  refine ⟨p.2, mem_rangeT.mpr ⟨by omega, by omega⟩, ?_⟩
  rw [List.mem_map]
  exact ⟨p.1, mem_rangeT.mpr ⟨h1, by omega⟩, rfl⟩
theorem ways_len {t : Tw} (ok : PartsOk t) (p d : Int) : (waysL t p d).length ≤ 41 := by
  unfold waysL
  rw [List.length_append, List.length_append, List.length_map, List.length_map]
  have h1 := List.length_filter_le (fun q : Int × Int => decide (q.1 = p)) (t.st.map fun l => leadsL l d)
  have h2 := List.length_filter_le (fun q : Int × Int => decide (p = q.1 ∨ p = q.2)) t.wd
  rw [List.length_map] at h1
  have h3 := ok.s12
  have h4 := pairs_len28 ok.wd ok.n8
  have h5 : (if p ∈ t.bd then [p] else []).length ≤ 1 := by split <;> simp
  omega
theorem mem_openL {t : Tw} {p d y : Int} : y ∈ openL t p d ↔ (∃ l ∈ t.st, leadsL l d = (p, y)) ∨ (∃ q ∈ t.wd, (p = q.1 ∨ p = q.2) ∧ y = q.1 + q.2 - p) ∨ (p ∈ t.bd ∧ y = p) := by
  unfold openL waysL
  rw [mem_sortU, List.mem_append, List.mem_append, or_assoc]
  refine or_congr ?_ (or_congr ?_ ?_)
  · rw [List.mem_map]
    constructor
    · rintro ⟨q, hq, rfl⟩
      obtain ⟨h1, h2⟩ := List.mem_filter.mp hq
      obtain ⟨l, hl, e⟩ := List.mem_map.mp h1
      have := of_decide_eq_true h2
      exact ⟨l, hl, by rw [e, ← this]⟩
    · rintro ⟨l, hl, e⟩
      exact ⟨(p, y), List.mem_filter.mpr ⟨List.mem_map.mpr ⟨l, hl, e⟩, by simp⟩, rfl⟩
  · rw [List.mem_map]
    constructor
    · rintro ⟨q, hq, rfl⟩
      obtain ⟨h1, h2⟩ := List.mem_filter.mp hq
      exact ⟨q, h1, of_decide_eq_true h2, rfl⟩
    · rintro ⟨q, hq, h1, rfl⟩
      exact ⟨q, List.mem_filter.mpr ⟨hq, decide_eq_true h1⟩, rfl⟩
  · by_cases h : p ∈ t.bd
    · rw [if_pos h]; simp [h]
    · rw [if_neg h]; simp [h]
/-- alike in streets one by one: then one can go to the same places -/
theorem openL_congr {t u : Tw} {p d : Int} {e : Int} (h1 : ∀ y, (∃ l ∈ t.st, leadsL l d = (p, y)) ↔ (∃ l ∈ u.st, leadsL l e = (p, y))) (h2 : t.wd = u.wd) (h3 : t.bd = u.bd) : openL t p d = openL u p e := by
  refine strict_uniq (sortU_strict _) (sortU_strict _) fun y => ?_
  show y ∈ openL t p d ↔ y ∈ openL u p e
  rw [mem_openL, mem_openL, h1, h2, h3]
theorem eqT_pairMem (p : Int) (q : Int × Int) : inT (I p) (tPair q) = decide (p = q.1 ∨ p = q.2) := by
  have h := inT_mapT (f := I) eqT_I p [q.1, q.2]
  have e : inT (I p) (tPair q) = decide (p ∈ [q.1, q.2]) := h
  rw [e]
  simp
theorem PartsOk.made {t : Tw} (ok : PartsOk t) : PartsOk t.made :=
  ⟨ok.n1, ok.n8, ok.st, ok.s12, ⟨fun p hp => ok.wd.ok p ((sortP_perm t.wd).mem_iff.mp hp), (sortP_perm t.wd).nodup_iff.mpr ok.wd.nd⟩, ⟨fun p hp => ok.bd.ok p ((sortI_perm t.bd).mem_iff.mp hp), (sortI_perm t.bd).nodup_iff.mpr ok.bd.nd⟩⟩
/-- parts that are rising already -/
def Srt (t : Tw) : Prop := sortP t.wd = t.wd ∧ sortI t.bd = t.bd
theorem srt_made (t : Tw) : Srt t.made := ⟨(sortP_uniq (.refl _) (sortP_sorted t.wd)).symm, (sortI_uniq (.refl _) (sortI_sorted t.bd)).symm⟩
theorem Srt.made {t : Tw} (h : Srt t) : t.made = t := by
  unfold Tw.made; rw [h.1, h.2]
theorem homeB_congr {st st' : List Lane} {f : Lane → Lane} (h : ∀ l ∈ st, ∀ d, turnsB (f l) d = turnsB l d) (d : Int) : homeB (st.map f) d = homeB st d := by
  unfold homeB
  rw [List.all_map]
  apply Bool.eq_iff_iff.mpr
  rw [List.all_eq_true, List.all_eq_true]
  exact ⟨fun g l hl => by rw [← h l hl]; exact g l hl, fun g l hl => by show turnsB (f l) d = true; rw [h l hl]; exact g l hl⟩
theorem nvB_turns {h l h' l' : Lane} (r1 : 1 ≤ h.r) (r2 : h.r ≤ 6) (r3 : 1 ≤ l.r) (r4 : l.r ≤ 6) (e1 : h'.r = h.r) (e2 : l'.r = l.r) (t1 : ∀ d, turnsB h' d = turnsB h d) (t2 : ∀ d, turnsB l' d = turnsB l d) : nvB h' l' = nvB h l := by
  rw [two_ok r1 r2 r3 r4, two_ok (by omega) (by omega) (by omega) (by omega)]
  unfold bothB
  congr 1
  refine List.filter_congr fun d _ => ?_
  unfold homeB
  simp only [List.all_cons, List.all_nil, t1, t2]
/-- streets told otherwise, with the same rhythms and turned on the same nights: home tells the same -/
theorem homeP_map {st : List Lane} {f : Lane → Lane} (ok : StOk st) (hr : ∀ l ∈ st, (f l).r = l.r) (ht : ∀ l ∈ st, ∀ d, turnsB (f l) d = turnsB l d) : homeP (st.map f) = homeP st := by
  have ok' : StOk (st.map f) := ⟨by rw [List.length_map]; exact ok.1, fun l hl => by
    obtain ⟨m, hm, rfl⟩ := List.mem_map.mp hl
    rw [hr m hm]; exact ok.2 m hm⟩
  have hl : lcmL (st.map f) = lcmL st := lcmL_eq (fun l hl => by
    obtain ⟨m, hm, rfl⟩ := List.mem_map.mp hl
    exact ⟨m, hm, (hr m hm).symm⟩) fun l hl => ⟨f l, List.mem_map.mpr ⟨l, hl, rfl⟩, hr l hl⟩
  have htn : tornF (st.map f) = tornF st := by
    refine tornF_eq ?_
    rw [List.length_map]
    refine firstO_congr (fun i j hij hj => ?_) (tornF_ok st)
    have hi : i < st.length := by omega
    unfold tornB
    rw [List.getD_eq_getElem?_getD, List.getD_eq_getElem?_getD, List.getD_eq_getElem?_getD, List.getD_eq_getElem?_getD, List.getElem?_map, List.getElem?_map, List.getElem?_eq_getElem hi, List.getElem?_eq_getElem hj]
    have a := ok.2 _ (List.getElem_mem hi)
    have b := ok.2 _ (List.getElem_mem hj)
    exact (nvB_turns a.1 a.2 b.1 b.2 (hr _ (List.getElem_mem hi)) (hr _ (List.getElem_mem hj)) (ht _ (List.getElem_mem hi)) (ht _ (List.getElem_mem hj))).symm
  cases e : tornF st with
  | some p =>
    obtain ⟨i, j⟩ := p
    rw [homeP_some e, homeP_some (htn.trans e)]
  | none => exact homeP_eq ok' ok (homeB_congr (st' := st) ht) hl (htn.trans e)
/-- by number, each street -/
theorem range_at {α β : Type} (st : List α) (d : α) (f : α → β) : (TL.rangeT 0 st.length).map (fun x => f (st.getD x.toNat d)) = st.map f := by
  apply List.ext_getElem?
  intro i
  rw [List.getElem?_map, List.getElem?_map]
  by_cases hi : i < st.length
  · have e2 : (TL.rangeT 0 st.length)[i]? = some (0 + (i : Int)) := by
      unfold TL.rangeT
      rw [List.getElem?_map, List.getElem?_range hi]; rfl
    rw [e2, List.getElem?_eq_getElem hi]
    show some (f (st.getD (0 + (i : Int)).toNat d)) = some _
    rw [show (0 + (i : Int)).toNat = i by omega, List.getD_eq_getElem?_getD, List.getElem?_eq_getElem hi]; rfl
  · rw [List.getElem?_eq_none (by rw [length_rangeT]; omega), List.getElem?_eq_none (by omega)]; rfl
theorem at_num {α : Type} {st : List α} {d : α} {x : Int} (h : x ∈ TL.rangeT 0 st.length) : st[x.toNat]? = some (st.getD x.toNat d) := by
  have hm := mem_rangeT.mp h
  rw [List.getD_eq_getElem?_getD, List.getElem?_eq_getElem (show x.toNat < st.length by omega)]; rfl
theorem mem_num {α : Type} {st : List α} {d : α} {x : Int} (h : x ∈ TL.rangeT 0 st.length) : st.getD x.toNat d ∈ st := List.mem_of_getElem? (at_num h)
end TL


/-! Towns told otherwise: plain, moved, turned about, alike. -/
namespace TL
open PySem PySem.Spec PyProof.Rows L2
def plainL (l : Lane) : Lane := if l.b < l.a then ⟨l.b, l.a, l.r, (l.n + l.r) % (2 * l.r)⟩ else ⟨l.a, l.b, l.r, l.n % (2 * l.r)⟩
def movL (k : Int) (l : Lane) : Lane := ⟨l.a, l.b, l.r, l.n + k⟩
def flipL (l : Lane) : Lane := ⟨l.b, l.a, l.r, l.n⟩
def withSt (t : Tw) (ls : List Lane) : Tw := ⟨t.n, ls, t.wd, t.bd⟩
def R_with_streets (C : Addr) : Rel := fun ts L r L' => ∃ (t : Tw) (ls : List Lane), ts = [tTw C t, .lst (ls.map tLane)] ∧ PartsOk t ∧ Srt t ∧ (∀ l ∈ ls, l.Ok t.n) ∧ ls.length ≤ 12 ∧ r = .n (tTw C (withSt t ls)) ∧ L' = L
def R_plain (C : Addr) : Rel := fun ts L r L' => ∃ (t : Tw), ts = [tTw C t] ∧ PartsOk t ∧ Srt t ∧ r = .n (tTw C (withSt t (t.st.map plainL))) ∧ L' = L
def R_moved (C : Addr) : Rel := fun ts L r L' => ∃ (t : Tw) (k : Int), ts = [tTw C t, I k] ∧ PartsOk t ∧ Srt t ∧ r = .n (tTw C (withSt t (t.st.map (movL k)))) ∧ L' = L
def R_about (C : Addr) : Rel := fun ts L r L' => ∃ (t : Tw), ts = [tTw C t] ∧ PartsOk t ∧ Srt t ∧ r = .n (tTw C (withSt t (t.st.map flipL))) ∧ L' = L
def R_check_counts (C : Addr) : Rel := fun ts L r L' => ∃ (t u : Tw), ts = [tTw C t, tTw C u] ∧ t.n = u.n ∧ r = .v N0 ∧ L' = L
def bothI (t u : Tw) : Int := 2 * (lcmL t.st : Int) * (2 * (lcmL u.st : Int)) / ((Nat.gcd (2 * lcmL t.st) (2 * lcmL u.st) : Nat) : Int)
def R_both_turns (C : Addr) : Rel := fun ts L r L' => ∃ (t u : Tw), ts = [tTw C t, tTw C u] ∧ StOk t.st ∧ StOk u.st ∧ r = .v (I (bothI t u)) ∧ L' = L
def R_alike_same (C : Addr) : Rel := fun ts L r L' => ∃ (t u : Tw), ts = [tTw C t, tTw C u] ∧ PartsOk t ∧ PartsOk u ∧ t.n = u.n ∧ (∀ p d, openL t p d = openL u p d) ∧ r = .v (.tup [S "alike"]) ∧ L' = L
theorem both_ok {t u : Tw} (h1 : StOk t.st) (h2 : StOk u.st) : 0 ≤ bothI t u ∧ bothI t u ≤ 14400 := by
  have a1 := lcmL_pos h1
  have a2 := lcmL_le h1
  have b1 := lcmL_pos h2
  have b2 := lcmL_le h2
  have hg : 0 < Nat.gcd (2 * lcmL t.st) (2 * lcmL u.st) := Nat.gcd_pos_of_pos_left _ (by omega)
  have hx : 2 * (lcmL t.st : Int) * (2 * (lcmL u.st : Int)) ≤ 14400 := by
    have := Nat.mul_le_mul (show 2 * lcmL t.st ≤ 120 by omega) (show 2 * lcmL u.st ≤ 120 by omega)
    have : ((2 * lcmL t.st * (2 * lcmL u.st) : Nat) : Int) ≤ 14400 := by omega
    simpa using this
  have h0 : 0 ≤ 2 * (lcmL t.st : Int) * (2 * (lcmL u.st : Int)) := Int.mul_nonneg (by omega) (by omega)
  unfold bothI
  refine ⟨Int.ediv_nonneg h0 (by omega), Int.le_trans (Int.ediv_le_self _ h0) hx⟩
/-! streets told otherwise lead alike -/
theorem emod2 (n r k : Int) : (n + 2 * r * k) % (2 * r) = n % (2 * r) := by rw [Int.add_mul_emod_self_left]
theorem div_par {r : Int} (x k : Int) (h : 1 ≤ r) : (x + 2 * r * k) / r % 2 = x / r % 2 := by
  rw [show x + 2 * r * k = x + r * (2 * k) by rw [← Int.mul_assoc, Int.mul_comm r 2], Int.add_mul_ediv_left _ _ (by omega), Int.add_mul_emod_self_left]
theorem leads_mod {r : Int} (d n : Int) (h : 1 ≤ r) : (d - n % (2 * r)) / r % 2 = (d - n) / r % 2 := by
  have e : d - n % (2 * r) = (d - n) + 2 * r * (n / (2 * r)) := by rw [Int.emod_def]; omega
  rw [e, div_par _ _ h]
theorem div_flip {r : Int} (x : Int) (h : 1 ≤ r) : (x - r) / r = x / r - 1 := by
  rw [show x - r = x + r * (-1) by omega, Int.add_mul_ediv_left _ _ (by omega)]; omega
theorem leads_plain {l : Lane} (h : 1 ≤ l.r) (d : Int) : leadsL (plainL l) d = leadsL l d := by
  unfold leadsL plainL
  split
  · show (if (d - (l.n + l.r) % (2 * l.r)) / l.r % 2 = 0 then (l.b, l.a) else (l.a, l.b)) = _
    rw [leads_mod _ _ h, show d - (l.n + l.r) = d - l.n - l.r by omega, div_flip _ h]
    by_cases hz : (d - l.n) / l.r % 2 = 0
    · rw [if_pos hz, if_neg (by omega)]
    · rw [if_neg hz, if_pos (by omega)]
  · show (if (d - l.n % (2 * l.r)) / l.r % 2 = 0 then (l.a, l.b) else (l.b, l.a)) = _
    rw [leads_mod _ _ h]
theorem turns_shift {r : Int} (d n k : Int) : (d - (n + r * k)) % r = (d - n) % r := by
  rw [show d - (n + r * k) = d - n - r * k by omega, Int.sub_mul_emod_self_left]
theorem turns_plain (l : Lane) (d : Int) : turnsB (plainL l) d = turnsB l d := by
  unfold turnsB plainL
  have key : ∀ n : Int, (d - n % (2 * l.r)) % l.r = (d - n) % l.r := fun n => by
    have e : n % (2 * l.r) = n + l.r * (-(2 * (n / (2 * l.r)))) := by
      rw [Int.emod_def, Int.mul_neg, ← Int.mul_assoc, Int.mul_comm l.r 2]; omega
    rw [e, turns_shift]
  split
  · show decide ((d - (l.n + l.r) % (2 * l.r)) % l.r = 0) = _
    rw [key]
    have := turns_shift (r := l.r) d l.n 1
    rw [Int.mul_one] at this
    rw [this]
  · show decide ((d - l.n % (2 * l.r)) % l.r = 0) = _
    rw [key]
theorem plain_r (l : Lane) : (plainL l).r = l.r := by unfold plainL; split <;> rfl
theorem plain_ok {m : Int} {l : Lane} (h : l.Ok m) : (plainL l).Ok m ∧ (plainL l).a < (plainL l).b ∧ 0 ≤ (plainL l).n ∧ (plainL l).n < 2 * (plainL l).r := by
  obtain ⟨a1, a2, b1, b2, ne, r1, r2⟩ := h
  unfold plainL
  have m1 := Int.emod_nonneg (l.n + l.r) (b := 2 * l.r) (by omega)
  have m2 := Int.emod_lt_of_pos (l.n + l.r) (b := 2 * l.r) (by omega)
  have m3 := Int.emod_nonneg l.n (b := 2 * l.r) (by omega)
  have m4 := Int.emod_lt_of_pos l.n (b := 2 * l.r) (by omega)
  split
  · exact ⟨⟨b1, b2, a1, a2, fun e => ne e.symm, r1, r2⟩, by assumption, m1, m2⟩
  · exact ⟨⟨a1, a2, b1, b2, ne, r1, r2⟩, by show l.a < l.b; omega, m3, m4⟩
theorem plain_plain {m : Int} {l : Lane} (h : l.Ok m) : plainL (plainL l) = plainL l := by
  obtain ⟨_, h2, h3, h4⟩ := plain_ok h
  generalize plainL l = x at *
  unfold plainL
  rw [if_neg (by omega), Int.emod_eq_of_lt h3 h4]
theorem plain_mov {l : Lane} (k : Int) : plainL (movL (2 * l.r * k) l) = plainL l := by
  unfold plainL movL
  dsimp only
  rw [emod2, show l.n + 2 * l.r * k + l.r = l.n + l.r + 2 * l.r * k by omega, emod2]
theorem plain_other {m : Int} {l : Lane} (h : l.Ok m) (k : Int) : plainL ⟨l.b, l.a, l.r, l.n + 2 * l.r * k + l.r⟩ = plainL l := by
  have hne := h.ne
  unfold plainL
  dsimp only
  by_cases hc : l.b < l.a
  · rw [if_pos hc, if_neg (by omega), show l.n + 2 * l.r * k + l.r = l.n + l.r + 2 * l.r * k by omega, emod2]
  · rw [if_neg hc, if_pos (by omega), show l.n + 2 * l.r * k + l.r + l.r = l.n + 2 * l.r * (k + 1) by rw [Int.mul_add]; omega, emod2]
theorem open_plain {t : Tw} (ok : StOk t.st) (p d : Int) : openL (withSt t (t.st.map plainL)) p d = openL t p d := by
  refine openL_congr (fun y => ?_) rfl rfl
  constructor
  · rintro ⟨l, hl, e⟩
    obtain ⟨m, hm, rfl⟩ := List.mem_map.mp hl
    exact ⟨m, hm, by rw [← e, leads_plain (ok.2 m hm).1]⟩
  · rintro ⟨l, hl, e⟩
    exact ⟨plainL l, List.mem_map.mpr ⟨l, hl, rfl⟩, by rw [leads_plain (ok.2 l hl).1]; exact e⟩
theorem withSt_ok {t : Tw} {ls : List Lane} (ok : PartsOk t) (h : ∀ l ∈ ls, l.Ok t.n) (hz : ls.length ≤ 12) : PartsOk (withSt t ls) := ⟨ok.n1, ok.n8, h, hz, ok.wd, ok.bd⟩
theorem withSt_srt {t : Tw} {ls : List Lane} (h : Srt t) : Srt (withSt t ls) := h
theorem withSt_map_ok {t : Tw} {f : Lane → Lane} (ok : PartsOk t) (h : ∀ l ∈ t.st, (f l).Ok t.n) : PartsOk (withSt t (t.st.map f)) := withSt_ok ok (fun l hl => by
  obtain ⟨m, hm, rfl⟩ := List.mem_map.mp hl
  exact h m hm) (by rw [List.length_map]; exact ok.s12)
theorem movL_ok {m k : Int} {l : Lane} (h : l.Ok m) : (movL k l).Ok m := ⟨h.a1, h.a2, h.b1, h.b2, h.ne, h.r1, h.r2⟩
theorem flipL_ok {m : Int} {l : Lane} (h : l.Ok m) : (flipL l).Ok m := ⟨h.b1, h.b2, h.a1, h.a2, fun e => h.ne e.symm, h.r1, h.r2⟩
/-! three names at once -/
section
variable {CX : CXT} {P : Program} {w : World} {K : PySem.W.Frag} {mg : Str → Option Value} {base : Heap} {k : Nat} {N : List Str} {sc : Scope} {fs : Str → Bool} {X : Cx}
variable {a b c : Expr} {ρ : TEnv} {L L1 : Store} {t u v : T} {pos : Pos} {x : Str}
theorem wpar3 {rest : List Stmt} {kk : TK} {y z : Str} {px py pz pt : Pos} {kt k2 pt2} (ct : Ct CX P w K mg base k N sc fs X) (n m o : Nat) (ha : EvA X [a, b, c] ρ L [t, u, v] L1) (h : WS X rest (((ρ.set n (some t)).set m (some u)).set o (some v)) L1 kk)
    (hij : n ≠ m := by decide) (hil : n ≠ o := by decide) (hjl : m ≠ o := by decide)
    (hx : locOk N sc fs n x = true := by decide +kernel) (hy : locOk N sc fs m y = true := by decide +kernel) (hz : locOk N sc fs o z = true := by decide +kernel) (hxl : sc.names.lookup x = some .local := by decide +kernel) (hyl : sc.names.lookup y = some .local := by decide +kernel) (hzl : sc.names.lookup z = some .local := by decide +kernel)
    (hw : swappedStores [.Tuple [.Name x px, .Name y py, .Name z pz] kt pt] (.Tuple [a, b, c] k2 pt2) { X.env with scope := sc } = pure (some [x, y, z]) := by rfl)
    (hs : swapsWithSole [.Tuple [.Name x px, .Name y py, .Name z pz] kt pt] (.Tuple [a, b, c] k2 pt2) pos.line X.env = pure false := by rfl) : WS X (.Assign [.Tuple [.Name x px, .Name y py, .Name z pz] kt pt] (.Tuple [a, b, c] k2 pt2) pos :: rest) ρ L kk := by
  refine ws_cons ?_
  refine ⟨fun W H σ D s en d => ?_⟩
  obtain ⟨h1, h2, h3, h4⟩ := ct.loc hx
  obtain ⟨g1, g2, g3, g4⟩ := ct.loc hy
  obtain ⟨k1, k2, k3, k4⟩ := ct.loc hz
  refine wp_ps (ps_par3 ct.calm h1 h2 g2 k2 hij hil hjl (by rw [ct.hsc]; exact hxl) (by rw [ct.hsc]; exact hyl) (by rw [ct.hsc]; exact hzl) pa_wp ((sw_env (env' := { X.env with scope := sc }) ct.hsc).trans hw) hs) ?_
  refine ha W H σ _ s en fun xs W2 H2 st2 s2 r2 => ?_
  cases r2 with
  | cons r1 r2 =>
    cases r2 with
    | cons r2 r3 =>
      cases r3 with
      | cons r3 r4 =>
        cases r4
        exact ⟨_, _, _, rfl, d.nx _ _ W2 H2 _ st2 s2 ((((en.step st2 s).set r1).set r2).set r3) h⟩
end
/-! the law's own way of telling streets otherwise -/
def fars4 : List Int := [0, 1, -3, 10 ^ 57]
def oth1 (v : W3) (l : Lane) : Lane × W3 :=
  let far := oneI v fars4
  let v1 := drW v (fars4.length : Int)
  (if drV v1 2 = 0 then ⟨l.a, l.b, l.r, l.n + 2 * l.r * far⟩ else ⟨l.b, l.a, l.r, l.n + 2 * l.r * far + l.r⟩, drW v1 2)
def othN (st : List Lane) (v : W3) : Nat → List Lane × W3
  | 0 => ([], v)
  | k + 1 => ((othN st v k).1 ++ [(oth1 (othN st v k).2 (st.getD k L00)).1], (oth1 (othN st v k).2 (st.getD k L00)).2)
theorem oth1_ok {m : Int} {v : W3} {l : Lane} (h : l.Ok m) : plainL (oth1 v l).1 = plainL l ∧ (oth1 v l).1.Ok m := by
  unfold oth1
  dsimp only
  split
  · exact ⟨plain_mov (oneI v fars4), movL_ok (k := 2 * l.r * oneI v fars4) h⟩
  · exact ⟨plain_other h _, ⟨h.b1, h.b2, h.a1, h.a2, fun e => h.ne e.symm, h.r1, h.r2⟩⟩
theorem oth1_w {v : W3} {l : Lane} {b : Nat} (h : v.Ok b) : (oth1 v l).2.Ok (b + 2) := drW_ok (drW_ok h (by decide)) (by decide)
theorem othN_ok {m : Int} {st : List Lane} {v : W3} {b : Nat} (h : ∀ l ∈ st, l.Ok m) (hv : v.Ok b) : ∀ k : Nat, k ≤ st.length → (othN st v k).1.length = k ∧ (∀ l ∈ (othN st v k).1, l.Ok m) ∧ (othN st v k).1.map plainL = (st.take k).map plainL ∧ (othN st v k).2.Ok (b + 2 * k)
  | 0, _ => ⟨rfl, fun l hl => (nomatch hl), rfl, hv⟩
  | k + 1, hk => by
    obtain ⟨h1, h2, h3, h4⟩ := othN_ok h hv k (by omega)
    have hl : st.getD k L00 ∈ st := by
      rw [List.getD_eq_getElem?_getD, List.getElem?_eq_getElem (show k < st.length by omega)]
      exact List.getElem_mem _
    obtain ⟨o1, o2⟩ := oth1_ok (v := (othN st v k).2) (h _ hl)
    refine ⟨?_, fun l hl => ?_, ?_, W3.Ok.mono (oth1_w (l := st.getD k L00) h4) (by omega)⟩
    · show ((othN st v k).1 ++ [_]).length = _
      rw [List.length_append, h1]; rfl
    · rcases List.mem_append.mp hl with hl | hl
      · exact h2 l hl
      · rw [List.mem_singleton.mp hl]; exact o2
    · show ((othN st v k).1 ++ [_]).map plainL = _
      rw [List.map_append, h3, List.take_add_one, List.map_append]
      congr 1
      show [plainL (oth1 _ _).1] = _
      rw [o1, List.getD_eq_getElem?_getD, List.getElem?_eq_getElem (show k < st.length by omega)]; rfl
def othF (t : Tw) (v : W3) : Tw × W3 := (withSt t (othN t.st v t.st.length).1, (othN t.st v t.st.length).2)
def R_other : Rel := fun ts L r L' => ∃ (n : Nat) (t : Tw) (v : W3) (b : Nat), ts = [.cel n, tParts t] ∧ L n = some (tW v) ∧ v.Ok b ∧ b < 800000 ∧ PartsOk t ∧ r = .v (tParts (othF t v).1) ∧ L' = updS L n (some (tW (othF t v).2))
def R_leads_right (C : Addr) : Rel := fun ts L r L' => ∃ (t u : Tw) (i : Int) (l l' : Lane) (d : Int), ts = [tTw C t, tTw C u, I i, I d] ∧ 0 ≤ i ∧ t.st[i.toNat]? = some l ∧ u.st[i.toNat]? = some l' ∧ t.st.length ≤ 12 ∧ u.st.length ≤ 12 ∧ (1 ≤ l.r ∧ l.r ≤ 6 ∧ 1 ≤ l'.r ∧ l'.r ≤ 6) ∧ leadsL l d = leadsL l' d ∧ turnsB l d = turnsB l' d ∧ r = .v (B true) ∧ L' = L
theorem othF_ok {t : Tw} {v : W3} {b : Nat} (ok : PartsOk t) (hv : v.Ok b) : PartsOk (othF t v).1 ∧ (othF t v).1.st.map plainL = t.st.map plainL ∧ (othF t v).2.Ok (b + 24) := by
  obtain ⟨h1, h2, h3, h4⟩ := othN_ok ok.st hv t.st.length (Nat.le_refl _)
  rw [List.take_length] at h3
  have := ok.s12
  exact ⟨withSt_ok ok h2 (by rw [h1]; omega), h3, h4.mono (by omega)⟩
theorem plain_turn {st : List Lane} (ok : StOk st) : (st.map (movL (2 * (lcmL st : Int)))).map plainL = st.map plainL := by
  rw [List.map_map]
  refine List.map_congr_left fun l hl => ?_
  obtain ⟨k, hk⟩ := lcmL_mem hl
  have el : (l.r.toNat : Int) = l.r := by have := (ok.2 l hl).1; omega
  have e : 2 * (lcmL st : Int) = 2 * l.r * (k : Int) := by
    rw [hk, Int.natCast_mul, el, Int.mul_assoc]
  show plainL (movL (2 * (lcmL st : Int)) l) = _
  rw [e, plain_mov]
theorem mov_back (st : List Lane) (k : Int) : (st.map (movL k)).map (movL (-k)) = st := by
  rw [List.map_map]
  conv => rhs; rw [← List.map_id st]
  refine List.map_congr_left fun l hl => ?_
  show Lane.mk l.a l.b l.r (l.n + k + -k) = l
  rw [show l.n + k + -k = l.n by omega]
theorem flip_flip (st : List Lane) : (st.map flipL).map flipL = st := by
  rw [List.map_map]
  conv => rhs; rw [← List.map_id st]
  exact List.map_congr_left fun l hl => rfl
/-! a <= b < c as a test -/
section
variable {X : Cx} {a b c : Expr} {ρ : TEnv} {L L1 Lb : Store} {t u : T} {pos : Pos}
theorem eb_chain {op op' : CmpOp} {r r' : R2} {z z' : Bool} {o : T} (ho : OpR X (compareOp op) r) (ho' : OpR X (compareOp op') r') (ha : Ev X a ρ L (.v t) L1) (hb : Ev X b ρ L1 (.v u) Lb) (hr : OpT X.K r t u Lb (.v (B z)))
    (hc : z = true → Ev X c ρ Lb (.v o) Lb) (hr' : z = true → OpT X.K r' u o Lb (.v (B z'))) (hm : lastMarks [op, op'] [b, c] = false := by with_unfolding_all rfl) : EvB X (.Compare a [op, op'] [b, c] pos) ρ L (z && z') Lb := by
  refine ⟨fun W H σ Q s en q => ?_⟩
  refine wp_pt (pt_chain ho ho' pe_wp pe_wp pe_wp hm) ?_
  refine ha W H σ _ s en fun x W1 H1 st1 s1 r1 => ?_
  refine hb W1 H1 σ _ s1 (en.step st1 s) fun y W2 H2 st2 s2 r2 => ?_
  refine hr W2 H2 x y _ s2 (Rp.step r1 st2 s1) r2 fun v W3 H3 st3 s3 r3 => ?_
  cases r3
  refine ⟨z, rfl, ?_⟩
  have st13 := (st1.trans st2).trans st3
  cases z with
  | false =>
    rw [if_neg Bool.false_ne_true]
    exact ⟨false, rfl, q W3 H3 st13 s3⟩
  | true =>
    rw [if_pos rfl]
    refine hc rfl W3 H3 σ _ s3 (en.step st13 s) fun o' W4 H4 st4 s4 r4 => ?_
    refine hr' rfl W4 H4 y o' _ s4 (Rp.step (Rp.step r2 st3 s2) st4 s3) r4 fun v W5 H5 st5 s5 r5 => ?_
    cases r5
    exact ⟨z', rfl, q W5 H5 ((st13.trans st4).trans st5) s5⟩
theorem eb_leltI {x y z : Int} (ha : Ev X a ρ L (.v (I x)) L1) (hb : Ev X b ρ L1 (.v (I y)) Lb) (hc : decide (x ≤ y) = true → Ev X c ρ Lb (.v (I z)) Lb) (hm : lastMarks [.LtE, .Lt] [b, c] = false := by with_unfolding_all rfl) : EvB X (.Compare a [.LtE, .Lt] [b, c] pos) ρ L (decide (x ≤ y) && decide (y < z)) Lb :=
  eb_chain op_le op_lt ha hb ot_I0 hc (fun _ => ot_I0) hm
theorem eb_leleI {x y z : Int} (ha : Ev X a ρ L (.v (I x)) L1) (hb : Ev X b ρ L1 (.v (I y)) Lb) (hc : decide (x ≤ y) = true → Ev X c ρ Lb (.v (I z)) Lb) (hm : lastMarks [.LtE, .LtE] [b, c] = false := by with_unfolding_all rfl) : EvB X (.Compare a [.LtE, .LtE] [b, c] pos) ρ L (decide (x ≤ y) && decide (y ≤ z)) Lb :=
  eb_chain op_le op_le ha hb ot_I0 hc (fun _ => ot_I0) hm
end
end TL


/-! A sequence backwards: xs[::-1], t[::-1]. -/
namespace TL
open PySem PySem.Spec PyProof.Rows L2
section
variable {prog : Program} {w : World} {A : Around} {E : Value → Shared → Prop} {s : Shared}
theorem places_back (n : Nat) : Builtin.Slice.slicePlaces ((n : Int) - 1) (-1) (-1) = n := by
  unfold Builtin.Slice.slicePlaces
  rw [if_neg (by decide)]
  by_cases h : (n : Int) - 1 > -1
  · rw [if_pos h, show ((n : Int) - 1 - -1 - 1) / (- -1) + 1 = n by rw [show (- -1 : Int) = 1 by decide, Int.ediv_one]; omega]
    exact Int.toNat_natCast n
  · rw [if_neg h]
    show 0 = n
    omega
theorem applied_back {sl : Addr} {vc : Value} {n : Nat} {Q : Int × Int × Nat → Shared → Prop} (isS : s.heap.IsSliceOf sl .none .none vc) (pc : IsPart vc (some (-1)))
    (q : Q ((n : Int) - 1, -1, n) s) : wpAny (model prog w) A (Builtin.Slice.sliceApplied (.ref sl) (pure (n : Int))) Q E s := by
  have ⟨o, ho, hc, hd⟩ := isS
  unfold Builtin.Slice.sliceApplied Builtin.Slice.sliceFields
  refine wpAny_bind (wpAny_bind (wpAny_field ho hd (x := .none) rfl (wpAny_bind (wpAny_field ho hd (x := .none) rfl (wpAny_bind (wpAny_field ho hd (x := vc) rfl (wpAny_pure ?_)))))))
  refine wpAny_bind (HT.slicePart_ pc ?_)
  show wpAny _ _ (if ((-1 : Int) == 0) = true then _ else _) _ _ s
  rw [if_neg (by decide)]
  refine wpAny_bind (HT.slicePart_ .none (wpAny_bind (HT.slicePart_ .none (wpAny_bind (wpAny_pure ?_)))))
  show wpAny _ _ (match Builtin.Slice.sliceAdjust none none (-1) (n : Int) with | (x, y) => pure (x, (-1 : Int), Builtin.Slice.slicePlaces x y (-1))) _ _ s
  show wpAny _ _ (pure ((n : Int) - 1, (-1 : Int), Builtin.Slice.slicePlaces ((n : Int) - 1) (-1) (-1))) _ _ s
  rw [places_back]
  exact wpAny_pure q
theorem fm_congr {α β : Type} {f g : α → Option β} : ∀ {l : List α}, (∀ x ∈ l, f x = g x) → l.filterMap f = l.filterMap g
  | [], _ => rfl
  | a :: l, h => by
    rw [List.filterMap_cons, List.filterMap_cons, h a List.mem_cons_self, fm_congr fun x hx => h x (List.mem_cons_of_mem _ hx)]
theorem pick_back (xs : Array Value) : ((List.range xs.size).filterMap fun (m : Nat) => xs[(((xs.size : Int) - 1) + (m : Int) * (-1)).toNat]?).toArray = xs.toList.reverse.toArray := by
  have e : ((List.range xs.size).filterMap fun (m : Nat) => xs[(((xs.size : Int) - 1) + (m : Int) * (-1)).toNat]?) = ((List.range xs.size).map fun k => xs.size - 1 - k).filterMap (xs[·]?) := by
    rw [List.filterMap_map]
    refine fm_congr fun m hm => ?_
    have hm := List.mem_range.mp hm
    show _ = xs[xs.size - 1 - m]?
    rw [show (((xs.size : Int) - 1) + (m : Int) * (-1)).toNat = xs.size - 1 - m by omega]
  rw [e, PySem.W.krv_range, List.filterMap_reverse, PySem.W.krv_all]
theorem getItem_back {t sl : Addr} {xs : Array Value} {vc : Value} {Q : Value → Shared → Prop} (isT : IsTup s.heap t xs) (isS : s.heap.IsSliceOf sl .none .none vc) (pc : IsPart vc (some (-1)))
    (q : Q (.ref s.heap.objs.size) { s with heap := s.heap.push { cls := .type "tuple", data := .seq xs.toList.reverse.toArray } }) (few : xs.size ≤ sizeLine) : wpAny (model prog w) A (getItem (.ref t) (.ref sl)) Q E s := by
  have ok : sizeOk (.seq xs.toList.reverse.toArray) := by
    show xs.toList.reverse.toArray.size ≤ sizeLine
    rw [List.size_toArray, List.length_reverse, Array.length_toList]; exact few
  have ⟨os, hos, hcs, hds⟩ := isS
  have tyS : s.TypeIs (.ref sl) "slice" := ⟨os, hos, hcs⟩
  unfold getItem
  try with_reducible refine wpAny_holding ?_
  refine wpAny_bind (wpAny_sequenceKey isT.typeIs (by decide) ?_)
  refine wpAny_bind (wpAny_callSpecial?_slot (name := Str.ofString "__getitem__") isT.typeIs PyProof.Rows.slot_tuple_getitem (wpAny_call_entry PyProof.Rows.slot_tuple_getitem isT.typeIs PyProof.Rows.entry_tuple_getitem ?_ (PyProof.Rows.args_tuple_getitem _ _)))
  show wpAny _ _ (Builtin.Tuple.tupleItemsOf (.ref t) >>= _) _ _ s
  refine wpAny_bind (PyProof.Rows.tupleItemsOf_ isT (wpAny_bind (wpAny_typeOf tyS ?_)))
  rw [if_pos (by decide)]
  refine wpAny_bind (applied_back isS pc ?_)
  have no : ¬ ((((xs.size : Int) - 1) == 0 && (-1 : Int) == 1 && xs.size == xs.size) = true) := by simp
  show wpAny _ _ (if (((xs.size : Int) - 1) == 0 && (-1 : Int) == 1 && xs.size == xs.size) = true then _ else _) _ _ s
  rw [if_neg no, pick_back]
  first
    | exact wpAny_bind (m := Builtin.Tuple.tupleExact _) (wpAny_newObj_type (wpAny_pure ⟨_, rfl, wpAny_pure q⟩) ok)
    | exact wpAny_bind (m := Builtin.Tuple.tupleExact _) (wpAny_newObj_type (wpAny_bind (wpAny_pure (wpAny_pure ⟨_, rfl, wpAny_pure q⟩))) ok)
    | exact wpAny_bind (wpAny_bind (m := Builtin.Tuple.tupleExact _) (wpAny_newObj_type (wpAny_pure (wpAny_pure ⟨_, rfl, wpAny_pure q⟩)) ok))
    | exact wpAny_bind (wpAny_bind (m := Builtin.Tuple.tupleExact _) (wpAny_newObj_type (wpAny_pure ⟨_, rfl, wpAny_pure q⟩) ok))
end
section
variable {X : Cx} {e se : Expr} {te ts : TE} {p2 pos : Pos}
theorem vals_rev {xs : List V} {us : List Value} (r : Vals xs us) : Vals xs.reverse us.reverse := by
  induction r with
  | nil => exact .nil
  | cons h r ih => rw [List.reverse_cons, List.reverse_cons]; exact ih.append (.cons h .nil)
def tBack (K : PySem.W.Frag) (te ts : TE) : TE := fun σ H Q => te σ H fun x H1 => ts σ H1 fun y H2 => y = .int (-1) ∧ ((∃ l xs, x = .ref l ∧ SqL K H2 l xs ∧ ∀ p, H2 p = none → Q (.ref p) (upd H2 p (.lst xs.reverse))) ∨ (∃ l xs, x = .ref l ∧ SqT K H2 l xs ∧ ∀ p, H2 p = none → Q (.ref p) (upd H2 p (.tup xs.reverse))))
theorem pe_back (he : PE X e te) (hs : PE X se ts) : PE X (.Subscript e (.Slice none none (some se) p2) pos) (tBack X.K te ts) := by
  refine ⟨fun pins s σ H Q Iv h => ?_⟩
  refine Subscript_ (thn (he.run pins s σ H _ Iv h) fun v s1 ⟨x, H1, I1, r1, q1⟩ => wpAny_Slice ?_)
  rw [evalPart_none]
  refine wpAny_pure (wpAny_pure ?_)
  rw [evalPart_some]
  refine thn (hs.run pins s1 σ H1 _ I1 q1) fun u s2 ⟨y, H2, I2, r2, ey, q2⟩ => ?_
  subst ey
  obtain ⟨tk, rfl⟩ := r2
  have I3 : Inv X pins σ H2 { s2 with heap := s2.heap.push { cls := .type "slice", data := .fields #[.none, .none, .int (-1) tk] } } := I2.kept (t' := s2.toks) fun b ob q => Heap.get?_push_of_some _ q
  have isS : (s2.heap.push { cls := .type "slice", data := .fields #[.none, .none, .int (-1) tk] }).IsSliceOf s2.heap.objs.size .none .none (.int (-1) tk) := Heap.IsSliceOf.new ..
  show wpAny (model X.prog X.w) X.A (subscriptTail e (.Slice none none (some se) p2) v (.ref s2.heap.objs.size)) (EP X pins σ Q) X.xe { s2 with heap := s2.heap.push { cls := .type "slice", data := .fields #[.none, .none, .int (-1) tk] } }
  have hz5 : ∀ {n : Nat}, n ≤ sizeLine → n ≤ sizeLine := fun h => h
  rcases q2 with ⟨l, xs, rfl, hx, q⟩ | ⟨l, xs, rfl, hx, q⟩
  · cases r1
    obtain ⟨its, r, isL, hz⟩ := I3.list hx
    refine tail_any (ops := [.ref l, .ref s2.heap.objs.size]) isL.isList.typeIs slot_list_getitem.lookup (wpAny_getItem_list_slice isL.isList isS .none .none (.int _ _) (by decide) ?_ (by rw [List.size_toArray, ← r.length]; exact hz)) (by with_unfolding_all rfl)
    rw [PySem.W.krv_pick]
    refine ⟨.ref _, _, I3.laid (t' := s2.toks) (o := .lst xs.reverse) (fun b ob q => Heap.get?_push_of_some _ q) (Nat.le_refl _) ?_, rfl, q _ (I3.hok.fresh (Nat.le_refl _))⟩
    exact ⟨by rw [List.length_reverse]; exact hz, _, 0, vals_rev r, Heap.get?_push_size _ rfl⟩
  · cases r1
    obtain ⟨its, r, isT, hz⟩ := I3.tuple hx
    refine tail_any (ops := [.ref l, .ref s2.heap.objs.size]) isT.typeIs PyProof.Rows.slot_tuple_getitem.lookup (getItem_back isT isS (.int _ _) ?_ (by rw [List.size_toArray, ← r.length]; exact hz)) (by with_unfolding_all rfl)
    refine ⟨.ref _, _, I3.laid (t' := s2.toks) (o := .tup xs.reverse) (fun b ob q => Heap.get?_push_of_some _ q) (Nat.le_refl _) ?_, rfl, q _ (I3.hok.fresh (Nat.le_refl _))⟩
    exact ⟨by rw [List.length_reverse]; exact hz, _, vals_rev r, IsTup.new _ _⟩
end
section
variable {X : Cx} {a b : Expr} {ρ : TEnv} {L L1 : Store} {t : T} {ts : List T} {pos p2 : Pos} {j p3 p4}
theorem ev_rev (ha : Ev X a ρ L (.v t) L1) (hl : LstT L1 t ts) : Ev X (.Subscript a (.Slice none none (some (.UnaryOp .USub (.Constant (.int 1) j p3) p4)) p2) pos) ρ L (.n (.lst ts.reverse)) L1 := by
  refine ⟨fun W H σ Q s en q => ?_⟩
  refine wp_pe (pe_back pe_wp (pe_un un_neg pe_int)) ?_
  refine ha W H σ _ s en fun x W1 H1 st1 s1 r1 => ?_
  obtain ⟨l, vs, rfl, hq, rr⟩ := lst_sq s1 r1 hl
  refine ⟨1, rfl, rfl, .inl ⟨l, vs, rfl, hq, fun p hp => ?_⟩⟩
  exact q _ W1 _ (st1.trans (.newp hp)) (s1.new hp) ((new_n (t := .lst ts.reverse) s1 hp ⟨_, upd_same, rr.reverse.newp hp⟩).back st1.dom)
theorem ev_revT (ha : Ev X a ρ L (.v (.tup ts)) L1) : Ev X (.Subscript a (.Slice none none (some (.UnaryOp .USub (.Constant (.int 1) j p3) p4)) p2) pos) ρ L (.v (.tup ts.reverse)) L1 := by
  refine ⟨fun W H σ Q s en q => ?_⟩
  refine wp_pe (pe_back pe_wp (pe_un un_neg pe_int)) ?_
  refine ha W H σ _ s en fun x W1 H1 st1 s1 r1 => ?_
  cases r1 with
  | tup f hh rr =>
    refine ⟨1, rfl, rfl, .inr ⟨_, _, rfl, .inl (.inl hh), fun p hp => ?_⟩⟩
    obtain ⟨f1, f2, f3⟩ := frz_tup s1 hp rr.reverse
    exact q _ _ _ (st1.trans f1) f2 f3
end
end TL


/-! Home days: the next, the last; all mirrored there. -/
namespace TL
open PySem PySem.Spec PyProof.Rows L2
def R_first_apart (C : Addr) : Rel := fun ts L r L' => ∃ (t : Tw), ts = [tTw C t] ∧ StOk t.st ∧ tornF t.st = none ∧ r = .v (.tup [I (firstD t.st), I (lcmL t.st)]) ∧ L' = L
def nextD (st : List Lane) (d : Int) : Int := d + (firstD st - d) % (lcmL st : Int)
def lastD (st : List Lane) (d : Int) : Int := d - (d - firstD st) % (lcmL st : Int)
def R_next_home (C : Addr) : Rel := fun ts L r L' => ∃ (t : Tw) (d : Int), ts = [tTw C t, I d] ∧ StOk t.st ∧ tornF t.st = none ∧ r = .v (I (nextD t.st d)) ∧ L' = L
def R_last_home (C : Addr) : Rel := fun ts L r L' => ∃ (t : Tw) (d : Int), ts = [tTw C t, I d] ∧ StOk t.st ∧ tornF t.st = none ∧ r = .v (I (lastD t.st d)) ∧ L' = L
theorem homeB_shift {st : List Lane} (ok : ∀ l ∈ st, 1 ≤ l.r ∧ l.r ≤ 6) {x f : Int} (h : homeB st f = true) (hd : (lcmL st : Int) ∣ x - f) : homeB st x = true := by
  unfold homeB at h ⊢
  rw [List.all_eq_true] at h ⊢
  intro l hl
  have h1 := Int.dvd_of_emod_eq_zero (of_decide_eq_true (h l hl))
  have el : (l.r.toNat : Int) = l.r := by have := (ok l hl).1; omega
  have h2 : l.r ∣ (lcmL st : Int) := by
    have := Int.natCast_dvd_natCast.mpr (lcmL_mem hl)
    rwa [el] at this
  refine decide_eq_true (Int.emod_eq_zero_of_dvd ?_)
  have := Int.dvd_add (Int.dvd_trans h2 hd) h1
  rwa [show x - f + (f - l.n) = x - l.n by omega] at this
theorem next_ok {st : List Lane} (ok : StOk st) (h : tornF st = none) (d : Int) : homeB st (nextD st d) = true := by
  refine homeB_shift ok.2 (firstD_ok ok h).1 ?_
  unfold nextD
  refine ⟨-((firstD st - d) / (lcmL st : Int)), ?_⟩
  rw [Int.emod_def, Int.mul_neg]
  omega
theorem last_ok {st : List Lane} (ok : StOk st) (h : tornF st = none) (d : Int) : homeB st (lastD st d) = true := by
  refine homeB_shift ok.2 (firstD_ok ok h).1 ?_
  unfold lastD
  refine ⟨(d - firstD st) / (lcmL st : Int), ?_⟩
  rw [Int.emod_def]
  omega
/-! a street at a home day -/
theorem div_mirror {r : Int} (h : 1 ≤ r) (k : Int) : (-1 - k) / r = -1 - k / r := by
  have h1 := Int.emod_nonneg k (b := r) (by omega)
  have h2 := Int.emod_lt_of_pos k (b := r) (by omega)
  have h3 := Int.emod_def k r
  have e : -1 - k = (r - 1 - k % r) + r * (-1 - k / r) := by
    rw [Int.mul_sub, Int.mul_neg, Int.mul_one]; omega
  rw [e, Int.add_mul_ediv_left _ _ (by omega), Int.ediv_eq_zero_of_lt (by omega) (by omega)]
  omega
theorem leads_mirror {l : Lane} (h : 1 ≤ l.r) {T : Int} (ht : turnsB l T = true) (k : Int) : leadsL l (T + k) = ((leadsL l (T - 1 - k)).2, (leadsL l (T - 1 - k)).1) := by
  obtain ⟨m, hm⟩ := Int.dvd_of_emod_eq_zero (of_decide_eq_true ht)
  have e1 : (T + k - l.n) / l.r = m + k / l.r := by
    rw [show T + k - l.n = k + l.r * m by omega, Int.add_mul_ediv_left _ _ (by omega)]; omega
  have e2 : (T - 1 - k - l.n) / l.r = m + (-1 - k / l.r) := by
    rw [show T - 1 - k - l.n = (-1 - k) + l.r * m by omega, Int.add_mul_ediv_left _ _ (by omega), div_mirror h]; omega
  unfold leadsL
  rw [e1, e2]
  generalize k / l.r = q
  by_cases hz : (m + q) % 2 = 0
  · rw [if_pos hz, if_neg (by omega)]
  · rw [if_neg hz, if_pos (by omega)]
theorem leads_plain_day {l : Lane} (h : 1 ≤ l.r) {d : Int} (ht : turnsB l d = false) : leadsL l (d - 1) = leadsL l d := by
  have hne : (d - l.n) % l.r ≠ 0 := of_decide_eq_false ht
  have h1 := Int.emod_nonneg (d - l.n) (b := l.r) (by omega)
  have h2 := Int.emod_lt_of_pos (d - l.n) (b := l.r) (by omega)
  have h3 := Int.emod_def (d - l.n) l.r
  have e : (d - 1 - l.n) / l.r = (d - l.n) / l.r := by
    have e2 : d - 1 - l.n = ((d - l.n) % l.r - 1) + l.r * ((d - l.n) / l.r) := by omega
    rw [e2, Int.add_mul_ediv_left _ _ (by omega), Int.ediv_eq_zero_of_lt (by omega) (by omega)]; omega
  unfold leadsL
  rw [e]
def swapP (q : Int × Int) : Int × Int := (q.2, q.1)
def mirB (st : List Lane) (d k : Int) : Bool := st.all fun l => decide (leadsL l (d + k) = swapP (leadsL l (d - 1 - k)))
def R_mirror (C : Addr) : Rel := fun ts L r L' => ∃ (t : Tw) (d k : Int), ts = [tTw C t, I d, I k] ∧ StOk t.st ∧ r = .v (B (mirB t.st d k)) ∧ L' = L
theorem mir_home {st : List Lane} (ok : StOk st) {T : Int} (h : homeB st T = true) (k : Int) : mirB st T k = true := by
  unfold homeB at h
  rw [List.all_eq_true] at h
  unfold mirB
  rw [List.all_eq_true]
  exact fun l hl => decide_eq_true (leads_mirror (ok.2 l hl).1 (h l hl) k)
theorem mir_not {m : Int} {st : List Lane} (ok : ∀ l ∈ st, l.Ok m) {d : Int} (h : homeB st d = false) : mirB st d 0 = false := by
  cases e : mirB st d 0 with
  | false => rfl
  | true =>
    unfold mirB at e
    rw [List.all_eq_true] at e
    have : homeB st d = true := by
      unfold homeB
      rw [List.all_eq_true]
      intro l hl
      cases ht : turnsB l d with
      | true => rfl
      | false =>
        have h1 := of_decide_eq_true (e l hl)
        rw [show d + 0 = d by omega, show d - 1 - 0 = d - 1 by omega, leads_plain_day (ok l hl).r1 ht] at h1
        have hne := (ok l hl).ne
        unfold leadsL swapP at h1
        split at h1
        · exact absurd (congrArg Prod.fst h1) hne
        · exact absurd (congrArg Prod.snd h1) hne
    rw [this] at h; cases h
/-! all pairs of a day -/
def pairsOn (t : Tw) (d : Int) : List (Int × Int) := (rangeT 1 t.n.toNat).flatMap fun p => (openL t p d).map fun y => (p, y)
def R_pairs_of (C : Addr) : Rel := fun ts L r L' => ∃ (t : Tw) (d : Int), ts = [tTw C t, I d] ∧ PartsOk t ∧ r = .v (.lst ((pairsOn t d).map tPair)) ∧ L' = L
theorem mem_pairsOn {t : Tw} {d : Int} {q : Int × Int} (h1 : 1 ≤ t.n) : q ∈ pairsOn t d ↔ 1 ≤ q.1 ∧ q.1 ≤ t.n ∧ q.2 ∈ openL t q.1 d := by
  unfold pairsOn
  rw [List.mem_flatMap]
  constructor
  · rintro ⟨p, hp, hq⟩
    obtain ⟨y, hy, rfl⟩ := List.mem_map.mp hq
    have := mem_rangeT.mp hp
    exact ⟨by show 1 ≤ p; omega, by show p ≤ t.n; omega, hy⟩
  · rintro ⟨a, b, c⟩
    exact ⟨q.1, mem_rangeT.mpr ⟨a, by omega⟩, List.mem_map.mpr ⟨q.2, c, rfl⟩⟩
def ltP (a b : Int × Int) : Prop := a.1 < b.1 ∨ (a.1 = b.1 ∧ a.2 < b.2)
theorem rangeT_strict (lo : Int) (n : Nat) : (rangeT lo n).Pairwise (· < ·) := by
  unfold rangeT
  rw [List.pairwise_map]
  exact (List.pairwise_lt_range (n := n)).imp fun {a b} h => by omega
theorem pairsOn_strict (t : Tw) (d : Int) : (pairsOn t d).Pairwise ltP := by
  unfold pairsOn
  rw [List.pairwise_flatMap]
  refine ⟨fun p _ => ?_, (rangeT_strict 1 t.n.toNat).imp fun {a b} h x hx y hy => ?_⟩
  · rw [List.pairwise_map]
    exact (sortU_strict _).imp fun {a b} h => .inr ⟨rfl, h⟩
  · obtain ⟨x', _, rfl⟩ := List.mem_map.mp hx
    obtain ⟨y', _, rfl⟩ := List.mem_map.mp hy
    exact .inl h
theorem strict_uniqP : ∀ {l m : List (Int × Int)}, l.Pairwise ltP → m.Pairwise ltP → (∀ k, k ∈ l ↔ k ∈ m) → l = m
  | [], [], _, _, _ => rfl
  | [], b :: m, _, _, h => by have := (h b).mpr List.mem_cons_self; cases this
  | a :: l, [], _, _, h => by have := (h a).mp List.mem_cons_self; cases this
  | a :: l, b :: m, h1, h2, h => by
    obtain ⟨a1, a2⟩ := List.pairwise_cons.mp h1
    obtain ⟨b1, b2⟩ := List.pairwise_cons.mp h2
    have e : a = b := by
      rcases List.mem_cons.mp ((h a).mp List.mem_cons_self) with e | e
      · exact e
      · rcases List.mem_cons.mp ((h b).mpr List.mem_cons_self) with e2 | e2
        · exact e2.symm
        · have := a1 _ e2; have := b1 _ e; unfold ltP at *; omega
    subst e
    refine congrArg _ (strict_uniqP a2 b2 fun k => ⟨fun hk => ?_, fun hk => ?_⟩)
    · rcases List.mem_cons.mp ((h k).mp (List.mem_cons_of_mem _ hk)) with e | e
      · have := a1 k hk; subst e; unfold ltP at *; omega
      · exact e
    · rcases List.mem_cons.mp ((h k).mpr (List.mem_cons_of_mem _ hk)) with e | e
      · have := b1 k hk; subst e; unfold ltP at *; omega
      · exact e
theorem strict_nodup {l : List (Int × Int)} (h : l.Pairwise ltP) : l.Nodup := h.imp fun {a b} h e => by subst e; unfold ltP at h; omega
theorem sortP_strict {l : List (Int × Int)} (h : l.Nodup) : (sortP l).Pairwise ltP := by
  have h1 := sortP_sorted l
  have h2 : (sortP l).Nodup := (sortP_perm l).nodup_iff.mpr h
  refine (List.Pairwise.and h1 h2).imp fun {a b} h => ?_
  obtain ⟨h3, h4⟩ := h
  unfold leP at h3
  unfold ltP
  simp only [Bool.or_eq_true, Bool.and_eq_true, decide_eq_true_eq] at h3
  rcases h3 with h3 | ⟨h3, h5⟩
  · exact .inl h3
  · refine .inr ⟨h3, ?_⟩
    have : a.2 ≠ b.2 := fun e => h4 (Prod.ext h3 e)
    omega
theorem open_range {t : Tw} (ok : PartsOk t) {p d y : Int} (h : y ∈ openL t p d) : 1 ≤ y ∧ y ≤ t.n := by
  rcases mem_openL.mp h with ⟨l, hl, e⟩ | ⟨q, hq, h1, rfl⟩ | ⟨h1, rfl⟩
  · have lo := ok.st l hl
    unfold leadsL at e
    split at e
    · rw [← (Prod.mk.inj e).2]; exact ⟨lo.b1, lo.b2⟩
    · rw [← (Prod.mk.inj e).2]; exact ⟨lo.a1, lo.a2⟩
  · obtain ⟨a, b, c, d, _⟩ := ok.wd.ok q hq
    rcases h1 with rfl | rfl <;> omega
  · exact ok.bd.ok y h1
theorem open_swap {t : Tw} (ok : PartsOk t) {T : Int} (h : homeB t.st T = true) (k a b : Int) : b ∈ openL t a (T + k) ↔ a ∈ openL t b (T - 1 - k) := by
  unfold homeB at h
  rw [List.all_eq_true] at h
  rw [mem_openL, mem_openL]
  refine or_congr ?_ (or_congr ?_ ?_)
  · constructor
    · rintro ⟨l, hl, e⟩
      refine ⟨l, hl, ?_⟩
      rw [leads_mirror (ok.st l hl).r1 (h l hl) k] at e
      exact Prod.ext (Prod.mk.inj e).2 (Prod.mk.inj e).1
    · rintro ⟨l, hl, e⟩
      exact ⟨l, hl, by rw [leads_mirror (ok.st l hl).r1 (h l hl) k, e]⟩
  · constructor
    · rintro ⟨q, hq, h1, rfl⟩
      exact ⟨q, hq, by rcases h1 with h1 | h1 <;> omega, by omega⟩
    · rintro ⟨q, hq, h1, rfl⟩
      exact ⟨q, hq, by rcases h1 with h1 | h1 <;> omega, by omega⟩
  · constructor
    · rintro ⟨h1, rfl⟩; exact ⟨h1, rfl⟩
    · rintro ⟨h1, rfl⟩; exact ⟨h1, rfl⟩
theorem pairs_swap {t : Tw} (ok : PartsOk t) {T : Int} (h : homeB t.st T = true) (k : Int) : pairsOn t (T + k) = sortP ((pairsOn t (T - 1 - k)).map swapP) := by
  have hn : ((pairsOn t (T - 1 - k)).map swapP).Nodup := by
    show List.Pairwise (· ≠ ·) _
    rw [List.pairwise_map]
    exact (strict_nodup (pairsOn_strict t _)).imp fun {a b} h e => h (by unfold swapP at e; exact Prod.ext (Prod.mk.inj e).2 (Prod.mk.inj e).1)
  refine strict_uniqP (pairsOn_strict t _) (sortP_strict hn) fun q => ?_
  rw [(sortP_perm _).mem_iff, List.mem_map, mem_pairsOn ok.n1]
  constructor
  · rintro ⟨h1, h2, h3⟩
    have h4 := open_range ok h3
    exact ⟨(q.2, q.1), (mem_pairsOn ok.n1).mpr ⟨h4.1, h4.2, (open_swap ok h k q.1 q.2).mp h3⟩, rfl⟩
  · rintro ⟨p, hp, rfl⟩
    obtain ⟨h1, h2, h3⟩ := (mem_pairsOn ok.n1).mp hp
    have h4 := open_range ok h3
    exact ⟨h4.1, h4.2, (open_swap ok h k p.2 p.1).mpr h3⟩
theorem pairsOn_len {t : Tw} (ok : PartsOk t) (d : Int) : ∀ n : Nat, n ≤ 8 → ((rangeT 1 n).flatMap fun p => (openL t p d).map fun y => (p, y)).length ≤ n * 41
  | 0, _ => by simp [rangeT]
  | n + 1, h => by
    have e : rangeT 1 (n + 1) = rangeT 1 n ++ [(1 + n : Int)] := by
      unfold rangeT; rw [List.range_succ, List.map_append]; rfl
    rw [e, List.flatMap_append, List.length_append]
    have h1 := pairsOn_len ok d n (by omega)
    have h2 : ([(1 + n : Int)].flatMap fun p => (openL t p d).map fun y => (p, y)).length ≤ 41 := by
      show (List.map _ _ ++ []).length ≤ 41
      rw [List.append_nil, List.length_map]
      unfold openL sortU
      rw [(sortI_perm _).length_eq]
      refine Nat.le_trans ?_ (ways_len ok (1 + n) d)
      exact nodup_len (nodup_eraseDups _ _ (Nat.le_refl _)) fun x hx => List.mem_eraseDups.mp hx
    omega
end TL


/-! Dicts of ints as cells; how often a thing stands in a list. -/
namespace TL
open PySem PySem.Spec PyProof.Rows L2
def hasK (ks : List Key) (k : Key) : Bool := ks.any fun a => decide (a = k)
def putKs (ks : List Key) (k : Key) : List Key := if hasK ks k then ks else ks ++ [k]
def putTs {α : Type} (ks : List Key) (ts : List α) (k : Key) (t : α) : List α := if hasK ks k then (ks.zip ts).map (fun kv => if kv.1 = k then t else kv.2) else ts ++ [t]
theorem zip_any {α : Type} {k : Key} : ∀ {ks : List Key} {vs : List α}, ks.length = vs.length → ((ks.zip vs).any fun kv => decide (kv.1 = k)) = hasK ks k
  | [], [], _ => rfl
  | a :: ks, v :: vs, h => by
    rw [List.zip_cons_cons, List.any_cons, zip_any (Nat.succ.inj h)]; rfl
theorem zip_put {α : Type} {k : Key} {v : α} : ∀ {ks : List Key} {vs : List α}, ks.length = vs.length → ((ks.zip vs).map fun kv => if kv.1 = k then (kv.1, v) else kv) = ks.zip ((ks.zip vs).map fun kv => if kv.1 = k then v else kv.2)
  | [], [], _ => rfl
  | a :: ks, x :: vs, h => by
    rw [List.zip_cons_cons, List.map_cons, List.map_cons, zip_put (Nat.succ.inj h), List.zip_cons_cons]
    by_cases e : a = k
    · simp [e]
    · simp [e]
theorem putK_zip {ks : List Key} {vs : List V} {k : Key} {v : V} (h : ks.length = vs.length) : putK (ks.zip vs) k v = (putKs ks k).zip (putTs ks vs k v) ∧ (putKs ks k).length = (putTs ks vs k v).length := by
  unfold putK putKs putTs
  rw [zip_any h]
  cases e : hasK ks k
  · rw [if_neg (by decide), if_neg (by decide), if_neg (by decide), List.zip_append h]
    exact ⟨rfl, by rw [List.length_append, List.length_append, h]; rfl⟩
  · rw [if_pos rfl, if_pos rfl, if_pos rfl, zip_put h]
    exact ⟨rfl, by rw [List.length_map, List.length_zip]; omega⟩
theorem RpL.zipput {K : PySem.W.Frag} {W : Wd} {H : Hp} {k : Key} {t : T} {x : V} (rx : Rp K W H t x) : ∀ {ks : List Key} {ts : List T} {vs : List V}, RpL K W H ts vs → RpL K W H ((ks.zip ts).map fun kv => if kv.1 = k then t else kv.2) ((ks.zip vs).map fun kv => if kv.1 = k then x else kv.2)
  | [], _, _, _ => by simp; exact .nil
  | a :: ks, [], _, h => by cases h; exact .nil
  | a :: ks, _ :: _, _, h => by
    cases h with
    | cons h r =>
      rw [List.zip_cons_cons, List.zip_cons_cons, List.map_cons, List.map_cons]
      refine .cons ?_ (r.zipput rx)
      by_cases e : a = k
      · simp only [if_pos e]; exact rx
      · simp only [if_neg e]; exact h
theorem RpL.put {K : PySem.W.Frag} {W : Wd} {H : Hp} {ks : List Key} {k : Key} {t : T} {x : V} {ts : List T} {vs : List V} (r : RpL K W H ts vs) (rx : Rp K W H t x) : RpL K W H (putTs ks ts k t) (putTs ks vs k x) := by
  unfold putTs
  split
  · exact r.zipput rx
  · exact r.append (.cons rx .nil)
def addK (is : List Int) (y : Int) : List Int := if y ∈ is then is else is ++ [y]
theorem mem_addK {is : List Int} {y x : Int} : x ∈ addK is y ↔ x ∈ is ∨ x = y := by
  unfold addK
  split
  · exact ⟨.inl, fun h => h.elim id fun e => e ▸ by assumption⟩
  · simp
theorem addK_nodup {is : List Int} {y : Int} (h : is.Nodup) : (addK is y).Nodup := by
  unfold addK
  split
  · exact h
  · rename_i hy
    exact List.nodup_append.mpr ⟨h, by simp, fun a ha b hb => by simp at hb; subst hb; exact fun e => hy (e ▸ ha)⟩
theorem hasK_int (is : List Int) (y : Int) : hasK (is.map Sum.inl) (Sum.inl y) = decide (y ∈ is) := by
  unfold hasK
  induction is with
  | nil => rfl
  | cons a l ih =>
    rw [List.map_cons, List.any_cons, ih]
    by_cases e : a = y
    · subst e; simp
    · have e2 : ¬((Sum.inl a : Key) = Sum.inl y) := fun z => e (Sum.inl.inj z)
      rw [decide_eq_false e2, Bool.false_or]
      simp [Ne.symm e]
theorem putKs_int (is : List Int) (y : Int) : putKs (is.map Sum.inl) (Sum.inl y) = (addK is y).map Sum.inl := by
  unfold putKs addK
  rw [hasK_int]
  by_cases h : y ∈ is
  · rw [if_pos (decide_eq_true h), if_pos h]
  · rw [if_neg (by rw [decide_eq_false h]; decide), if_neg h, List.map_append]; rfl
section
variable {CX : CXT} {P : Program} {w : World} {K : PySem.W.Frag} {mg : Str → Option Value} {base : Heap} {k : Nat} {N : List Str} {sc : Scope} {fs : Str → Bool} {X : Cx}
variable {e a b c o ix : Expr} {ρ : TEnv} {L L1 Lb : Store} {t u : T} {ts us : List T} {pos p apos : Pos} {i j : Int} {rest : List Stmt} {kk : TK} {ks : List Key}
/-- {} -/
theorem ev_dict0 : Ev X (.Dict [] [] pos) ρ L (.n (.dK [] [])) L := by
  refine ⟨fun W H σ Q s en q => ?_⟩
  exact wp_pe pe_dnewK fun p hp => q _ W _ (.newp hp) (s.new hp) (new_n (t := .dK [] []) s hp ⟨[], upd_same, rfl, .nil⟩)
/-- d[i] = e, d a cell -/
theorem wdput {p' : Pos} {m : Nat} (ct : Ct CX P w K mg base k N sc fs X) (he : Ev X e ρ L (.v t) L1) (ho : Ev X o ρ L1 (.v (.cel m)) L1) (hi : Ev X ix ρ L1 (.v (I i)) Lb) (hl : Lb m = some (.dK ks ts)) (hz : ks.length ≤ 100000)
    (h : WS X rest ρ (updS Lb m (some (.dK (putKs ks (Sum.inl i)) (putTs ks ts (Sum.inl i) t)))) kk) (hs : swapsWith e (some (.Subscript o ix p')) pos.line X.env = pure false := by rfl) : WS X (.Assign [.Subscript o ix p'] e pos :: rest) ρ L kk := by
  refine ws_cons ?_
  refine ⟨fun W H σ D s en d => ?_⟩
  refine wp_ps (ps_dput ct.u1 pe_wp pe_wp pe_wp hs) ?_
  refine he W H σ _ s en fun y W1 H1 st1 s1 r1 => ?_
  refine ho W1 H1 σ _ s1 (en.step st1 s) fun z W2 H2 st2 s2 r2 => ?_
  have st12 := st1.trans st2
  refine hi W2 H2 σ _ s2 (en.step st12 s) fun v W3 H3 st3 s3 r3 => ?_
  cases r3
  cases r2 with
  | cel hc =>
    have hc3 := st3.ad m _ hc
    obtain ⟨vs, e1, l1, r4⟩ := s3.cel m _ _ hl hc3
    have ry := (Rp.step r1 st2 s1).step st3 s2
    have hsz : (100000 : Nat) < sizeLine := by decide
    obtain ⟨z1, z2⟩ := putK_zip (k := Sum.inl i) (v := y) l1
    refine ⟨_, _, rfl, DPut.k (k := Sum.inl i) e1 (by rw [List.length_zip]; omega), ?_⟩
    rw [z1]
    have st4 := Step.write (t' := .dK (putKs ks (Sum.inl i)) (putTs ks ts (Sum.inl i) t)) (o := .dK ((putKs ks (Sum.inl i)).zip (putTs ks vs (Sum.inl i) y))) (H := H3) hl hc3
    have st14 := (st12.trans st3).trans st4
    exact d.nx _ _ W3 _ _ st14 (s3.write hl hc3 ⟨_, upd_same, z2, (r4.put ry).write s3 hl hc3⟩) (en.step st14 s) h
/-- sorted(d) of a dict of ints, d a cell -/
theorem ksortD {m : Nat} {is : List Int} (ct : Ct CX P w K mg base k N sc fs X) (hm : mg "sorted" = none) (ha : EvA X [e] ρ L [.cel m] L1) (hl : L1 m = some (.dK (is.map Sum.inl) ts)) (hz : is.length < 64) (hg : glOk sc "sorted" = true := by decide +kernel)
    (he : starEach [e] X.env = (false, eval e X.env) :: starEach [] X.env := by first | with_reducible exact se1 | with_reducible exact se2 | with_reducible exact se3 | with_reducible exact se4 | with_reducible exact se5 | with_reducible exact se6 | with_reducible exact se7 | with_reducible exact se8 | with_reducible exact se9 | rfl) (hpl : (backTo pos (starEach [] X.env)).any (·.1) = false := by rfl) : Ev X (.Call (.Name "sorted" p) [e] [] pos) ρ L (.n (.lst ((sortI is).map I))) L1 :=
  ev_cb ct (call_sortedDI ct.calm) PyProof.Rows.boot_sorted hm hg ha (fun W H xs Q s r0 q => by
    obtain ⟨x, rfl, r⟩ := rp1 r0
    cases r with
    | cel hc =>
      obtain ⟨vs, e1, l1, rr⟩ := s.cel m _ _ hl hc
      refine ⟨_, _, is, rfl, .inl e1, by rw [List.map_fst_zip]; omega, hz, fun ms p h1 h2 hp => ?_⟩
      have e := sortI_uniq h1 h2
      subst e
      exact q _ W _ (.newp hp) (s.new hp) (new_n (t := .lst _) s hp ⟨_, upd_same, RpL.of_atoms V.int _⟩)) he hpl
/-- l.count(x) of data -/
def rCntD (K : PySem.W.Frag) : V → List V → Hp → VK → Prop := fun x xs H Q => ∃ (a : Addr) (d : PyData) (ds : List PyData) (y : V), x = .ref a ∧ xs = [y] ∧ Dp K H (.ref a) (.list ds) ∧ Dp K H y d ∧ SeqAt.shaped d = true ∧ SeqAt.shaped (.list ds) = true ∧ Q (.int (ds.countP fun z => PyData.eqv z d : Nat)) H
theorem mt_countD (hu : X.A.units + 65 < cLine) : MtR X "list.count" (rCntD X.K) := by
  intro pins s σ H x xs v us Q I rx rxs h
  obtain ⟨a, d, ds, y, rfl, rfl, hl, hy, sd, sl, q⟩ := h
  cases rx
  obtain ⟨uy, rfl, ry⟩ := rxs.one
  obtain ⟨bs, r1⟩ := Dp.reads I d y uy hy ry
  have hxs : PyData.canLayAll0 ds = true := SeqAt.canLay_of_shaped sl
  have hroom : X.A.units + 1 + min (PyData.depthAll ds) d.depth < cLine := room_in_shaped sd hu
  cases hl with
  | lst hs ha =>
    obtain ⟨its, rv, ⟨⟨cls, dd, data, sls⟩, n, ho, hc, hdn, hdt⟩, hlen⟩ := I.list hs
    simp only at hc hdt
    subst hc hdt
    obtain ⟨as, h4⟩ := Dp.readsAll I ds _ its ha rv
    have hmap : its.map (SeqAt.readOf s.heap) = ds := SeqAt.readsAll_map ds its as hxs h4
    refine call_meets PySem.F.slot_list_count ⟨_, ho, rfl⟩ PySem.F.entry_list_count (PySem.F.args_list_count_2 _ _)
      (SeqAt.list_countAt a its.toArray n dd sls uy (fun u => PyData.eqv (SeqAt.readOf s.heap u) d)) ⟨ho, SeqAt.items_eqAt (vs := its.toArray) (show ReadsAll s.heap its.toArray.toList ds as from h4) r1 hxs (SeqAt.canLay_of_shaped sd) hroom, ?_⟩
    have ec : its.toArray.toList.countP (fun u => PyData.eqv (SeqAt.readOf s.heap u) d) = ds.countP fun z => PyData.eqv z d := by
      rw [← hmap, List.countP_map]; rfl
    refine ⟨.int (ds.countP (fun z => PyData.eqv z d) : Nat), H, I.tok _, ⟨s.toks, ?_⟩, q⟩
    show Value.int ((its.toArray.toList.countP (fun u => PyData.eqv (SeqAt.readOf s.heap u) d) : Nat) : Int) s.toks = Value.int ((ds.countP (fun z => PyData.eqv z d) : Nat) : Int) s.toks
    rw [ec]
theorem count_pd {ts : List T} {ds : List PyData} {x : T} {d : PyData} (h : pdL ts = some ds) (hd : pd x = some d) : (ds.countP fun z => PyData.eqv z d) = ts.countP fun y => eqT y x := by
  induction ts generalizing ds with
  | nil => unfold pdL at h; cases h; rfl
  | cons t ts ih =>
    unfold pdL at h
    cases q1 : pd t with
    | none => rw [q1] at h; cases h
    | some d1 =>
      cases q2 : pdL ts with
      | none => rw [q1, q2] at h; cases h
      | some es =>
        rw [q1, q2] at h; cases h
        have e1 : eqT t x = PyData.eqv d1 d := by unfold eqT; rw [q1, hd]
        rw [List.countP_cons, List.countP_cons, ih q2, e1]
theorem ev_countD {apos : Pos} (ct : Ct CX P w K mg base k N sc fs X) (ho : Ev X o ρ L (.v (.lst ts)) L1) (ha : Ev X e ρ L1 (.v t) Lb) (h1 : shp t = true) (h2 : shp (.lst ts) = true)
    (hs : starEach [e] X.env = (false, eval e X.env) :: starEach [] X.env := by rfl) (hbase : attributeBase o "count" X.env (eval o X.env) = eval o X.env := by rfl)
    (hfew : ((backTo pos (starEach (e :: []) X.env)).all (fun x => !x.1) && (backToKw pos (keywordEach [] X.env)).all (fun x => x.1.isSome)
      && decide ((e :: []).length + ([] : List Keyword).length + (if ([] : List Keyword).isEmpty then 0 else 1) < 30)) = true := by rfl)
    (hline : (apos.endLine == pos.line) = true := by rfl) (hplain : (backTo pos (starEach [] X.env)).any (·.1) = false := by rfl) : Ev X (.Call (.Attribute o "count" apos) [e] [] pos) ρ L (.v (I (ts.countP fun y => eqT y t : Nat))) Lb := by
  refine ⟨fun W H σ Q s en q => ?_⟩
  refine wp_pe (pe_bm PySem.F.plainAttrs_list PySem.F.slot_list_count PySem.F.type_list_count (mt_countD ct.u65) pe_wp (pa_cons pe_wp pa_nil hs) hbase hfew hline hs hplain) ?_
  refine ho W H σ _ s en fun x W1 H1 st1 s1 r1 => ?_
  cases r1 with
  | lst f hh rr =>
    refine ⟨.inl ⟨rfl, _, .inl (.inl hh)⟩, ?_⟩
    refine ha W1 H1 σ _ s1 (en.step st1 s) fun y W2 H2 st2 s2 r2 => ?_
    obtain ⟨d, e1, d1⟩ := shp_of h1
    obtain ⟨e, e2, d2⟩ := shp_of h2
    obtain ⟨ds, rfl, e3⟩ := pd_lst e2
    have r3 := Rp.step (t := .lst ts) (.lst f hh rr) st2 s1
    refine ⟨_, d, ds, y, rfl, rfl, dp_of _ _ _ r3 e2, dp_of _ _ _ r2 e1, d1, d2, ?_⟩
    rw [count_pd e3 e1]
    exact q _ W2 H2 (st1.trans st2) s2 (.v _)
end
end TL


/-! The laws' own next places: _law_lead, _law_moves, _law_next; how often within a whole turn. -/
namespace TL
open PySem PySem.Spec PyProof.Rows L2
theorem lead_mod {x r : Int} (h : 0 < r) : (x % (2 * r) < r) ↔ x / r % 2 = 0 := by
  have e1 := Int.mul_ediv_add_emod x (2 * r)
  have h1 := Int.emod_nonneg x (show 2 * r ≠ 0 by omega)
  have h2 := Int.emod_lt_of_pos x (show 0 < 2 * r by omega)
  have e2 : x / r = 2 * (x / (2 * r)) + (x % (2 * r)) / r := by
    have : x = r * (2 * (x / (2 * r))) + x % (2 * r) := by
      have : 2 * r * (x / (2 * r)) = r * (2 * (x / (2 * r))) := by rw [Int.mul_comm 2 r, Int.mul_assoc]
      omega
    conv => lhs; rw [this]
    rw [Int.mul_add_ediv_left _ _ (by omega : r ≠ 0)]
  rw [e2, Int.mul_add_emod_self_left]
  constructor
  · intro h3
    rw [Int.ediv_eq_zero_of_lt h1 h3]; rfl
  · intro h3
    rcases Int.lt_or_le (x % (2 * r)) r with h4 | h4
    · exact h4
    · have e3 : x % (2 * r) / r = 1 := by
        have : x % (2 * r) = (x % (2 * r) - r) + r * 1 := by omega
        rw [this, Int.add_mul_ediv_left _ _ (by omega : r ≠ 0), Int.ediv_eq_zero_of_lt (by omega) (by omega)]; rfl
      rw [e3] at h3
      exact absurd h3 (by decide)
def tMv (x : T × Int) : T := .tup [x.1, I x.2]
def stMv (st : List Lane) (p d : Int) (n : Nat) : List (T × Int) := ((TL.rangeT 0 n).filter fun i => decide ((leadsL (st.getD i.toNat L00) d).1 = p)).map fun i => (.tup [S "street", I i], (leadsL (st.getD i.toNat L00) d).2)
def wdMv (wd : List (Int × Int)) (p : Int) : List (T × Int) := (wd.filter fun q => decide (p = q.1 ∨ p = q.2)).map fun q => (.tup [S "broad", I (q.1 + q.2 - p)], q.1 + q.2 - p)
def movesL (t : Tw) (p d : Int) : List (T × Int) := stMv t.st p d t.st.length ++ wdMv t.wd p ++ (if p ∈ t.bd then [(.tup [S "inn"], p)] else [])
theorem rangeT_snoc (lo : Int) (n : Nat) : TL.rangeT lo (n + 1) = TL.rangeT lo n ++ [lo + (n : Int)] := by
  unfold TL.rangeT; rw [List.range_succ, List.map_append]; rfl
theorem stMv_snoc (st : List Lane) (p d : Int) (n : Nat) : stMv st p d (n + 1) = stMv st p d n ++ (if (leadsL (st.getD n L00) d).1 = p then [(.tup [S "street", I (n : Int)], (leadsL (st.getD n L00) d).2)] else []) := by
  unfold stMv
  rw [rangeT_snoc, List.filter_append, List.map_append]
  congr 1
  have e : (0 + (n : Int)) = (n : Int) := by omega
  rw [e]
  by_cases h : (leadsL (st.getD n L00) d).1 = p
  · have h2 : (leadsL (st.getD (n : Int).toNat L00) d).1 = p := h
    rw [if_pos h, List.filter_cons, if_pos (decide_eq_true h2)]; rfl
  · have h2 : ¬ (leadsL (st.getD (n : Int).toNat L00) d).1 = p := h
    rw [if_neg h, List.filter_cons, if_neg (by rw [decide_eq_false h2]; decide)]; rfl
theorem stMv_len (st : List Lane) (p d : Int) (n : Nat) : (stMv st p d n).length ≤ n := by
  unfold stMv
  rw [List.length_map]
  exact Nat.le_trans (List.length_filter_le _ _) (by rw [length_rangeT]; exact Nat.le_refl _)
theorem wdMv_snoc (wd : List (Int × Int)) (p : Int) (q : Int × Int) : wdMv (wd ++ [q]) p = wdMv wd p ++ (if p = q.1 ∨ p = q.2 then [(.tup [S "broad", I (q.1 + q.2 - p)], q.1 + q.2 - p)] else []) := by
  unfold wdMv
  rw [List.filter_append, List.map_append]
  congr 1
  by_cases h : p = q.1 ∨ p = q.2
  · rw [if_pos h, List.filter_cons, if_pos (decide_eq_true h)]; rfl
  · rw [if_neg h, List.filter_cons, if_neg (by rw [decide_eq_false h]; decide)]; rfl
theorem wdMv_len (wd : List (Int × Int)) (p : Int) : (wdMv wd p).length ≤ wd.length := by
  unfold wdMv
  rw [List.length_map]
  exact List.length_filter_le _ _
theorem movesL_len {t : Tw} (ok : PartsOk t) (p d : Int) : (movesL t p d).length ≤ 41 := by
  unfold movesL
  have h1 := stMv_len t.st p d t.st.length
  have h2 := wdMv_len t.wd p
  have h3 := ok.s12
  have h4 := pairs_len28 ok.wd ok.n8
  rw [List.length_append, List.length_append]
  have h5 : (if p ∈ t.bd then [((.tup [S "inn"] : T), p)] else []).length ≤ 1 := by split <;> simp
  omega
theorem moves_there {t : Tw} {p d y : Int} : y ∈ (movesL t p d).map Prod.snd ↔ y ∈ openL t p d := by
  rw [mem_openL]
  unfold movesL
  rw [List.map_append, List.map_append, List.mem_append, List.mem_append, or_assoc]
  refine or_congr ?_ (or_congr ?_ ?_)
  · unfold stMv
    rw [List.map_map, List.mem_map]
    constructor
    · rintro ⟨i, hi, rfl⟩
      obtain ⟨h1, h2⟩ := List.mem_filter.mp hi
      have h3 := of_decide_eq_true h2
      refine ⟨t.st.getD i.toNat L00, mem_num h1, ?_⟩
      rw [← h3]
      rfl
    · rintro ⟨l, hl, e⟩
      obtain ⟨i, hi⟩ := List.mem_iff_getElem?.mp hl
      have hil := (List.getElem?_eq_some_iff.mp hi).1
      have eg : t.st.getD ((i : Int)).toNat L00 = l := by
        rw [List.getD_eq_getElem?_getD, show ((i : Int)).toNat = i by omega, hi]; rfl
      refine ⟨(i : Int), List.mem_filter.mpr ⟨mem_rangeT.mpr ⟨by omega, by omega⟩, decide_eq_true ?_⟩, ?_⟩
      · rw [eg, e]
      · show (leadsL (t.st.getD ((i : Int)).toNat L00) d).2 = y
        rw [eg, e]
  · unfold wdMv
    rw [List.map_map, List.mem_map]
    constructor
    · rintro ⟨q, hq, rfl⟩
      obtain ⟨h1, h2⟩ := List.mem_filter.mp hq
      exact ⟨q, h1, of_decide_eq_true h2, rfl⟩
    · rintro ⟨q, hq, h1, rfl⟩
      exact ⟨q, List.mem_filter.mpr ⟨hq, decide_eq_true h1⟩, rfl⟩
  · by_cases h : p ∈ t.bd
    · rw [if_pos h]; simp [h]
    · rw [if_neg h]; simp [h]
theorem sort_moves {t : Tw} {p d : Int} : sortU ((movesL t p d).map Prod.snd) = openL t p d := by
  refine (sortU_eq (ns := (movesL t p d).map Prod.snd) (sortU_strict (waysL t p d)) fun k => ?_).symm
  exact moves_there.symm
def R_law_lead : Rel := fun ts L r L' => ∃ (l : Lane) (d : Int), ts = [tLane l, I d] ∧ 1 ≤ l.r ∧ r = .v (tPair (leadsL l d)) ∧ L' = L
def R_law_moves : Rel := fun ts L r L' => ∃ (q : Tw) (p d : Int), ts = [tParts q, I p, I d] ∧ PartsOk q ∧ r = .n (.lst ((movesL q p d).map tMv)) ∧ L' = L
/-- the places that the moves lead to, from many places -/
def theresL (q : Tw) (ps : List Int) (d : Int) : List Int := ps.flatMap fun p => (movesL q p d).map Prod.snd
def R_law_next : Rel := fun ts L r L' => ∃ (q : Tw) (ps : List Int) (d : Int), ts = [tParts q, .lst (ps.map I), I d] ∧ PartsOk q ∧ ps.length ≤ 100 ∧ r = .n (.lst ((sortU (theresL q ps d)).map I)) ∧ L' = L
/-- keys in the order of their coming -/
def keysL : List Int → List Int := List.foldl addK []
theorem keysL_snoc (l : List Int) (y : Int) : keysL (l ++ [y]) = addK (keysL l) y := by unfold keysL; rw [List.foldl_append]; rfl
theorem mem_foldl_addK {x : Int} : ∀ {l a : List Int}, x ∈ l.foldl addK a ↔ x ∈ a ∨ x ∈ l
  | [], a => by simp
  | y :: l, a => by
    rw [List.foldl_cons, mem_foldl_addK, mem_addK, List.mem_cons, or_assoc]
theorem mem_keysL {x : Int} {l : List Int} : x ∈ keysL l ↔ x ∈ l := by unfold keysL; rw [mem_foldl_addK]; simp
theorem nodup_foldl_addK : ∀ {l a : List Int}, a.Nodup → (l.foldl addK a).Nodup
  | [], _, h => h
  | y :: l, a, h => nodup_foldl_addK (l := l) (addK_nodup (y := y) h)
theorem keysL_nodup (l : List Int) : (keysL l).Nodup := nodup_foldl_addK .nil
theorem sort_keys (l : List Int) : sortI (keysL l) = sortU l := by
  refine sortU_eq ?_ fun k => by rw [(sortI_perm _).mem_iff, mem_keysL]
  have h2 : (sortI (keysL l)).Nodup := (sortI_perm _).nodup_iff.mpr (keysL_nodup l)
  exact (List.Pairwise.and (sortI_sorted (keysL l)) h2).imp fun {a b} h => by have := h.1; have := h.2; omega
theorem openL_in {t : Tw} (ok : PartsOk t) {p d y : Int} (h : y ∈ openL t p d) : 1 ≤ y ∧ y ≤ t.n := by
  rw [mem_openL] at h
  rcases h with ⟨l, hl, e⟩ | ⟨q, hq, h1, rfl⟩ | ⟨h1, rfl⟩
  · have o := ok.st l hl
    have : y = (leadsL l d).2 := by rw [e]
    subst this
    unfold leadsL
    have := o.a1; have := o.a2; have := o.b1; have := o.b2
    split <;> constructor <;> assumption
  · obtain ⟨h1, h2, h3, h4, h5⟩ := ok.wd.ok q hq
    omega
  · exact ok.bd.ok _ h1
theorem theres_keys {q : Tw} (ok : PartsOk q) (ps : List Int) (d : Int) : (keysL (theresL q ps d)).length ≤ 8 := by
  have h8 := ok.n8
  refine Nat.le_trans (nodup_len (m := TL.rangeT 1 8) (keysL_nodup _) fun y hy => ?_) (by rw [length_rangeT]; exact Nat.le_refl _)
  rw [mem_keysL] at hy
  unfold theresL at hy
  obtain ⟨p, _, hp⟩ := List.mem_flatMap.mp hy
  have := openL_in ok (moves_there.mp hp)
  exact mem_rangeT.mpr ⟨by omega, by omega⟩
/-! counting over a whole turn -/
theorem count_win {f : Int → Bool} {P : Nat} (hp : ∀ x, f (x + P) = f x) (e : Int) : ∀ m : Nat, ((List.range (P * m)).countP fun (k : Nat) => f (e + (k : Int))) = m * (List.range P).countP fun (k : Nat) => f (e + (k : Int))
  | 0 => by simp
  | m + 1 => by
    have hm : ∀ (m : Nat) (x : Int), f (x + P * m) = f x := by
      intro m
      induction m with
      | zero => intro x; simp
      | succ m ih => intro x; rw [show x + (P : Int) * ((m + 1 : Nat) : Int) = (x + P * m) + P by push_cast; rw [Int.mul_add]; omega, hp, ih]
    rw [Nat.mul_add, Nat.mul_one, List.range_add, List.countP_append, count_win hp e m, List.countP_map, Nat.add_mul, Nat.one_mul]
    congr 1
    refine List.countP_congr fun k _ => ?_
    show f (e + ((P * m + k : Nat) : Int)) = true ↔ _
    rw [show e + ((P * m + k : Nat) : Int) = (e + (k : Int)) + (P : Int) * (m : Int) by push_cast; omega, hm]
theorem one_leads : ∀ r ∈ [1, 2, 3, 4, 5, 6], ∀ e ∈ List.range 12, e < 2 * r → ((List.range (2 * r)).countP fun (k : Nat) => decide (((e : Int) + (k : Int)) / (r : Int) % 2 = 0)) = r := by decide +kernel
theorem one_turns : ∀ r ∈ [1, 2, 3, 4, 5, 6], ∀ e ∈ List.range 6, e < r → ((List.range r).countP fun (k : Nat) => decide (((e : Int) + (k : Int)) % (r : Int) = 0)) = 1 := by decide +kernel
theorem win_mod {f : Int → Bool} {P : Nat} (h0 : 0 < P) (hp : ∀ x, f (x + P) = f x) (e : Int) : ∃ n : Nat, n < P ∧ ∀ x : Int, f (e + x) = f ((n : Int) + x) := by
  refine ⟨(e % P).toNat, ?_, fun x => ?_⟩
  · have h1 := Int.emod_nonneg e (show (P : Int) ≠ 0 by omega)
    have h2 := Int.emod_lt_of_pos e (show (0 : Int) < P by omega)
    omega
  · have h1 := Int.emod_nonneg e (show (P : Int) ≠ 0 by omega)
    have hm : ∀ (m : Nat) (x : Int), f (x + P * m) = f x := by
      intro m
      induction m with
      | zero => intro x; simp
      | succ m ih => intro x; rw [show x + (P : Int) * ((m + 1 : Nat) : Int) = (x + P * m) + P by push_cast; rw [Int.mul_add]; omega, hp, ih]
    have e1 := Int.mul_ediv_add_emod e P
    rw [Int.toNat_of_nonneg h1]
    rcases Int.le_total 0 (e / P) with h | h
    · obtain ⟨m, hmm⟩ := Int.eq_ofNat_of_zero_le h
      rw [← hm m (e % P + x)]
      congr 1
      rw [hmm] at e1
      show e + x = e % P + x + (P : Int) * (m : Int)
      omega
    · obtain ⟨m, hmm⟩ := Int.eq_ofNat_of_zero_le (show 0 ≤ -(e / P) by omega)
      rw [← hm m (e + x)]
      congr 1
      have : e / P = -(m : Int) := by omega
      rw [this, Int.mul_neg] at e1
      omega
theorem mem_r6 {r : Int} (h1 : 1 ≤ r) (h2 : r ≤ 6) : r.toNat ∈ [1, 2, 3, 4, 5, 6] ∧ (r.toNat : Int) = r := by
  refine ⟨?_, by omega⟩
  have : r.toNat = 1 ∨ r.toNat = 2 ∨ r.toNat = 3 ∨ r.toNat = 4 ∨ r.toNat = 5 ∨ r.toNat = 6 := by omega
  simpa using this
theorem lead_count {m : Int} {l : Lane} (o : l.Ok m) (d : Int) {c : Nat} (hc : l.r.toNat ∣ c) : ((List.range (2 * c)).countP fun (k : Nat) => decide (leadsL l (d + (k : Int)) = (l.a, l.b))) = c := by
  obtain ⟨r1, r2⟩ := mem_r6 o.r1 o.r2
  have hr := o.r1
  have e1 : ∀ x : Int, decide (leadsL l x = (l.a, l.b)) = decide ((x - l.n) / (l.r.toNat : Int) % 2 = 0) := fun x => by
    rw [r2]
    unfold leadsL
    by_cases h : (x - l.n) / l.r % 2 = 0
    · rw [if_pos h, decide_eq_true h]; simp
    · rw [if_neg h, decide_eq_false h]
      have := o.ne
      simp [Ne.symm this]
  have hp : ∀ x : Int, (fun x : Int => decide (x / (l.r.toNat : Int) % 2 = 0)) (x + ((2 * l.r.toNat : Nat) : Int)) = (fun x : Int => decide (x / (l.r.toNat : Int) % 2 = 0)) x := fun x => by
    show decide ((x + ((2 * l.r.toNat : Nat) : Int)) / (l.r.toNat : Int) % 2 = 0) = decide (x / (l.r.toNat : Int) % 2 = 0)
    congr 2
    rw [show x + ((2 * l.r.toNat : Nat) : Int) = x + (l.r.toNat : Int) * 2 by push_cast; omega, Int.add_mul_ediv_left _ _ (by omega), Int.add_emod_right]
  obtain ⟨n, hn, hx⟩ := win_mod (f := fun x : Int => decide (x / (l.r.toNat : Int) % 2 = 0)) (P := 2 * l.r.toNat) (by omega) hp (d - l.n)
  obtain ⟨q, rfl⟩ := hc
  have := count_win (f := fun x : Int => decide (x / (l.r.toNat : Int) % 2 = 0)) (P := 2 * l.r.toNat) hp (d - l.n) q
  have e2 : (fun (k : Nat) => decide (leadsL l (d + (k : Int)) = (l.a, l.b))) = fun (k : Nat) => decide (((d - l.n) + (k : Int)) / (l.r.toNat : Int) % 2 = 0) := by
    funext k
    rw [e1, show d + (k : Int) - l.n = d - l.n + k by omega]
  rw [e2, show 2 * (l.r.toNat * q) = 2 * l.r.toNat * q by rw [Nat.mul_assoc], this]
  have e3 : ((List.range (2 * l.r.toNat)).countP fun (k : Nat) => decide (((d - l.n) + (k : Int)) / (l.r.toNat : Int) % 2 = 0)) = l.r.toNat := by
    have := one_leads l.r.toNat r1 n (List.mem_range.mpr (by have := o.r2; omega)) hn
    have e : (fun (k : Nat) => decide (((d - l.n) + (k : Int)) / (l.r.toNat : Int) % 2 = 0)) = fun (k : Nat) => decide (((n : Int) + (k : Int)) / (l.r.toNat : Int) % 2 = 0) := by funext k; exact hx k
    rw [e]; exact this
  rw [e3, Nat.mul_comm]
theorem turn_count {m : Int} {l : Lane} (o : l.Ok m) (d : Int) {c : Nat} (hc : l.r.toNat ∣ c) : ((List.range c).countP fun (k : Nat) => turnsB l (d + (k : Int))) = c / l.r.toNat := by
  obtain ⟨r1, r2⟩ := mem_r6 o.r1 o.r2
  have hr := o.r1
  have hp : ∀ x : Int, (fun x : Int => decide (x % (l.r.toNat : Int) = 0)) (x + (l.r.toNat : Int)) = (fun x : Int => decide (x % (l.r.toNat : Int) = 0)) x := fun x => by
    show decide ((x + (l.r.toNat : Int)) % (l.r.toNat : Int) = 0) = decide (x % (l.r.toNat : Int) = 0)
    rw [Int.add_emod_right]
  obtain ⟨n, hn, hx⟩ := win_mod (f := fun x : Int => decide (x % (l.r.toNat : Int) = 0)) (P := l.r.toNat) (by omega) hp (d - l.n)
  obtain ⟨q, rfl⟩ := hc
  have := count_win (f := fun x : Int => decide (x % (l.r.toNat : Int) = 0)) (P := l.r.toNat) hp (d - l.n) q
  have e2 : (fun (k : Nat) => turnsB l (d + (k : Int))) = fun (k : Nat) => decide (((d - l.n) + (k : Int)) % (l.r.toNat : Int) = 0) := by
    funext k
    unfold turnsB
    rw [r2, show d + (k : Int) - l.n = d - l.n + k by omega]
  rw [e2, this]
  have e3 : ((List.range l.r.toNat).countP fun (k : Nat) => decide (((d - l.n) + (k : Int)) % (l.r.toNat : Int) = 0)) = 1 := by
    have := one_turns l.r.toNat r1 n (List.mem_range.mpr (by have := o.r2; omega)) hn
    have e : (fun (k : Nat) => decide (((d - l.n) + (k : Int)) % (l.r.toNat : Int) = 0)) = fun (k : Nat) => decide (((n : Int) + (k : Int)) % (l.r.toNat : Int) = 0) := by funext k; exact hx k
    rw [e]; exact this
  rw [e3, Nat.mul_one, Nat.mul_div_cancel_left _ (by omega)]
end TL


/-! Texts of flat tuples tell their atoms. -/
namespace TL
open PySem PySem.Spec PyProof.Rows L2
theorem nat_repr_inj {n m : Nat} (h : n.repr.toList = m.repr.toList) : n = m := by
  rw [Nat.toList_repr, Nat.toList_repr] at h
  rw [← Nat.ofDigitChars_toDigits (b := 10) (n := n) (by decide) (by decide), h, Nat.ofDigitChars_toDigits (by decide) (by decide)]
theorem dash_not_repr (n : Nat) : '-' ∉ n.repr.toList := by
  rw [Nat.toList_repr]
  intro h
  exact absurd (Nat.isDigit_of_mem_toDigits (by decide) (by decide) h) (by decide)
theorem int_text_inj {i j : Int} (h : (toString i).toList = (toString j).toList) : i = j := by
  rw [Int.toString_eq_repr, Int.toString_eq_repr, Int.repr_eq_if, Int.repr_eq_if] at h
  split at h <;> split at h
  · have := nat_repr_inj h; omega
  · exfalso
    rw [String.toList_append] at h
    refine dash_not_repr i.toNat ?_
    rw [h]; simp
  · exfalso
    rw [String.toList_append] at h
    refine dash_not_repr j.toNat ?_
    rw [← h]; simp
  · rw [String.toList_append, String.toList_append] at h
    have := nat_repr_inj (List.append_cancel_left h)
    omega
theorem shown_int_inj {i j : Int} (h : (PyData.int i).shown.cps.toList = (PyData.int j).shown.cps.toList) : i = j := by
  rw [PyData.shown_int, PyData.shown_int, signs_ofString, signs_ofString] at h
  exact int_text_inj ((List.map_inj_right (fun a b e => Char.toNat_inj.mp e)).mp h)
/-- up to the first mark -/
theorem split_mark {α : Type} {k : α} : ∀ {a b x y : List α}, k ∉ a → k ∉ b → a ++ k :: x = b ++ k :: y → a = b ∧ x = y
  | [], [], _, _, _, _, h => ⟨rfl, (List.cons.inj h).2⟩
  | [], b :: bs, _, _, _, hb, h => absurd (List.mem_cons.mpr (.inl (List.cons.inj h).1)) hb
  | a :: as, [], _, _, ha, _, h => absurd (List.mem_cons.mpr (.inl (List.cons.inj h).1.symm)) ha
  | a :: as, b :: bs, x, y, ha, hb, h => by
    obtain ⟨h1, h2⟩ := List.cons.inj h
    obtain ⟨h3, h4⟩ := split_mark (fun z => ha (List.mem_cons_of_mem _ z)) (fun z => hb (List.mem_cons_of_mem _ z)) h2
    exact ⟨by rw [h1, h3], h4⟩
theorem cps3 (a b c : PyData) : (PyData.tuple [a, b, c]).shown.cps.toList = 40 :: (a.shown.cps.toList ++ 44 :: 32 :: (b.shown.cps.toList ++ 44 :: 32 :: (c.shown.cps.toList ++ [41]))) := by
  rw [PyData.shown_tuple]
  show (((("(" : Str) ++ (a.shown ++ ", " ++ (b.shown ++ ", " ++ c.shown))) ++ (")" : String) : Str)).cps.toList = _
  simp only [cps_toList_append]
  have e1 : ((", " : String) : Str).cps.toList = [44, 32] := by decide
  have e2 : (("(" : Str)).cps.toList = [40] := by decide
  have e3 : ((")" : String) : Str).cps.toList = [41] := by decide
  rw [e1, e2, e3]; simp
theorem cps2 (a b : PyData) : (PyData.tuple [a, b]).shown.cps.toList = 40 :: (a.shown.cps.toList ++ 44 :: 32 :: (b.shown.cps.toList ++ [41])) := by
  rw [PyData.shown_tuple]
  show (((("(" : Str) ++ (a.shown ++ ", " ++ b.shown)) ++ (")" : String) : Str)).cps.toList = _
  simp only [cps_toList_append]
  have e1 : ((", " : String) : Str).cps.toList = [44, 32] := by decide
  have e2 : (("(" : Str)).cps.toList = [40] := by decide
  have e3 : ((")" : String) : Str).cps.toList = [41] := by decide
  rw [e1, e2, e3]; simp
theorem cps1 (a : PyData) : (PyData.tuple [a]).shown.cps.toList = 40 :: (a.shown.cps.toList ++ [44, 41]) := by
  rw [PyData.shown_tuple]
  show (((("(" : Str) ++ a.shown) ++ (",)" : String) : Str)).cps.toList = _
  simp only [cps_toList_append]
  have e2 : (("(" : Str)).cps.toList = [40] := by decide
  have e3 : ((",)" : String) : Str).cps.toList = [44, 41] := by decide
  rw [e2, e3]; simp
def NoCm (d : PyData) : Prop := 44 ∉ d.shown.cps.toList
theorem nc_int (i : Int) : NoCm (.int i) := shown_int_free (.inl (by decide)) i
theorem nc_bool (b : Bool) : NoCm (.bool b) := shown_bool_free (.inl (by decide)) b
theorem nc_none : NoCm .none := shown_none_free (.inl (by decide))
theorem shown_tup3 {a b c a' b' c' : PyData} (h1 : NoCm a) (h2 : NoCm b) (h1' : NoCm a') (h2' : NoCm b') (h : (PyData.tuple [a, b, c]).shown = (PyData.tuple [a', b', c']).shown) :
    a.shown.cps.toList = a'.shown.cps.toList ∧ b.shown.cps.toList = b'.shown.cps.toList ∧ c.shown.cps.toList = c'.shown.cps.toList := by
  have e := congrArg (fun s : Str => s.cps.toList) h
  simp only [cps3] at e
  obtain ⟨e1, e2⟩ := split_mark h1 h1' (List.cons.inj e).2
  obtain ⟨e3, e4⟩ := split_mark h2 h2' (List.cons.inj e2).2
  exact ⟨e1, e3, List.append_cancel_right (List.cons.inj e4).2⟩
theorem shown_tup2 {a b a' b' : PyData} (h1 : NoCm a) (h1' : NoCm a') (h : (PyData.tuple [a, b]).shown = (PyData.tuple [a', b']).shown) :
    a.shown.cps.toList = a'.shown.cps.toList ∧ b.shown.cps.toList = b'.shown.cps.toList := by
  have e := congrArg (fun s : Str => s.cps.toList) h
  simp only [cps2] at e
  obtain ⟨e1, e2⟩ := split_mark h1 h1' (List.cons.inj e).2
  exact ⟨e1, List.append_cancel_right (List.cons.inj e2).2⟩
theorem shown_21 {a b a' : PyData} (h1 : NoCm a) (h1' : NoCm a') : (PyData.tuple [a, b]).shown ≠ (PyData.tuple [a']).shown := fun h => by
  have e := congrArg (fun s : Str => s.cps.toList) h
  simp only [cps2, cps1] at e
  obtain ⟨e1, e2⟩ := split_mark h1 h1' (List.cons.inj e).2
  exact absurd (List.cons.inj e2).1 (by decide)
/-- what may stand in a tuple told: a text of its own is told apart from whole numbers -/
theorem shown_bool_int {b : Bool} {i : Int} : (PyData.bool b).shown.cps.toList ≠ (PyData.int i).shown.cps.toList := fun h => by
  have h2 : (101 : Nat) ∈ (PyData.bool b).shown.cps.toList := by
    rw [PyData.shown_bool]
    cases b <;> decide
  rw [h] at h2
  exact shown_int_free' (by decide) i h2
theorem shown_none_int {i : Int} : (PyData.none).shown.cps.toList ≠ (PyData.int i).shown.cps.toList := fun h => by
  have h2 : (101 : Nat) ∈ (PyData.none).shown.cps.toList := by rw [PyData.shown_none]; decide
  rw [h] at h2
  exact shown_int_free' (by decide) i h2
end TL


/-! Papers of home nights: flat things that may be shown for one. -/
namespace TL
open PySem PySem.Spec PyProof.Rows L2
inductive At where
  | aI (n : Int)
  | aB (z : Bool)
  | aN
  | aS (x : Str)
deriving DecidableEq
def At.t : At → T
  | .aI n => I n
  | .aB z => B z
  | .aN => N0
  | .aS x => S x
def At.d : At → PyData
  | .aI n => .int n
  | .aB z => .bool z
  | .aN => .none
  | .aS x => .str x
def At.ok : At → Prop
  | .aI n => -200 ≤ n ∧ n ≤ 200
  | .aS x => (PyData.str x).canLay0 = true ∧ (PyData.str x).shown.length ≤ 100
  | _ => True
theorem At.sh {a : At} (h : a.ok) : Sh a.t a.d 0 := by
  cases a with
  | aI n => exact sh_I n
  | aB z => exact sh_B z
  | aN => exact sh_N
  | aS x => exact ⟨by show pd (S x) = _; unfold pd pdV; rfl, h.1, Nat.zero_le _⟩
theorem At.ty (a : At) : (tyN a.t).isSome = true := by cases a <;> rfl
/-- what may be told as a text -/
structure Sw (d : PyData) (k z : Nat) : Prop where
  sh : d.showable = true
  nd : d.hasDict = false
  dp : d.depth ≤ k
  ln : d.shown.length ≤ z
theorem int_shortA : ∀ n ∈ List.range 401, ((toString ((n : Int) - 200) : String) : Str).length ≤ 100 := by decide +kernel
theorem At.sw {a : At} (h : a.ok) : Sw a.d 0 100 := by
  cases a with
  | aI n =>
    have hn : -200 ≤ n ∧ n ≤ 200 := h
    refine ⟨?_, rfl, Nat.le_refl _, ?_⟩
    · show decide (n.natAbs.log2 < 1920) = true
      refine decide_eq_true ?_
      by_cases hz : n.natAbs = 0
      · rw [hz]; decide
      · have : n.natAbs < 2 ^ 1919 := Nat.lt_of_le_of_lt (show n.natAbs ≤ 200 by omega) (by decide +kernel)
        have := (Nat.log2_lt hz).mpr this; omega
    · show (PyData.int n).shown.length ≤ 100
      rw [PyData.shown_int]
      have := int_shortA (n + 200).toNat (List.mem_range.mpr (by omega))
      rw [show (((n + 200).toNat : Nat) : Int) - 200 = n by omega] at this
      exact this
  | aB z => exact ⟨rfl, rfl, Nat.le_refl _, by show (PyData.bool z).shown.length ≤ 100; rw [PyData.shown_bool]; cases z <;> decide⟩
  | aN => exact ⟨rfl, rfl, Nat.le_refl _, by show (PyData.none).shown.length ≤ 100; rw [PyData.shown_none]; decide⟩
  | aS x => exact ⟨rfl, rfl, Nat.le_refl _, h.2⟩
/-- a paper -/
inductive Pap where
  | tup (l : List At)
  | lst (l : List At)
  | one (a : At)
def Pap.t : Pap → T
  | .tup l => .tup (l.map At.t)
  | .lst l => .lst (l.map At.t)
  | .one a => a.t
def Pap.d : Pap → PyData
  | .tup l => .tuple (l.map At.d)
  | .lst l => .list (l.map At.d)
  | .one a => a.d
def wN : Str := "nights"
def wV : Str := "never"
def wH : Str := "home"
def Pap.ok : Pap → Prop
  | .tup l => (∀ a ∈ l, a.ok) ∧ l.length ≤ 4 ∧ (l.length = 3 → ∃ w a b, l = [.aS w, a, b] ∧ (w = wN ∨ w = wV ∨ w = wH) ∧ (w = wN → (∀ x, a ≠ .aS x) ∧ ∀ x, b ≠ .aS x))
  | .lst l => (∀ a ∈ l, a.ok) ∧ l.length ≤ 4
  | .one a => a = .aN ∨ ∃ x, a = .aS x ∧ a.ok
theorem Pap.ty (p : Pap) : (tyN p.t).isSome = true := by
  cases p with
  | tup l => rfl
  | lst l => rfl
  | one a => exact a.ty
theorem pd_ats : ∀ {l : List At}, (∀ a ∈ l, a.ok) → pdL (l.map At.t) = some (l.map At.d)
  | [], _ => by unfold pdL; rfl
  | a :: l, h => by
    show pdL (a.t :: l.map At.t) = some (a.d :: l.map At.d)
    unfold pdL
    rw [(At.sh (h a List.mem_cons_self)).e, pd_ats fun b hb => h b (List.mem_cons_of_mem _ hb)]
theorem sw_all : ∀ {l : List At}, (∀ a ∈ l, a.ok) → PyData.showableAll (l.map At.d) = true ∧ PyData.hasDictAll (l.map At.d) = false ∧ PyData.depthAll (l.map At.d) ≤ 0 ∧ ((PyData.shownAll (l.map At.d)).map (·.length)).sum ≤ 100 * l.length ∧ (PyData.shownAll (l.map At.d)).length = l.length
  | [], _ => by
    refine ⟨rfl, rfl, Nat.le_refl _, ?_, ?_⟩
    · show ((PyData.shownAll []).map (·.length)).sum ≤ _
      rw [PyData.shownAll_nil]; simp
    · show (PyData.shownAll []).length = _
      rw [PyData.shownAll_nil]; rfl
  | a :: l, h => by
    obtain ⟨h1, h2, h3, h4, h5⟩ := sw_all (l := l) fun b hb => h b (List.mem_cons_of_mem _ hb)
    have s := At.sw (h a List.mem_cons_self)
    refine ⟨?_, ?_, ?_, ?_, ?_⟩
    · show (a.d.showable && PyData.showableAll (l.map At.d)) = true
      rw [s.sh, h1]; rfl
    · show (a.d.hasDict || PyData.hasDictAll (l.map At.d)) = false
      rw [s.nd, h2]; rfl
    · show max a.d.depth (PyData.depthAll (l.map At.d)) ≤ 0
      have := s.dp
      omega
    · show ((PyData.shownAll (a.d :: l.map At.d)).map (·.length)).sum ≤ _
      rw [PyData.shownAll_cons, List.map_cons, List.sum_cons, List.length_cons]
      have := s.ln
      omega
    · show (PyData.shownAll (a.d :: l.map At.d)).length = _
      rw [PyData.shownAll_cons, List.length_cons, h5]; rfl
theorem Pap.sw {p : Pap} (h : p.ok) : Sw p.d 1 1000 := by
  cases p with
  | tup l =>
    obtain ⟨h1, h2, h3, h4, h5⟩ := sw_all h.1
    have := h.2.1
    refine ⟨h1, h2, ?_, ?_⟩
    · show PyData.depthAll (l.map At.d) + 1 ≤ 1
      omega
    · have e := tupleText_len_le (PyData.shownAll (l.map At.d))
      have e2 : (PyData.tuple (l.map At.d)).shown = tupleText (PyData.shownAll (l.map At.d)) := by simp only [PyData.shown]
      show (PyData.tuple (l.map At.d)).shown.length ≤ 1000
      rw [e2]
      omega
  | lst l =>
    obtain ⟨h1, h2, h3, h4, h5⟩ := sw_all h.1
    have := h.2
    refine ⟨h1, h2, ?_, ?_⟩
    · show PyData.depthAll (l.map At.d) + 1 ≤ 1
      omega
    · have e := listText_len_le (PyData.shownAll (l.map At.d))
      have e2 : (PyData.list (l.map At.d)).shown = listText (PyData.shownAll (l.map At.d)) := by simp only [PyData.shown]
      show (PyData.list (l.map At.d)).shown.length ≤ 1000
      rw [e2]
      omega
  | one a =>
    have ha : a.ok := by
      rcases h with rfl | ⟨x, rfl, hx⟩
      · trivial
      · exact hx
    have s := At.sw ha
    exact ⟨s.sh, s.nd, Nat.le_trans s.dp (by decide), Nat.le_trans s.ln (by decide)⟩
theorem Pap.pd {p : Pap} (h : p.ok) : TL.pd p.t = some p.d := by
  cases p with
  | tup l => exact pd_tup (pd_ats h.1)
  | lst l => exact pd_lstL (pd_ats h.1)
  | one a =>
    have ha : a.ok := by
      rcases h with rfl | ⟨x, rfl, hx⟩
      · trivial
      · exact hx
    exact (At.sh ha).e
section
variable {X : Cx}
theorem call_repr_none : CallR X (.builtin "repr") (fun xs H Q => xs = [.non] ∧ Q (.str "None") H) := by
  intro pins s σ H xs us Q I r h
  obtain ⟨rfl, q⟩ := h
  obtain ⟨u, rfl, ru⟩ := vals1 r
  cases ru
  exact PySem.P.repr_of_none ⟨.str _, H, I.tok _, ⟨_, rfl⟩, q⟩
theorem call_repr_str : CallR X (.builtin "repr") (fun xs H Q => ∃ a, xs = [.str a] ∧ (reprText a).length ≤ sizeLine ∧ Q (.str (reprText a)) H) := by
  intro pins s σ H xs us Q I r h
  obtain ⟨a, rfl, hz, q⟩ := h
  obtain ⟨u, rfl, t, rfl⟩ := vals1 r
  exact PySem.P.repr_of_str ⟨.str _, H, I.tok _, ⟨_, rfl⟩, q⟩ hz
end
section
variable {CX : CXT} {P : Program} {w : World} {K : PySem.W.Frag} {mg : Str → Option Value} {base : Heap} {k : Nat} {N : List Str} {sc : Scope} {fs : Str → Bool} {X : Cx}
variable {e a b : Expr} {ρ : TEnv} {L L1 Lb : Store} {pos p : Pos} {i : Int}
theorem ev_reprP {pp : Pap} (ct : Ct CX P w K mg base k N sc fs X) (hm : mg "repr" = none) (hg : glOk sc "repr" = true) (ha : EvA X [e] ρ L [pp.t] L1) (ok : pp.ok)
    (he : starEach [e] X.env = (false, eval e X.env) :: starEach [] X.env := by rfl) (hpl : (backTo pos (starEach [] X.env)).any (·.1) = false := by rfl) : Ev X (.Call (.Name "repr" p) [e] [] pos) ρ L (.v (S pp.d.shown)) L1 := by
  have s := pp.sw ok
  have hz : pp.d.shown.length ≤ sizeLine := Nat.le_trans s.ln (by decide)
  cases pp with
  | tup l => exact ev_repr ct hm hg ha (Pap.pd ok) s.sh s.nd (Nat.le_trans s.dp (by decide)) hz rfl he hpl
  | lst l => exact ev_repr ct hm hg ha (Pap.pd ok) s.sh s.nd (Nat.le_trans s.dp (by decide)) hz rfl he hpl
  | one a =>
    rcases ok with rfl | ⟨x, rfl, hx⟩
    · refine ev_cb ct call_repr_none PyProof.Rows.boot_repr hm hg ha (fun W H xs Q s r0 q => ?_) he hpl
      obtain ⟨x, rfl, r⟩ := rp1 r0
      cases r
      refine ⟨rfl, ?_⟩
      have e : (PyData.none).shown = ("None" : Str) := PyData.shown_none
      rw [← e]
      exact q _ W H .refl s (Rp.v _)
    · refine ev_cb ct call_repr_str PyProof.Rows.boot_repr hm hg ha (fun W H xs Q s r0 q => ?_) he hpl
      obtain ⟨y, rfl, r⟩ := rp1 r0
      cases r
      refine ⟨x, rfl, ?_, ?_⟩
      · rw [← PyData.shown_str]; exact hz
      · rw [← PyData.shown_str]
        exact q _ W H .refl s (Rp.v _)
theorem ev_strI (ct : Ct CX P w K mg base k N sc fs X) (hm : mg "str" = none) (ha : EvA X [e] ρ L [I i] L1) (hz : i.natAbs.log2 < 1920) (hg : glOk sc "str" = true := by decide +kernel)
    (he : starEach [e] X.env = (false, eval e X.env) :: starEach [] X.env := by first | with_reducible exact se1 | with_reducible exact se2 | with_reducible exact se3 | with_reducible exact se4 | with_reducible exact se5 | with_reducible exact se6 | with_reducible exact se7 | with_reducible exact se8 | with_reducible exact se9 | rfl) (hpl : (backTo pos (starEach [] X.env)).any (·.1) = false := by rfl) : Ev X (.Call (.Name "str" p) [e] [] pos) ρ L (.v (S (toString i))) L1 :=
  ev_cty ct call_str_int PySem.Pv.boot_str hm hg ha (fun W H xs Q s r0 q => by
    obtain ⟨x, rfl, r⟩ := rp1 r0
    cases r
    exact ⟨i, rfl, hz, q _ W H .refl s (Rp.v _)⟩) he hpl
theorem ev_eqS {x y : Str} (ha : Ev X a ρ L (.v (S x)) L1) (hb : Ev X b ρ L1 (.v (S y)) Lb) : Ev X (.Compare a [.Eq] [b] pos) ρ L (.v (B (decide (x = y)))) Lb := ev_cmp op_eq ha hb (fun W H u v Q s r1 r2 q => by
  cases r1; cases r2
  have : decide (x = y) = decide (V.str x = V.str y) := by
    by_cases e : x = y
    · subst e; simp
    · rw [decide_eq_false e, decide_eq_false (fun z => e (V.str.inj z))]
  exact ⟨rfl, by rw [← this]; exact q _ W H .refl s (.v _)⟩) (nomark _)
end
end TL


/-! What is shown by a paper. -/
namespace TL
open PySem PySem.Spec PyProof.Rows L2
noncomputable def papB (st : List Lane) (w : Str) (a b : At) : Bool :=
  match a, b with
  | .aI x, .aI y => if w = wN then decide (homeP st = (wN, x, y)) else if w = wV then ((decide (0 ≤ x) && decide (x < (st.length : Int))) && (decide (0 ≤ y) && decide (y < (st.length : Int)))) && (!decide (x = y) && tornB st x.toNat y.toNat) else false
  | _, _ => false
theorem papB_int {st : List Lane} {w : Str} {x y : Int} : papB st w (.aI x) (.aI y) = if w = wN then decide (homeP st = (wN, x, y)) else if w = wV then ((decide (0 ≤ x) && decide (x < (st.length : Int))) && (decide (0 ≤ y) && decide (y < (st.length : Int)))) && (!decide (x = y) && tornB st x.toNat y.toNat) else false := rfl
noncomputable def papZ (st : List Lane) : Pap → Bool
  | .tup [.aS w, a, b] => papB st w a b
  | _ => false
def R_shows_paper (C : Addr) : Rel := fun ts L r L' => ∃ (t : Tw) (pp : Pap), ts = [tTw C t, pp.t] ∧ StOk t.st ∧ pp.ok ∧ r = .v (B (papZ t.st pp)) ∧ L' = L
def R_due_paper : Rel := fun ts L r L' => ∃ (t : Tw) (pp : Pap), ts = [tParts t, pp.t] ∧ StOk t.st ∧ pp.ok ∧ r = .v (B (papZ t.st pp)) ∧ L' = L
theorem papZ_len {st : List Lane} {l : List At} (h : l.length ≠ 3) : papZ st (.tup l) = false := by
  match l, h with
  | [], _ => rfl
  | [a], _ => cases a <;> rfl
  | [a, _], _ => cases a <;> rfl
  | [_, _, _], h => exact absurd rfl h
  | a :: _ :: _ :: _ :: _, _ => cases a <;> rfl
/-- which texts of three are the same -/
theorem nc_word {w : Str} (h : w = wN ∨ w = wV ∨ w = wH) : NoCm (.str w) := by
  unfold NoCm
  rcases h with rfl | rfl | rfl <;> decide +kernel
def At.int : At → Bool
  | .aI _ => true
  | _ => false
theorem nc_at {a : At} (h : ∀ x, a ≠ .aS x) : NoCm a.d := by
  cases a with
  | aI n => exact nc_int n
  | aB z => exact nc_bool z
  | aN => exact nc_none
  | aS x => exact absurd rfl (h x)
theorem at_int {a : At} {i : Int} (h : ∀ x, a ≠ .aS x) (e : a.d.shown.cps.toList = (PyData.int i).shown.cps.toList) : a = .aI i := by
  cases a with
  | aI n => rw [shown_int_inj e]
  | aB z => exact absurd e shown_bool_int
  | aN => exact absurd e shown_none_int
  | aS x => exact absurd rfl (h x)
theorem homes60_none {st : List Lane} (ok : StOk st) (h : tornF st = none) : ∃ ds, (rangeT 0 60).filter (homeB st) = firstD st :: ds := by
  have hF := tornF_ok st
  rw [h] at hF
  obtain ⟨d, ds, hd⟩ := homes_some ok hF
  have hl := lcmL_le ok
  have e : rangeT 0 60 = rangeT 0 (lcmL st) ++ (rangeT 0 60).drop (lcmL st) := by
    conv => lhs; rw [← List.take_append_drop (lcmL st) (rangeT 0 60)]
    congr 1
    unfold rangeT
    rw [← List.map_take, List.take_range, Nat.min_eq_left hl]
  refine ⟨ds ++ ((rangeT 0 60).drop (lcmL st)).filter (homeB st), ?_⟩
  rw [e, List.filter_append]
  have : (rangeT 0 (lcmL st)).filter (homeB st) = d :: ds := hd
  rw [this]
  unfold firstD
  rw [hd]; rw [← e]; rfl
theorem homes60_some {st : List Lane} (ok : StOk st) {p : Nat × Nat} (h : tornF st = some p) : (rangeT 0 60).filter (homeB st) = [] := by
  rw [List.filter_eq_nil_iff]
  intro d _ hd
  have := (torn_none_iff ok).mpr ⟨d, hd⟩
  rw [h] at this; cases this
theorem torn_both {st : List Lane} (ok : StOk st) {i j : Nat} (hi : i < st.length) (hj : j < st.length) : tornB st i j = bothB st[i] st[j] := by
  unfold tornB
  rw [List.getD_eq_getElem?_getD, List.getD_eq_getElem?_getD, List.getElem?_eq_getElem hi, List.getElem?_eq_getElem hj]
  have a := ok.2 _ (List.getElem_mem hi)
  have b := ok.2 _ (List.getElem_mem hj)
  exact two_ok a.1 a.2 b.1 b.2
noncomputable def homePap (st : List Lane) : Pap := .tup [.aS (homeP st).1, .aI (homeP st).2.1, .aI (homeP st).2.2]
theorem homeT_pap (st : List Lane) : homeT st = (homePap st).t := rfl
theorem word_ok {w : Str} (h : w = wN ∨ w = wV ∨ w = wH) : (At.aS w).ok := by
  rcases h with rfl | rfl | rfl <;> exact ⟨by decide +kernel, by decide +kernel⟩
theorem home_nums {st : List Lane} (ok : StOk st) : ((homeP st).1 = wV ∨ (homeP st).1 = wN) ∧ 0 ≤ (homeP st).2.1 ∧ (homeP st).2.1 ≤ 60 ∧ 0 ≤ (homeP st).2.2 ∧ (homeP st).2.2 ≤ 60 := by
  have h12 := ok.1
  cases ho : tornF st with
  | some p =>
    obtain ⟨i, j⟩ := p
    have hF := tornF_ok st
    rw [ho] at hF
    rw [homeP_some ho]
    have h1 := hF.1
    have h2 := hF.2.1
    refine ⟨.inl rfl, ?_, ?_, ?_, ?_⟩ <;> show _ ≤ _ <;> simp only <;> omega
  | none =>
    have hf := firstD_ok ok ho
    have hl := lcmL_le ok
    rw [homeP_none ho]
    refine ⟨.inr rfl, hf.2.1, ?_, ?_, ?_⟩
    · have := hf.2.2; show firstD st ≤ 60; omega
    · show (0 : Int) ≤ (lcmL st : Int); omega
    · show (lcmL st : Int) ≤ 60; omega
theorem home_papok {st : List Lane} (ok : StOk st) : (homePap st).ok := by
  obtain ⟨h1, h2, h3, h4, h5⟩ := home_nums ok
  have hw : (homeP st).1 = wN ∨ (homeP st).1 = wV ∨ (homeP st).1 = wH := h1.elim (fun h => .inr (.inl h)) .inl
  refine ⟨fun a ha => ?_, by show 3 ≤ 4; decide, fun _ => ⟨_, _, _, rfl, hw, fun _ => ⟨fun _ => At.noConfusion, fun _ => At.noConfusion⟩⟩⟩
  rcases List.mem_cons.mp ha with rfl | ha
  · exact word_ok hw
  rcases List.mem_cons.mp ha with rfl | ha
  · exact ⟨by omega, by omega⟩
  · rw [List.mem_singleton.mp ha]; exact ⟨by omega, by omega⟩
theorem words_apart : (PyData.str wN).shown.cps.toList ≠ (PyData.str wV).shown.cps.toList := by decide +kernel
theorem paper_nights {st : List Lane} (ok : StOk st) {a b : At} (ha : ∀ x, a ≠ .aS x) (hb : ∀ x, b ≠ .aS x) : decide ((Pap.tup [.aS wN, a, b]).d.shown = (homePap st).d.shown) = papB st wN a b := by
  obtain ⟨h1, -⟩ := home_nums ok
  have key : (Pap.tup [.aS wN, a, b]).d.shown = (homePap st).d.shown → homeP st = (wN, (homeP st).2.1, (homeP st).2.2) ∧ a = .aI (homeP st).2.1 ∧ b = .aI (homeP st).2.2 := fun h => by
    have h' : (PyData.tuple [.str wN, a.d, b.d]).shown = (PyData.tuple [.str (homeP st).1, .int (homeP st).2.1, .int (homeP st).2.2]).shown := h
    obtain ⟨e1, e2, e3⟩ := shown_tup3 (nc_word (.inl rfl)) (nc_at ha) (nc_word (h1.elim (fun h => .inr (.inl h)) .inl)) (nc_int _) h'
    have e4 : (homeP st).1 = wN := by
      rcases h1 with h1 | h1
      · rw [h1] at e1; exact absurd e1 words_apart
      · exact h1
    exact ⟨by rw [← e4], at_int ha e2, at_int hb e3⟩
  by_cases h : (Pap.tup [.aS wN, a, b]).d.shown = (homePap st).d.shown
  · rw [decide_eq_true h]
    obtain ⟨k1, rfl, rfl⟩ := key h
    rw [papB_int, if_pos rfl, decide_eq_true k1]
  · rw [decide_eq_false h]
    cases a with
    | aI x =>
      cases b with
      | aI y =>
        rw [papB_int, if_pos rfl]
        refine (decide_eq_false fun e => h ?_).symm
        unfold homePap
        rw [e]
      | aB _ => rfl
      | aN => rfl
      | aS _ => rfl
    | aB _ => rfl
    | aN => rfl
    | aS _ => rfl
theorem at_whole {a : At} {lo hi : Int} (h : wholeT a.t lo hi = true) : ∃ x, a = .aI x ∧ lo ≤ x ∧ x ≤ hi := by
  cases a with
  | aI x =>
    have h' : (decide (lo ≤ x) && decide (x ≤ hi)) = true := h
    rw [Bool.and_eq_true] at h'
    exact ⟨x, rfl, of_decide_eq_true h'.1, of_decide_eq_true h'.2⟩
  | aB _ => cases h
  | aN => cases h
  | aS _ => cases h
theorem whole_at {x lo hi : Int} : wholeT (At.aI x).t lo hi = (decide (lo ≤ x) && decide (x ≤ hi)) := rfl
theorem papB_never_no {st : List Lane} {a b : At} (h : (wholeT a.t 0 ((st.length : Int) - 1) && wholeT b.t 0 ((st.length : Int) - 1)) = false) : papB st wV a b = false := by
  cases a with
  | aI x =>
    cases b with
    | aI y =>
      rw [whole_at, whole_at] at h
      rw [papB_int, if_neg (by decide +kernel), if_pos rfl]
      have e : ∀ z : Int, decide (z ≤ (st.length : Int) - 1) = decide (z < (st.length : Int)) := fun z => by
        by_cases hz : z < (st.length : Int)
        · rw [decide_eq_true hz, decide_eq_true (show z ≤ (st.length : Int) - 1 by omega)]
        · rw [decide_eq_false hz, decide_eq_false (show ¬ z ≤ (st.length : Int) - 1 by omega)]
      rw [e, e] at h
      rw [h]; rfl
    | aB _ => rfl
    | aN => rfl
    | aS _ => rfl
  | aB _ => rfl
  | aN => rfl
  | aS _ => rfl
theorem papB_never_yes {st : List Lane} {x y : Int} (h1 : 0 ≤ x) (h2 : x ≤ (st.length : Int) - 1) (h3 : 0 ≤ y) (h4 : y ≤ (st.length : Int) - 1) : papB st wV (.aI x) (.aI y) = (!decide (x = y) && tornB st x.toNat y.toNat) := by
  rw [papB_int, if_neg (by decide +kernel), if_pos rfl, decide_eq_true h1, decide_eq_true h3, decide_eq_true (show x < (st.length : Int) by omega), decide_eq_true (show y < (st.length : Int) by omega)]
  rfl
theorem papB_home {st : List Lane} {a b : At} : papB st wH a b = false := by
  cases a with
  | aI x =>
    cases b with
    | aI y =>
      rw [papB_int, if_neg (by decide +kernel), if_neg (by decide +kernel)]
    | aB _ => rfl
    | aN => rfl
    | aS _ => rfl
  | aB _ => rfl
  | aN => rfl
  | aS _ => rfl
theorem papB_notint {st : List Lane} {w : Str} {a b : At} (h : (a.int && b.int) = false) : papB st w a b = false := by
  cases a with
  | aI x =>
    cases b with
    | aI y => cases h
    | aB _ => rfl
    | aN => rfl
    | aS _ => rfl
  | aB _ => rfl
  | aN => rfl
  | aS _ => rfl
theorem at_test (a : At) : (!isA "int" a.t || isA "bool" a.t) = !a.int := by
  have h := isA_any a.ty
  cases a with
  | aI x =>
    have : (isA "int" (At.aI x).t && !isA "bool" (At.aI x).t) = true := h
    rw [Bool.and_eq_true] at this
    rw [this.1, show isA "bool" (At.aI x).t = false by have := this.2; simpa using this]; rfl
  | aB z => rw [show isA "bool" (At.aB z).t = true from isA_of (t := .v (.bl z)) (m := "bool") rfl (by decide +kernel), Bool.or_true]; rfl
  | aN => rw [show isA "int" At.aN.t = false from isA_of (t := .v .non) (m := "NoneType") rfl (by decide +kernel)]; rfl
  | aS x => rw [show isA "int" (At.aS x).t = false from isA_of (t := .v (.str x)) (m := "str") rfl (by decide +kernel)]; rfl
theorem ats_sh : ∀ {l : List At}, (∀ a ∈ l, a.ok) → ShL (l.map At.t) (l.map At.d) 0
  | [], _ => shl_nil
  | a :: l, h => shl_cons (At.sh (h a List.mem_cons_self)) (ats_sh fun b hb => h b (List.mem_cons_of_mem _ hb))
theorem ats_empty {l : List At} (h : ∀ a ∈ l, a.ok) : eqT (.lst (l.map At.t)) (.lst []) = l.isEmpty := by
  rw [(sh_lst (ats_sh h)).eqT (sh_lst (k := 0) shl_nil)]
  cases l <;> simp [PyData.eqv, PyData.eqvAll]
section
variable {CX : CXT} {P : Program} {w : World} {K : PySem.W.Frag} {mg : Str → Option Value} {base : Heap} {k : Nat} {N : List Str} {sc : Scope} {fs : Str → Bool} {X : Cx}
variable {a b : Expr} {ρ : TEnv} {L L1 Lb : Store} {t u : T} {ts : List T} {pos : Pos}
theorem ot_notInTD (h1 : shp t = true) (h2 : shp (.tup ts) = true) : OpT K (rInTD K true) t (.tup ts) L (.v (B (!inT t (.tup ts)))) := fun W H x y Q s r1 r2 q => by
  obtain ⟨d, e1, s1⟩ := shp_of h1
  obtain ⟨e, e2, s2⟩ := shp_of h2
  have ⟨ds, e4, e3⟩ : ∃ ds, e = .tuple ds ∧ pdL ts = some ds := by
    unfold pd at e2
    cases q : pdL ts with
    | none => rw [q] at e2; cases e2
    | some ds => rw [q] at e2; cases e2; exact ⟨ds, rfl, rfl⟩
  subst e4
  refine ⟨d, ds, dp_of t x d r1 e1, dp_of _ y _ r2 e2, s1, s2, ?_⟩
  rw [if_pos rfl, any_pd e3 e1]
  exact q _ W H .refl s (.v _)
theorem eb_ninTt (ct : Ct CX P w K mg base k N sc fs X) (ha : Ev X a ρ L (.v t) L1) (hb : Ev X b ρ L1 (.v (.tup ts)) Lb) (h1 : shp t = true) (h2 : shp (.tup ts) = true) (hm : behindInMarks .NotIn b = false := by rfl) : EvB X (.Compare a [.NotIn] [b] pos) ρ L (!inT t (.tup ts)) Lb := eb_cmp (op_notInTD ct.u65) ha hb (ot_notInTD h1 h2) hm
end
end TL
namespace TL
open PySem PySem.Spec PyProof.Rows L2
def p3 (w : Str) (a b : At) : Pap := .tup [.aS w, a, b]
def papersP (hm : Pap) (w : Str) (o z i j k c : Int) : List Pap :=
  ((((([hm, .lst [.aS w, .aI o, .aI z], .tup [.aS w, .aI o, .aI z, .aI 0], .tup [.aS w, .aI o], p3 w (.aI z) (.aI o), p3 wV (.aI i) (.aI j), p3 wV (.aI j) (.aI i)]
  ++ [p3 wV (.aI i) (.aI i), p3 wV (.aI 0) (.aI 1), p3 wV (.aI 1) (.aI 0), p3 wV (.aI (-1)) (.aI 0), p3 wV (.aB false) (.aB true)])
  ++ [p3 wN (.aI o) (.aI (z + 1)), p3 wN (.aI (o + z)) (.aI z), p3 wN (.aI 0) (.aI 1)])
  ++ [p3 wN (.aB false) (.aB true), .tup [.aS wN, .aI o], p3 wN .aN (.aI z), p3 wN (.aI o) (.aI (2 * z))])
  ++ [.tup [], .one .aN, .one (.aS wV), p3 wH (.aI o) (.aI z), p3 wV (.aS (toString i : String)) (.aI j), .lst [.aS wV, .aI 0, .aI 1], .tup [.aS wV, .aI i]])
  ++ [p3 wN (.aI k) (.aI c)])
noncomputable def papersF (st : List Lane) (v : W3) : List Pap :=
  papersP (homePap st) (homeP st).1 (homeP st).2.1 (homeP st).2.2 (drV v ((st.length : Int) + 1)) (drV (drW v ((st.length : Int) + 1)) ((st.length : Int) + 1)) (drV (drW (drW v ((st.length : Int) + 1)) ((st.length : Int) + 1)) 60) (lcmL st : Int)
def R_law_papers : Rel := fun ts L r L' => ∃ (n : Nat) (v : W3) (b : Nat) (q : Tw), ts = [.cel n, tParts q, homeT q.st] ∧ L n = some (tW v) ∧ v.Ok b ∧ b ≤ 200 ∧ StOk q.st ∧ r = .n (.lst ((papersF q.st v).map Pap.t)) ∧ L' = updS L n (some (tW (drW (drW (drW v (q.st.length + 1)) (q.st.length + 1)) 60)))
theorem ok3 {w : Str} {a b : At} (hw : w = wN ∨ w = wV ∨ w = wH) (ha : a.ok) (hb : b.ok) (h : w = wN → (∀ x, a ≠ .aS x) ∧ ∀ x, b ≠ .aS x) : (p3 w a b).ok := by
  refine ⟨fun x hx => ?_, by show 3 ≤ 4; decide, fun _ => ⟨w, a, b, rfl, hw, h⟩⟩
  rcases List.mem_cons.mp hx with rfl | hx
  · exact word_ok hw
  rcases List.mem_cons.mp hx with rfl | hx
  · exact ha
  · rw [List.mem_singleton.mp hx]; exact hb
theorem oki {x : Int} (h1 : -200 ≤ x) (h2 : x ≤ 200) : (At.aI x).ok := ⟨h1, h2⟩
theorem okn {w : Str} {a b : Int} : w = wN → (∀ x, At.aI a ≠ .aS x) ∧ ∀ x, At.aI b ≠ .aS x := fun _ => ⟨fun _ => At.noConfusion, fun _ => At.noConfusion⟩
theorem text_ok : ∀ n ∈ List.range 14, (PyData.str ((toString (n : Int) : String) : Str)).canLay0 = true ∧ (PyData.str ((toString (n : Int) : String) : Str)).shown.length ≤ 100 := by decide +kernel
theorem papers_ok {st : List Lane} {v : W3} {b : Nat} (ok : StOk st) (hv : v.Ok b) : ∀ p ∈ papersF st v, p.ok := by
  obtain ⟨h0, h1, h2, h3, h4⟩ := home_nums ok
  have h12 := ok.1
  have hw : (homeP st).1 = wN ∨ (homeP st).1 = wV ∨ (homeP st).1 = wH := h0.elim (fun h => .inr (.inl h)) .inl
  have hi := drV_ge (w := v) (s := (st.length : Int) + 1) (by omega)
  have hi2 := drV_lt (w := v) (s := (st.length : Int) + 1) (by omega)
  have hj := drV_ge (w := drW v ((st.length : Int) + 1)) (s := (st.length : Int) + 1) (by omega)
  have hj2 := drV_lt (w := drW v ((st.length : Int) + 1)) (s := (st.length : Int) + 1) (by omega)
  have hk := drV_ge (w := drW (drW v ((st.length : Int) + 1)) ((st.length : Int) + 1)) (s := 60) (by omega)
  have hk2 := drV_lt (w := drW (drW v ((st.length : Int) + 1)) ((st.length : Int) + 1)) (s := 60) (by omega)
  have hl := lcmL_le ok
  have hp := lcmL_pos ok
  have hh := home_papok ok
  have ht := text_ok (drV v ((st.length : Int) + 1)).toNat (List.mem_range.mpr (by omega))
  rw [show (((drV v ((st.length : Int) + 1)).toNat : Nat) : Int) = drV v ((st.length : Int) + 1) by omega] at ht
  have nb : ∀ z : Bool, ∀ x, At.aB z ≠ .aS x := fun _ _ => At.noConfusion
  have ni : ∀ z : Int, ∀ x, At.aI z ≠ .aS x := fun _ _ => At.noConfusion
  have nn : ∀ x, At.aN ≠ .aS x := fun _ => At.noConfusion
  unfold papersF
  generalize drV (drW (drW v ((st.length : Int) + 1)) ((st.length : Int) + 1)) 60 = k at *
  generalize drV (drW v ((st.length : Int) + 1)) ((st.length : Int) + 1) = j at *
  generalize drV v ((st.length : Int) + 1) = i at *
  generalize (homeP st).1 = w at *
  generalize (homeP st).2.1 = o at *
  generalize (homeP st).2.2 = z at *
  have ho : (At.aI o).ok := oki (by omega) (by omega)
  have hz : (At.aI z).ok := oki (by omega) (by omega)
  have hii : (At.aI i).ok := oki (by omega) (by omega)
  have hjj : (At.aI j).ok := oki (by omega) (by omega)
  have c0 : (At.aI 0).ok := oki (by decide) (by decide)
  have c1 : (At.aI 1).ok := oki (by decide) (by decide)
  have e : ∀ {p : Pap → Prop} {a : Pap} {l : List Pap}, p a → (∀ x ∈ l, p x) → ∀ x ∈ a :: l, p x := fun h1 h2 => List.forall_mem_cons.mpr ⟨h1, h2⟩
  have hwo := word_ok hw
  have all4 : ∀ l : List At, (∀ a ∈ l, a.ok) → l.length ≤ 4 → l.length ≠ 3 → (Pap.tup l).ok := fun l h1 h2 h3 => ⟨h1, h2, fun h => absurd h h3⟩
  have f : ∀ {a : At} {l : List At}, a.ok → (∀ x ∈ l, x.ok) → ∀ x ∈ a :: l, x.ok := fun h1 h2 => List.forall_mem_cons.mpr ⟨h1, h2⟩
  have f0 : ∀ x ∈ ([] : List At), x.ok := fun x h => by cases h
  have e0 : ∀ x ∈ ([] : List Pap), x.ok := fun x h => by cases h
  show ∀ p ∈ [homePap st, .lst [.aS w, .aI o, .aI z], .tup [.aS w, .aI o, .aI z, .aI 0], .tup [.aS w, .aI o], p3 w (.aI z) (.aI o), p3 wV (.aI i) (.aI j), p3 wV (.aI j) (.aI i), p3 wV (.aI i) (.aI i), p3 wV (.aI 0) (.aI 1), p3 wV (.aI 1) (.aI 0), p3 wV (.aI (-1)) (.aI 0), p3 wV (.aB false) (.aB true), p3 wN (.aI o) (.aI (z + 1)), p3 wN (.aI (o + z)) (.aI z), p3 wN (.aI 0) (.aI 1),
    p3 wN (.aB false) (.aB true), .tup [.aS wN, .aI o], p3 wN .aN (.aI z), p3 wN (.aI o) (.aI (2 * z)), .tup [], .one .aN, .one (.aS wV), p3 wH (.aI o) (.aI z), p3 wV (.aS (toString i : String)) (.aI j), .lst [.aS wV, .aI 0, .aI 1], .tup [.aS wV, .aI i], p3 wN (.aI k) (.aI (lcmL st : Int))], p.ok
  have hV : wV = wN ∨ wV = wV ∨ wV = wH := .inr (.inl rfl)
  have hN : wN = wN ∨ wN = wV ∨ wN = wH := .inl rfl
  have hH : wH = wN ∨ wH = wV ∨ wH = wH := .inr (.inr rfl)
  have vN : wV = wN → False := by decide +kernel
  refine e hh (e ⟨f hwo (f ho (f hz f0)), by show 3 ≤ 4; decide⟩ (e (all4 _ (f hwo (f ho (f hz (f c0 f0)))) (by show 4 ≤ 4; decide) (by show ¬ 4 = 3; decide)) (e (all4 _ (f hwo (f ho f0)) (by show 2 ≤ 4; decide) (by show ¬ 2 = 3; decide)) (e (ok3 hw hz ho okn) (e (ok3 hV hii hjj okn) (e (ok3 hV hjj hii okn) ?_))))))
  refine e (ok3 hV hii hii okn) (e (ok3 hV c0 c1 okn) (e (ok3 hV c1 c0 okn) (e (ok3 hV (oki (by decide) (by decide)) c0 okn) (e (ok3 hV trivial trivial fun h => absurd h vN) ?_))))
  refine e (ok3 hN ho (oki (by omega) (by omega)) okn) (e (ok3 hN (oki (by omega) (by omega)) hz okn) (e (ok3 hN c0 c1 okn) ?_))
  refine e (ok3 hN trivial trivial fun _ => ⟨nb _, nb _⟩) (e (all4 _ (f (word_ok hN) (f ho f0)) (by show 2 ≤ 4; decide) (by show ¬ 2 = 3; decide)) (e (ok3 hN trivial hz fun _ => ⟨nn, ni _⟩) (e (ok3 hN ho (oki (by omega) (by omega)) okn) ?_)))
  refine e (all4 _ f0 (by show 0 ≤ 4; decide) (by show ¬ 0 = 3; decide)) (e (.inl rfl) (e (.inr ⟨wV, rfl, word_ok hV⟩) (e (ok3 hH ho hz okn) (e (ok3 hV ht hjj fun h => absurd h vN) (e ⟨f (word_ok hV) (f c0 (f c1 f0)), by show 3 ≤ 4; decide⟩ (e (all4 _ (f (word_ok hV) (f hii f0)) (by show 2 ≤ 4; decide) (by show ¬ 2 = 3; decide)) ?_))))))
  exact e (ok3 hN (oki (by omega) (by omega)) (oki (by omega) (by omega)) okn) e0
theorem papZ_home {st : List Lane} (ok : StOk st) : papZ st (homePap st) = true := by
  show papB st (homeP st).1 (.aI (homeP st).2.1) (.aI (homeP st).2.2) = true
  cases ho : tornF st with
  | some p =>
    obtain ⟨i, j⟩ := p
    have hF := tornF_ok st
    rw [ho] at hF
    have h1 := hF.1
    have h2 := hF.2.1
    rw [homeP_some ho]
    show papB st wV (.aI (i : Int)) (.aI (j : Int)) = true
    rw [papB_never_yes (by omega) (by omega) (by omega) (by omega), decide_eq_false (show ¬ (i : Int) = j by omega)]
    exact hF.2.2.1
  | none =>
    rw [homeP_none ho]
    show papB st wN (.aI (firstD st)) (.aI (lcmL st : Int)) = true
    rw [papB_int, if_pos rfl, homeP_none ho]
    exact decide_eq_true rfl
end TL

namespace Law
open PySem PySem.Spec PyProof.Rows L2 TL
def topS (i : Nat) : Stmt := PySem.Challenge.pw_nightturn_k13_papers_of_home_nights.main.body.getD i (.Pass ⟨0, 0, 0, 0⟩)
def inC (i j : Nat) : Stmt := match topS i with
  | .ClassDef (body := b) .. => b.getD j (.Pass ⟨0, 0, 0, 0⟩)
  | _ => .Pass ⟨0, 0, 0, 0⟩
abbrev s_is_any : Stmt := topS 9
theorem sc_is_any : FnScope ["thing"] ["thing"] (defScope s_is_any) := ⟨rfl, rfl, rfl, by decide +kernel, rfl, by decide +kernel, by decide +kernel⟩
theorem b0_is_any : Bd0 "is_any" s_is_any ["thing"] := fun _ _ _ _ _ _ us h => match us, h with | [_], _ => rfl
abbrev s_is_whole : Stmt := topS 10
theorem sc_is_whole : FnScope ["thing", "least", "most"] ["thing", "least", "most"] (defScope s_is_whole) := ⟨rfl, rfl, rfl, by decide +kernel, rfl, by decide +kernel, by decide +kernel⟩
theorem bk_is_whole : BdK "is_whole" s_is_whole ["thing", "least", "most"] 1 ["least", "most"] := fun _ _ _ _ _ _ us ws h1 h2 => match us, ws, h1, h2 with | [_], [_, _], _, _ => rfl
abbrev s_is_street : Stmt := topS 11
theorem sc_is_street : FnScope ["thing", "places", "here", "there", "rhythm", "night"] ["thing", "places"] (defScope s_is_street) := ⟨rfl, rfl, rfl, by decide +kernel, rfl, by decide +kernel, by decide +kernel⟩
theorem b0_is_street : Bd0 "is_street" s_is_street ["thing", "places"] := fun _ _ _ _ _ _ us h => match us, h with | [_, _], _ => rfl
abbrev s_is_pair : Stmt := topS 12
theorem sc_is_pair : FnScope ["thing", "places", "one"] ["thing", "places"] (defScope s_is_pair) := ⟨rfl, rfl, rfl, by decide +kernel, rfl, by decide +kernel, by decide +kernel⟩
theorem b0_is_pair : Bd0 "is_pair" s_is_pair ["thing", "places"] := fun _ _ _ _ _ _ us h => match us, h with | [_, _], _ => rfl
abbrev s_check_streets : Stmt := topS 13
theorem sc_check_streets : FnScope ["streets", "places", "at", "street"] ["streets", "places"] (defScope s_check_streets) := ⟨rfl, rfl, rfl, by decide +kernel, rfl, by decide +kernel, by decide +kernel⟩
theorem b0_check_streets : Bd0 "check_streets" s_check_streets ["streets", "places"] := fun _ _ _ _ _ _ us h => match us, h with | [_, _], _ => rfl
abbrev s_check_broad : Stmt := topS 14
theorem sc_check_broad : FnScope ["broad", "places", "at", "pair"] ["broad", "places"] (defScope s_check_broad) := ⟨rfl, rfl, rfl, by decide +kernel, rfl, by decide +kernel, by decide +kernel⟩
theorem b0_check_broad : Bd0 "check_broad" s_check_broad ["broad", "places"] := fun _ _ _ _ _ _ us h => match us, h with | [_, _], _ => rfl
abbrev s_check_inns : Stmt := topS 15
theorem sc_check_inns : FnScope ["inns", "places", "at", "place"] ["inns", "places"] (defScope s_check_inns) := ⟨rfl, rfl, rfl, by decide +kernel, rfl, by decide +kernel, by decide +kernel⟩
theorem b0_check_inns : Bd0 "check_inns" s_check_inns ["inns", "places"] := fun _ _ _ _ _ _ us h => match us, h with | [_, _], _ => rfl
abbrev s_street_of : Stmt := topS 17
theorem sc_street_of : FnScope ["town", "number"] ["town", "number"] (defScope s_street_of) := ⟨rfl, rfl, rfl, by decide +kernel, rfl, by decide +kernel, by decide +kernel⟩
theorem b0_street_of : Bd0 "street_of" s_street_of ["town", "number"] := fun _ _ _ _ _ _ us h => match us, h with | [_, _], _ => rfl
abbrev s_turns_on : Stmt := topS 18
theorem sc_turns_on : FnScope ["town", "number", "day", "rhythm", "night"] ["town", "number", "day"] (defScope s_turns_on) := ⟨rfl, rfl, rfl, by decide +kernel, rfl, by decide +kernel, by decide +kernel⟩
theorem b0_turns_on : Bd0 "turns_on" s_turns_on ["town", "number", "day"] := fun _ _ _ _ _ _ us h => match us, h with | [_, _, _], _ => rfl
abbrev s_common_part : Stmt := topS 20
theorem sc_common_part : FnScope ["one", "other"] ["one", "other"] (defScope s_common_part) := ⟨rfl, rfl, rfl, by decide +kernel, rfl, by decide +kernel, by decide +kernel⟩
theorem b0_common_part : Bd0 "common_part" s_common_part ["one", "other"] := fun _ _ _ _ _ _ us h => match us, h with | [_, _], _ => rfl
abbrev s_least_common : Stmt := topS 21
theorem sc_least_common : FnScope ["town", "found", "street"] ["town"] (defScope s_least_common) := ⟨rfl, rfl, rfl, by decide +kernel, rfl, by decide +kernel, by decide +kernel⟩
theorem b0_least_common : Bd0 "least_common" s_least_common ["town"] := fun _ _ _ _ _ _ us h => match us, h with | [_], _ => rfl
abbrev s_never_both : Stmt := topS 22
theorem sc_never_both : FnScope ["town", "one", "other", "here", "there"] ["town", "one", "other"] (defScope s_never_both) := ⟨rfl, rfl, rfl, by decide +kernel, rfl, by decide +kernel, by decide +kernel⟩
theorem b0_never_both : Bd0 "never_both" s_never_both ["town", "one", "other"] := fun _ _ _ _ _ _ us h => match us, h with | [_, _, _], _ => rfl
abbrev s_torn_pair : Stmt := topS 23
theorem sc_torn_pair : FnScope ["town", "one", "other"] ["town"] (defScope s_torn_pair) := ⟨rfl, rfl, rfl, by decide +kernel, rfl, by decide +kernel, by decide +kernel⟩
theorem b0_torn_pair : Bd0 "torn_pair" s_torn_pair ["town"] := fun _ _ _ _ _ _ us h => match us, h with | [_], _ => rfl
abbrev s_is_home : Stmt := topS 24
theorem sc_is_home : FnScope ["town", "day", "number"] ["town", "day"] (defScope s_is_home) := ⟨rfl, rfl, rfl, by decide +kernel, rfl, by decide +kernel, by decide +kernel⟩
theorem b0_is_home : Bd0 "is_home" s_is_home ["town", "day"] := fun _ _ _ _ _ _ us h => match us, h with | [_, _], _ => rfl
abbrev s_home : Stmt := topS 25
theorem sc_home : FnScope ["town", "pair", "whole", "day"] ["town"] (defScope s_home) := ⟨rfl, rfl, rfl, by decide +kernel, rfl, by decide +kernel, by decide +kernel⟩
theorem b0_home : Bd0 "home" s_home ["town"] := fun _ _ _ _ _ _ us h => match us, h with | [_], _ => rfl
abbrev s_shows_home : Stmt := topS 26
theorem sc_shows_home : FnScope ["town", "paper", "numbers", "one"] ["town", "paper"] (defScope s_shows_home) := ⟨rfl, rfl, rfl, by decide +kernel, rfl, by decide +kernel, by decide +kernel⟩
theorem b0_shows_home : Bd0 "shows_home" s_shows_home ["town", "paper"] := fun _ _ _ _ _ _ us h => match us, h with | [_, _], _ => rfl
abbrev s__law_cell_at : Stmt := topS 28
theorem sc__law_cell_at : FnScope ["_law_script", "_law_k"] ["_law_script", "_law_k"] (defScope s__law_cell_at) := ⟨rfl, rfl, rfl, by decide +kernel, rfl, by decide +kernel, by decide +kernel⟩
theorem b0__law_cell_at : Bd0 "_law_cell_at" s__law_cell_at ["_law_script", "_law_k"] := fun _ _ _ _ _ _ us h => match us, h with | [_, _], _ => rfl
abbrev s__law_well : Stmt := topS 29
theorem sc__law_well : FnScope ["_law_cell"] ["_law_cell"] (defScope s__law_well) := ⟨rfl, rfl, rfl, by decide +kernel, rfl, by decide +kernel, by decide +kernel⟩
theorem b0__law_well : Bd0 "_law_well" s__law_well ["_law_cell"] := fun _ _ _ _ _ _ us h => match us, h with | [_], _ => rfl
abbrev s__law_draw : Stmt := topS 30
theorem sc__law_draw : FnScope ["_law_well_here", "_law_size", "_law_found", "_law_salt", "_law_number"] ["_law_well_here", "_law_size"] (defScope s__law_draw) := ⟨rfl, rfl, rfl, by decide +kernel, rfl, by decide +kernel, by decide +kernel⟩
theorem b0__law_draw : Bd0 "_law_draw" s__law_draw ["_law_well_here", "_law_size"] := fun _ _ _ _ _ _ us h => match us, h with | [_, _], _ => rfl
abbrev s__law_one : Stmt := topS 31
theorem sc__law_one : FnScope ["_law_well_here", "_law_some"] ["_law_well_here", "_law_some"] (defScope s__law_one) := ⟨rfl, rfl, rfl, by decide +kernel, rfl, by decide +kernel, by decide +kernel⟩
theorem b0__law_one : Bd0 "_law_one" s__law_one ["_law_well_here", "_law_some"] := fun _ _ _ _ _ _ us h => match us, h with | [_, _], _ => rfl
abbrev s__law_streets : Stmt := topS 32
theorem sc__law_streets : FnScope ["_law_well_here", "_law_n", "_law_most", "_law_rhythms", "_law_at_once", "_law_found", "_law_base", "_law_k", "_law_here", "_law_there", "_law_rhythm", "_law_far", "_law_night"] ["_law_well_here", "_law_n", "_law_most", "_law_rhythms", "_law_at_once"] (defScope s__law_streets) := ⟨rfl, rfl, rfl, by decide +kernel, rfl, by decide +kernel, by decide +kernel⟩
theorem b0__law_streets : Bd0 "_law_streets" s__law_streets ["_law_well_here", "_law_n", "_law_most", "_law_rhythms", "_law_at_once"] := fun _ _ _ _ _ _ us h => match us, h with | [_, _, _, _, _], _ => rfl
abbrev s__law_parts : Stmt := topS 33
theorem sc__law_parts : FnScope ["_law_well_here", "_law_n", "_law_most", "_law_rhythms", "_law_streets_here", "_law_pairs", "_law_q", "_law_p", "_law_often", "_law_wide", "_law_pair", "_law_beds", "_law_place"] ["_law_well_here", "_law_n", "_law_most", "_law_rhythms"] (defScope s__law_parts) := ⟨rfl, rfl, rfl, by decide +kernel, rfl, by decide +kernel, by decide +kernel⟩
theorem b0__law_parts : Bd0 "_law_parts" s__law_parts ["_law_well_here", "_law_n", "_law_most", "_law_rhythms"] := fun _ _ _ _ _ _ us h => match us, h with | [_, _, _, _], _ => rfl
abbrev s__law_made : Stmt := topS 34
theorem sc__law_made : FnScope ["_law_parts_here"] ["_law_parts_here"] (defScope s__law_made) := ⟨rfl, rfl, rfl, by decide +kernel, rfl, by decide +kernel, by decide +kernel⟩
theorem b0__law_made : Bd0 "_law_made" s__law_made ["_law_parts_here"] := fun _ _ _ _ _ _ us h => match us, h with | [_], _ => rfl
abbrev s__law_whole : Stmt := topS 35
theorem sc__law_whole : FnScope ["_law_parts_here", "_law_d", "_law_one_here"] ["_law_parts_here"] (defScope s__law_whole) := ⟨rfl, rfl, rfl, by decide +kernel, rfl, by decide +kernel, by decide +kernel⟩
theorem b0__law_whole : Bd0 "_law_whole" s__law_whole ["_law_parts_here"] := fun _ _ _ _ _ _ us h => match us, h with | [_], _ => rfl
abbrev s__law_is_home : Stmt := topS 36
theorem sc__law_is_home : FnScope ["_law_parts_here", "_law_day", "_law_one_here"] ["_law_parts_here", "_law_day"] (defScope s__law_is_home) := ⟨rfl, rfl, rfl, by decide +kernel, rfl, by decide +kernel, by decide +kernel⟩
theorem b0__law_is_home : Bd0 "_law_is_home" s__law_is_home ["_law_parts_here", "_law_day"] := fun _ _ _ _ _ _ us h => match us, h with | [_, _], _ => rfl
abbrev s__law_torn : Stmt := topS 37
theorem sc__law_torn : FnScope ["_law_parts_here", "_law_i", "_law_j", "_law_two", "_law_day"] ["_law_parts_here"] (defScope s__law_torn) := ⟨rfl, rfl, rfl, by decide +kernel, rfl, by decide +kernel, by decide +kernel⟩
theorem b0__law_torn : Bd0 "_law_torn" s__law_torn ["_law_parts_here"] := fun _ _ _ _ _ _ us h => match us, h with | [_], _ => rfl
abbrev s__law_due : Stmt := topS 38
theorem sc__law_due : FnScope ["_law_parts_here", "_law_paper", "_law_one_here", "_law_word", "_law_other", "_law_days", "_law_day", "_law_many", "_law_two"] ["_law_parts_here", "_law_paper"] (defScope s__law_due) := ⟨rfl, rfl, rfl, by decide +kernel, rfl, by decide +kernel, by decide +kernel⟩
theorem b0__law_due : Bd0 "_law_due" s__law_due ["_law_parts_here", "_law_paper"] := fun _ _ _ _ _ _ us h => match us, h with | [_, _], _ => rfl
abbrev s__law_papers : Stmt := topS 39
theorem sc__law_papers : FnScope ["_law_well_here", "_law_parts_here", "_law_told", "_law_many", "_law_i", "_law_j", "_law_word", "_law_one_here", "_law_other", "_law_some"] ["_law_well_here", "_law_parts_here", "_law_told"] (defScope s__law_papers) := ⟨rfl, rfl, rfl, by decide +kernel, rfl, by decide +kernel, by decide +kernel⟩
theorem b0__law_papers : Bd0 "_law_papers" s__law_papers ["_law_well_here", "_law_parts_here", "_law_told"] := fun _ _ _ _ _ _ us h => match us, h with | [_, _, _], _ => rfl
abbrev s_law : Stmt := topS 40
theorem sc_law : FnScope ["_law_script", "_law_cell", "_law_well_here", "_law_n", "_law_parts_here", "_law_town", "_law_told", "_law_paper", "_law_kept", "_law_found"] ["_law_script"] (defScope s_law) := ⟨rfl, rfl, rfl, by decide +kernel, rfl, by decide +kernel, by decide +kernel⟩
theorem b0_law : Bd0 "law" s_law ["_law_script"] := fun _ _ _ _ _ _ us h => match us, h with | [_], _ => rfl
abbrev s_Town___init__ : Stmt := inC 16 0
theorem sc_Town___init__ : FnScope ["self", "places", "streets", "broad", "inns", "wide", "beds"] ["self", "places", "streets", "broad", "inns"] (defScope s_Town___init__) := ⟨rfl, rfl, rfl, by decide +kernel, rfl, by decide +kernel, by decide +kernel⟩
theorem bk_Town___init__ : BmK "__init__" "Town.__init__" s_Town___init__ ["self", "places", "streets", "broad", "inns"] 3 ["broad", "inns"] := fun _ _ _ _ _ _ us ws h1 h2 => match us, ws, h1, h2 with | [_, _, _], [_, _], _, _ => rfl
abbrev s_Town_streets : Stmt := inC 16 2
theorem sc_Town_streets : FnScope ["self"] ["self"] (defScope s_Town_streets) := ⟨rfl, rfl, rfl, by decide +kernel, rfl, by decide +kernel, by decide +kernel⟩
theorem b0_Town_streets : Bm0 "streets" "Town.streets" s_Town_streets ["self"] := fun _ _ _ _ _ _ us h => match us, h with | [_], _ => rfl
abbrev s_Town_broad : Stmt := inC 16 3
theorem sc_Town_broad : FnScope ["self"] ["self"] (defScope s_Town_broad) := ⟨rfl, rfl, rfl, by decide +kernel, rfl, by decide +kernel, by decide +kernel⟩
theorem b0_Town_broad : Bm0 "broad" "Town.broad" s_Town_broad ["self"] := fun _ _ _ _ _ _ us h => match us, h with | [_], _ => rfl
abbrev s_Town_inns : Stmt := inC 16 4
theorem sc_Town_inns : FnScope ["self"] ["self"] (defScope s_Town_inns) := ⟨rfl, rfl, rfl, by decide +kernel, rfl, by decide +kernel, by decide +kernel⟩
theorem b0_Town_inns : Bm0 "inns" "Town.inns" s_Town_inns ["self"] := fun _ _ _ _ _ _ us h => match us, h with | [_], _ => rfl
abbrev s_Town___eq__ : Stmt := inC 16 5
theorem sc_Town___eq__ : FnScope ["self", "other"] ["self", "other"] (defScope s_Town___eq__) := ⟨rfl, rfl, rfl, by decide +kernel, rfl, by decide +kernel, by decide +kernel⟩
theorem b0_Town___eq__ : Bm0 "__eq__" "Town.__eq__" s_Town___eq__ ["self", "other"] := fun _ _ _ _ _ _ us h => match us, h with | [_, _], _ => rfl
abbrev s_Town___repr__ : Stmt := inC 16 6
theorem sc_Town___repr__ : FnScope ["self"] ["self"] (defScope s_Town___repr__) := ⟨rfl, rfl, rfl, by decide +kernel, rfl, by decide +kernel, by decide +kernel⟩
theorem b0_Town___repr__ : Bm0 "__repr__" "Town.__repr__" s_Town___repr__ ["self"] := fun _ _ _ _ _ _ us h => match us, h with | [_], _ => rfl
/-- what the head tells of the text -/
structure Txt (K : PySem.W.Frag) (mg : Str → Option Value) : Prop where
  t_is_any : Fd K mg "is_any" s_is_any []
  t_is_whole : Fd K mg "is_whole" s_is_whole []
  t_is_street : Fd K mg "is_street" s_is_street []
  t_is_pair : Fd K mg "is_pair" s_is_pair []
  t_check_streets : Fd K mg "check_streets" s_check_streets []
  t_check_broad : Fd K mg "check_broad" s_check_broad []
  t_check_inns : Fd K mg "check_inns" s_check_inns []
  t_street_of : Fd K mg "street_of" s_street_of []
  t_turns_on : Fd K mg "turns_on" s_turns_on []
  t_common_part : Fd K mg "common_part" s_common_part []
  t_least_common : Fd K mg "least_common" s_least_common []
  t_never_both : Fd K mg "never_both" s_never_both []
  t_torn_pair : Fd K mg "torn_pair" s_torn_pair []
  t_is_home : Fd K mg "is_home" s_is_home []
  t_home : Fd K mg "home" s_home []
  t_shows_home : Fd K mg "shows_home" s_shows_home []
  t__law_cell_at : Fd K mg "_law_cell_at" s__law_cell_at []
  t__law_well : Fd K mg "_law_well" s__law_well []
  t__law_draw : Fd K mg "_law_draw" s__law_draw []
  t__law_one : Fd K mg "_law_one" s__law_one []
  t__law_streets : Fd K mg "_law_streets" s__law_streets []
  t__law_parts : Fd K mg "_law_parts" s__law_parts []
  t__law_made : Fd K mg "_law_made" s__law_made []
  t__law_whole : Fd K mg "_law_whole" s__law_whole []
  t__law_is_home : Fd K mg "_law_is_home" s__law_is_home []
  t__law_torn : Fd K mg "_law_torn" s__law_torn []
  t__law_due : Fd K mg "_law_due" s__law_due []
  t__law_papers : Fd K mg "_law_papers" s__law_papers []
  t_law : Fd K mg "law" s_law []
  t_Town___init__ : Mi K mg "Town" "Town.__init__" s_Town___init__ [("broad", V.non), ("inns", V.non)]
  t_Town_streets : Md K mg "Town" "streets" "Town.streets" s_Town_streets []
  t_Town_broad : Md K mg "Town" "broad" "Town.broad" s_Town_broad []
  t_Town_inns : Md K mg "Town" "inns" "Town.inns" s_Town_inns []
  t_Town___eq__ : Md K mg "Town" "__eq__" "Town.__eq__" s_Town___eq__ []
  t_Town___repr__ : Md K mg "Town" "__repr__" "Town.__repr__" s_Town___repr__ []
  mg_Town : mg "Town" = some (.ref (He.ga K "Town"))
  cl_Town : Cls K (He.ga K "Town")
  na_Town_many : NoAttr K (He.ga K "Town") "many"
  na_Town_lanes : NoAttr K (He.ga K "Town") "lanes"
  na_Town_wides : NoAttr K (He.ga K "Town") "wides"
  na_Town_beds : NoAttr K (He.ga K "Town") "beds"
  f_all : mg "all" = none
  f_bool : mg "bool" = none
  f_enumerate : mg "enumerate" = none
  f_int : mg "int" = none
  f_isinstance : mg "isinstance" = none
  f_len : mg "len" = none
  f_list : mg "list" = none
  f_range : mg "range" = none
  f_repr : mg "repr" = none
  f_sorted : mg "sorted" = none
  f_str : mg "str" = none
  f_tuple : mg "tuple" = none
  g_MOST_PLACES : ∃ t, mg "MOST_PLACES" = some (.int 8 t)
  g_MOST_STREETS : ∃ t, mg "MOST_STREETS" = some (.int 12 t)
  g_MOST_RHYTHM : ∃ t, mg "MOST_RHYTHM" = some (.int 6 t)
section
variable {CX : CXT} {P : Program} {w : World} {K : PySem.W.Frag} {mg : Str → Option Value} {base : Heap}
abbrev aT (K : PySem.W.Frag) : Addr := He.ga K "Town"
theorem d_is_any (t : Txt K mg) (hc : Calm0 CX) : DefT CX P w K mg base 1 "is_any" ["thing"] R_is_any := by
  refine t.t_is_any.def sc_is_any hc b0_is_any (fun ts L r L' h => ?_) (fun X ct po ts L r L' h => ?_)
  · obtain ⟨_, rfl, _⟩ := h; rfl
  · obtain ⟨x, rfl, hx, rfl, rfl⟩ := h
    refine ws_ret (Ev.eq (ev_and (kisi ct t.f_isinstance (ea_cons (nv ct 0 rfl) (ea_cons (nty ct "int" t.f_int) ea_nil)) hx (isA_known hx _ (.inl rfl))) fun _ => (ev_bool1 (ev_not (kisi ct t.f_isinstance (ea_cons (nv ct 0 rfl) (ea_cons (nty ct "bool" t.f_bool) ea_nil)) hx (isA_known hx _ (.inr (.inl rfl))))))) ?_) exit_same
    rw [isA_any hx]
theorem d_is_whole (t : Txt K mg) (hc : Calm0 CX) : DefK CX P w K mg base 2 "is_whole" ["thing", "least", "most"] 1 ["least", "most"] R_is_whole := by
  refine t.t_is_whole.defK sc_is_whole hc bk_is_whole (fun ts L r L' h => ?_) (fun X ct po ts L r L' h => ?_)
  · obtain ⟨_, _, _, rfl, _⟩ := h; rfl
  · obtain ⟨x, lo, hi, rfl, hx, rfl, rfl⟩ := h
    have h1 : ∀ L, R_is_any [x] L (.v (B (isIntT x))) L := fun L => ⟨x, rfl, hx, rfl, rfl⟩
    cases hi2 : isIntT x with
    | true =>
      cases x with
      | v y =>
        cases y with
        | int i => exact ws_ret (Ev.eq (ev_and (ec ct (d_is_any t hc) (ea_cons (nv ct 0 rfl) ea_nil) (h1 _)) fun _ => (ev_bool1 (ev_leleI (nv ct 1 rfl) (nv ct 0 rfl) fun _ => (nv ct 2 rfl)))) rfl) exit_same
        | _ => cases hi2
      | _ => cases hi2
    | false =>
      have e : wholeT x lo hi = false := by
        unfold wholeT
        split
        · cases hi2
        · rfl
      rw [e]
      rw [hi2] at h1
      exact ws_ret (Ev.eq (ev_and (z := false) (ec ct (d_is_any t hc) (ea_cons (nv ct 0 rfl) ea_nil) (h1 _)) fun h => nomatch h) rfl) exit_same
theorem rw_int (i lo hi : Int) (L : Store) : R_is_whole [I i, I lo, I hi] L (.v (B (decide (lo ≤ i) && decide (i ≤ hi)))) L := ⟨I i, lo, hi, rfl, rfl, rfl, rfl⟩
theorem d_is_street (t : Txt K mg) (hc : Calm0 CX) : DefT CX P w K mg base 3 "is_street" ["thing", "places"] R_is_street := by
  refine t.t_is_street.def sc_is_street hc b0_is_street (fun ts L r L' h => ?_) (fun X ct po ts L r L' h => ?_)
  · obtain ⟨_, _, rfl, _⟩ := h; rfl
  · obtain ⟨l, m, rfl, rfl, rfl⟩ := h
    obtain ⟨_, gR⟩ := t.g_MOST_RHYTHM
    have hA : ∀ L, R_is_any [I l.n] L (.v (B true)) L := fun L => ⟨_, rfl, rfl, rfl, rfl⟩
    refine ws_if (EvW.tst (ew_or (eb_not (eb_val (kisiK ct t.f_isinstance (ea_cons (nv ct 0 rfl) (ea_cons (nty ct "tuple" t.f_tuple) ea_nil)) rfl true))) fun _ => (ew_or1 (eb_neI (klenT ct t.f_len (ea_cons (nv ct 0 rfl) ea_nil)) ev_int)))) (fun h => ?_) (fun h => ?_)
    · exact absurd h (by simp)
    refine ws_nil ?_
    refine ws_asg (nv ct 0 rfl) (tg_tup ct (tgs_cons (tn ct 2) (tgs_cons (tn ct 3) (tgs_cons (tn ct 4) (tgs_cons (tn ct 5) tgs_nil)))) rfl) ?_
    refine ws_if (EvW.tst (ew_or (eb_not (eb_val (eck ct (d_is_whole t hc) (ea_cons (nv ct 2 rfl) ea_nil) (ek_cons ev_int (ek_cons (nv ct 1 rfl) ek_nil)) (rw_int _ _ _ _)))) fun _ => (ew_or (eb_not (eb_val (eck ct (d_is_whole t hc) (ea_cons (nv ct 3 rfl) ea_nil) (ek_cons ev_int (ek_cons (nv ct 1 rfl) ek_nil)) (rw_int _ _ _ _)))) fun _ => (ew_or1 (eb_eqI (nv ct 2 rfl) (nv ct 3 rfl)))))) (fun h => ?_) (fun h => ?_)
    · refine ws_ret (Ev.eq ev_bl ?_) exit_same
      have : laneB m l = false := by
        unfold laneB
        cases e1 : (decide (1 ≤ l.a) && decide (l.a ≤ m)) <;> cases e2 : (decide (1 ≤ l.b) && decide (l.b ≤ m)) <;> cases e3 : decide (l.a = l.b) <;> simp only [e1, e2, e3] at h ⊢ <;> first | rfl | exact absurd h (by decide)
      rw [this]
    refine ws_nil ?_
    refine ws_ret (Ev.eq (ev_and (eck ct (d_is_whole t hc) (ea_cons (nv ct 4 rfl) ea_nil) (ek_cons ev_int (ek_cons (nint ct gR) ek_nil)) (rw_int _ _ _ _)) fun _ => (ev_bool1 (ec ct (d_is_any t hc) (ea_cons (nv ct 5 rfl) ea_nil) (hA _)))) ?_) exit_same
    unfold laneB
    cases e1 : (decide (1 ≤ l.a) && decide (l.a ≤ m)) <;> cases e2 : (decide (1 ≤ l.b) && decide (l.b ≤ m)) <;> cases e3 : decide (l.a = l.b) <;> simp only [e1, e2, e3] at h ⊢ <;> first | exact absurd h (by decide) | simp
theorem d_is_pair (t : Txt K mg) (hc : Calm0 CX) : DefT CX P w K mg base 3 "is_pair" ["thing", "places"] R_is_pair := by
  refine t.t_is_pair.def sc_is_pair hc b0_is_pair (fun ts L r L' h => ?_) (fun X ct po ts L r L' h => ?_)
  · obtain ⟨_, _, rfl, _⟩ := h; rfl
  · obtain ⟨q, m, rfl, rfl, rfl⟩ := h
    refine ws_if (EvW.tst (ew_or (eb_not (eb_val (kisiK ct t.f_isinstance (ea_cons (nv ct 0 rfl) (ea_cons (nty ct "tuple" t.f_tuple) ea_nil)) rfl true))) fun _ => (ew_or1 (eb_neI (klenT ct t.f_len (ea_cons (nv ct 0 rfl) ea_nil)) ev_int)))) (fun h => ?_) (fun h => ?_)
    · exact absurd h (by simp)
    refine ws_nil ?_
    refine ws_ret (Ev.eq (ev_and (kallM ct t.f_all (ea_cons (Ev.fz (elc0 (own := [("one", 2)]) (xs := [q.1, q.2]) (f := I) ct (by decide +kernel) (ei_tup (nv ct 0 rfl)) (by show 2 ≤ 100000; decide) (fun x2 hx2 _ c2 => (tn c2 2)) (fun x2 hx2 _ c2 => (eck c2 (d_is_whole t hc) (ea_cons (nv c2 2 rfl) ea_nil) (ek_cons ev_int (ek_cons (nv c2 1 rfl) ek_nil)) (rw_int _ _ _ _))))) ea_nil)) fun _ => (ev_bool1 (ev_lt (ev_ixT (nv ct 0 rfl) ev_int rfl) (ev_ixT (nv ct 0 rfl) ev_int rfl)))) ?_) exit_same
    unfold pairB
    simp only [List.all_cons, List.all_nil, Bool.and_true]
theorem d_check_streets (t : Txt K mg) (hc : Calm0 CX) : DefT CX P w K mg base 4 "check_streets" ["streets", "places"] R_check_streets := by
  refine t.t_check_streets.def sc_check_streets hc b0_check_streets (fun ts L r L' h => ?_) (fun X ct po ts L r L' h => ?_)
  · obtain ⟨_, _, rfl, _⟩ := h; rfl
  · obtain ⟨ls, m, rfl, ok, h12, rfl, rfl⟩ := h
    obtain ⟨_, gS⟩ := t.g_MOST_STREETS
    refine ws_if (EvW.tst (ew_or (eb_not (eb_val (kisiK ct t.f_isinstance (ea_cons (nv ct 0 rfl) (ea_cons (nty ct "list" t.f_list) ea_nil)) rfl true))) fun _ => (ew_or1 (eb_gt (klen ct t.f_len (ea_cons (nv ct 0 rfl) ea_nil) (.inl rfl)) (nint ct gS))))) (fun h => ?_) (fun h => ?_)
    · refine absurd h ?_
      rw [List.length_map]
      simp; omega
    refine ws_nil ?_
    refine ws_for ct po (kenum ct t.f_enumerate (ea_cons (nv ct 0 rfl) ea_nil)) (fun n ρ L0 => L0 = L' ∧ ∃ y z, ρ = [some (.lst (ls.map tLane)), some (I m), y, z]) ⟨rfl, _, _, rfl⟩ (fun n x ρ' L' hx hw => ?_) (fun ρ' L' hw => ?_)
    · obtain ⟨rfl, y, z, rfl⟩ := hw
      obtain ⟨q, hq, rfl⟩ : ∃ q, q ∈ enumL ls ∧ x = .tup [I q.1, tLane q.2] := by
        obtain ⟨q, h1, h2⟩ := List.mem_map.mp (List.mem_of_getElem? hx)
        exact ⟨q, h1, h2.symm⟩
      obtain ⟨i, _, e2⟩ := mem_enumL hq
      have hok := ok _ (List.mem_of_getElem? e2)
      refine ⟨_, _, (tg_tup ct (tgs_cons (tn ct 2) (tgs_cons (tn ct 3) tgs_nil)) rfl), ?_⟩
      refine ws_if (eb_not (eb_val (ec ct (d_is_street t hc) (ea_cons (nv ct 3 rfl) (ea_cons (nv ct 1 rfl) ea_nil)) ⟨q.2, m, rfl, rfl, rfl⟩))) (fun h => ?_) (fun h => ?_)
      · rw [laneB_ok.mpr hok] at h; cases h
      · exact ws_nil (ws_nil ⟨rfl, _, _, rfl⟩)
    · obtain ⟨rfl, y, z, rfl⟩ := hw
      exact ws_nil exit_same
end
section
variable {CX : CXT} {P : Program} {w : World} {K : PySem.W.Frag} {mg : Str → Option Value} {base : Heap}
variable {N : List Str} {sc : Scope} {fs : Str → Bool} {X : Cx} {k : Nat} {e : Expr} {ρ : TEnv} {L L1 : Store} {pos : Pos} {T0 : Tw}
theorem e_many (ct : Ct CX P w K mg base k N sc fs X) (t : Txt K mg) (h : Ev X e ρ L (.v (tTw (aT K) T0)) L1) (hb : attributeBase e "many" X.env (eval e X.env) = eval e X.env := by rfl) : Ev X (.Attribute e "many" pos) ρ L (.v (I T0.n)) L1 := efl ct t.cl_Town t.na_Town_many h (.inl rfl) rfl hb
theorem e_lanes (ct : Ct CX P w K mg base k N sc fs X) (t : Txt K mg) (h : Ev X e ρ L (.v (tTw (aT K) T0)) L1) (hb : attributeBase e "lanes" X.env (eval e X.env) = eval e X.env := by rfl) : Ev X (.Attribute e "lanes" pos) ρ L (.v (.tup (T0.st.map tLane))) L1 := efl ct t.cl_Town t.na_Town_lanes h (.inl rfl) rfl hb
theorem e_wides (ct : Ct CX P w K mg base k N sc fs X) (t : Txt K mg) (h : Ev X e ρ L (.v (tTw (aT K) T0)) L1) (hb : attributeBase e "wides" X.env (eval e X.env) = eval e X.env := by rfl) : Ev X (.Attribute e "wides" pos) ρ L (.v (.tup (T0.wd.map tPair))) L1 := efl ct t.cl_Town t.na_Town_wides h (.inl rfl) rfl hb
theorem e_beds (ct : Ct CX P w K mg base k N sc fs X) (t : Txt K mg) (h : Ev X e ρ L (.v (tTw (aT K) T0)) L1) (hb : attributeBase e "beds" X.env (eval e X.env) = eval e X.env := by rfl) : Ev X (.Attribute e "beds" pos) ρ L (.v (.tup (T0.bd.map I))) L1 := efl ct t.cl_Town t.na_Town_beds h (.inl rfl) rfl hb
theorem d_check_broad (t : Txt K mg) (hc : Calm0 CX) : DefT CX P w K mg base 4 "check_broad" ["broad", "places"] R_check_broad := by
  refine t.t_check_broad.def sc_check_broad hc b0_check_broad (fun ts L r L' h => ?_) (fun X ct po ts L r L' h => ?_)
  · obtain ⟨_, _, rfl, _⟩ := h; rfl
  · obtain ⟨ls, m, rfl, ok, rfl, rfl⟩ := h
    refine ws_if (eb_not (eb_val (kisiK ct t.f_isinstance (ea_cons (nv ct 0 rfl) (ea_cons (nty ct "list" t.f_list) ea_nil)) rfl true))) (fun h => ?_) (fun h => ?_)
    · cases h
    refine ws_nil ?_
    refine ws_for ct po (kenum ct t.f_enumerate (ea_cons (nv ct 0 rfl) ea_nil)) (fun n ρ L0 => L0 = L' ∧ ∃ y z, ρ = [some (.lst (ls.map tPair)), some (I m), y, z]) ⟨rfl, _, _, rfl⟩ (fun n x ρ' L' hx hw => ?_) (fun ρ' L' hw => ?_)
    · obtain ⟨rfl, y, z, rfl⟩ := hw
      obtain ⟨q, hq, rfl⟩ : ∃ q, q ∈ enumL ls ∧ x = .tup [I q.1, tPair q.2] := by
        obtain ⟨q, h1, h2⟩ := List.mem_map.mp (List.mem_of_getElem? hx)
        exact ⟨q, h1, h2.symm⟩
      obtain ⟨i, e1, e2⟩ := mem_enumL hq
      have hok := ok.ok _ (List.mem_of_getElem? e2)
      refine ⟨_, _, (tg_tup ct (tgs_cons (tn ct 2) (tgs_cons (tn ct 3) tgs_nil)) rfl), ?_⟩
      have hz := sh_lst (shl_map sh_pair (cutT ls none (some q.1)))
      refine ws_if (EvW.tst (ew_or (eb_not (eb_val (ec ct (d_is_pair t hc) (ea_cons (nv ct 3 rfl) (ea_cons (nv ct 1 rfl) ea_nil)) ⟨q.2, m, rfl, rfl, rfl⟩))) fun _ => (ew_or1 (eb_in ct (nv ct 3 rfl) (Ev.eq (Ev.fz (ev_cutL (nv ct 0 rfl) (.inl rfl) eo_none (eo_some (nv ct 2 rfl)))) (congrArg (fun z => R.v (T.lst z)) (cutT_map tPair ls none (some q.1)))) (sh_pair q.2).shp hz.shp)))) (fun h => ?_) (fun h => ?_)
      · refine absurd h ?_
        have h1 : pairB m q.2 = true := by
          obtain ⟨a, b, c, d, e⟩ := hok
          unfold pairB; simp only [Bool.and_eq_true, decide_eq_true_eq]; exact ⟨⟨⟨a, b⟩, c, d⟩, e⟩
        rw [h1, inT_map eqT_pair, e1, cutT_take (Nat.le_of_lt (List.getElem?_eq_some_iff.mp e2).1)]
        simp [not_in_take ok.nd e2]
      · exact ws_nil (ws_nil ⟨rfl, _, _, rfl⟩)
    · obtain ⟨rfl, y, z, rfl⟩ := hw
      exact ws_nil exit_same
theorem d_check_inns (t : Txt K mg) (hc : Calm0 CX) : DefT CX P w K mg base 4 "check_inns" ["inns", "places"] R_check_inns := by
  refine t.t_check_inns.def sc_check_inns hc b0_check_inns (fun ts L r L' h => ?_) (fun X ct po ts L r L' h => ?_)
  · obtain ⟨_, _, rfl, _⟩ := h; rfl
  · obtain ⟨ls, m, rfl, ok, rfl, rfl⟩ := h
    refine ws_if (eb_not (eb_val (kisiK ct t.f_isinstance (ea_cons (nv ct 0 rfl) (ea_cons (nty ct "list" t.f_list) ea_nil)) rfl true))) (fun h => ?_) (fun h => ?_)
    · cases h
    refine ws_nil ?_
    refine ws_for ct po (kenum ct t.f_enumerate (ea_cons (nv ct 0 rfl) ea_nil)) (fun n ρ L0 => L0 = L' ∧ ∃ y z, ρ = [some (.lst (ls.map I)), some (I m), y, z]) ⟨rfl, _, _, rfl⟩ (fun n x ρ' L' hx hw => ?_) (fun ρ' L' hw => ?_)
    · obtain ⟨rfl, y, z, rfl⟩ := hw
      obtain ⟨q, hq, rfl⟩ : ∃ q, q ∈ enumL ls ∧ x = .tup [I q.1, I q.2] := by
        obtain ⟨q, h1, h2⟩ := List.mem_map.mp (List.mem_of_getElem? hx)
        exact ⟨q, h1, h2.symm⟩
      obtain ⟨i, e1, e2⟩ := mem_enumL hq
      have hok := ok.ok _ (List.mem_of_getElem? e2)
      refine ⟨_, _, (tg_tup ct (tgs_cons (tn ct 2) (tgs_cons (tn ct 3) tgs_nil)) rfl), ?_⟩
      have hz := sh_lst (shl_map sh_I (cutT ls none (some q.1)))
      refine ws_if (EvW.tst (ew_or (eb_not (eb_val (eck ct (d_is_whole t hc) (ea_cons (nv ct 3 rfl) ea_nil) (ek_cons ev_int (ek_cons (nv ct 1 rfl) ek_nil)) (rw_int _ _ _ _)))) fun _ => (ew_or1 (eb_in ct (nv ct 3 rfl) (Ev.eq (Ev.fz (ev_cutL (nv ct 0 rfl) (.inl rfl) eo_none (eo_some (nv ct 2 rfl)))) (congrArg (fun z => R.v (T.lst z)) (cutT_map I ls none (some q.1)))) (sh_I q.2).shp hz.shp)))) (fun h => ?_) (fun h => ?_)
      · refine absurd h ?_
        rw [decide_eq_true hok.1, decide_eq_true hok.2, inT_map eqT_I, e1, cutT_take (Nat.le_of_lt (List.getElem?_eq_some_iff.mp e2).1)]
        simp [not_in_take ok.nd e2]
      · exact ws_nil (ws_nil ⟨rfl, _, _, rfl⟩)
    · obtain ⟨rfl, y, z, rfl⟩ := hw
      exact ws_nil exit_same
theorem m_Town (t : Txt K mg) (hc : Calm0 CX) : MakK CX P w K mg base 5 "Town" (aT K) ["self", "places", "streets", "broad", "inns"] 2 ["broad", "inns"] (R_init (aT K)) := by
  refine t.t_Town___init__.makK t.mg_Town sc_Town___init__ hc bk_Town___init__ (fun ts L r L' h => ?_) (fun X ct po ts L r L' h => ?_)
  · obtain ⟨_, _, _, _, rfl, _⟩ := h; rfl
  · obtain ⟨n, q, b, i, rfl, ok, hb, hi, hl, rfl, rfl⟩ := h
    obtain ⟨_, gP⟩ := t.g_MOST_PLACES
    refine ws_if (eb_not (eb_val (eck ct (d_is_whole t hc) (ea_cons (nv ct 1 rfl) ea_nil) (ek_cons ev_int (ek_cons (nint ct gP) ek_nil)) (rw_int _ _ _ _)))) (fun h => ?_) (fun h => ?_)
    · rw [decide_eq_true ok.n1, decide_eq_true ok.n8] at h; cases h
    refine ws_nil ?_
    refine ws_expr (ec ct (d_check_streets t hc) (ea_cons (nv ct 2 rfl) (ea_cons (nv ct 1 rfl) ea_nil)) ⟨q.st, q.n, rfl, ok.st, ok.s12, rfl, rfl⟩) ?_
    refine wset ct 5 (t := .lst (q.wd.map tPair)) (Ev.eq (ev_ifV (eb_isN (nv ct 3 rfl)) (fun _ => (Ev.fz (ev_lst ea_nil (by decide) rfl))) (fun _ => (nv ct 3 rfl))) ?_) ?_
    · rcases hb with rfl | ⟨rfl, e⟩
      · rfl
      · rw [e]; rfl
    refine wset ct 6 (t := .lst (q.bd.map I)) (Ev.eq (ev_ifV (eb_isN (nv ct 4 rfl)) (fun _ => (Ev.fz (ev_lst ea_nil (by decide) rfl))) (fun _ => (nv ct 4 rfl))) ?_) ?_
    · rcases hi with rfl | ⟨rfl, e⟩
      · rfl
      · rw [e]; rfl
    refine ws_expr (ec ct (d_check_broad t hc) (ea_cons (nv ct 5 rfl) (ea_cons (nv ct 1 rfl) ea_nil)) ⟨q.wd, q.n, rfl, ok.wd, rfl, rfl⟩) ?_
    refine ws_expr (ec ct (d_check_inns t hc) (ea_cons (nv ct 6 rfl) (ea_cons (nv ct 1 rfl) ea_nil)) ⟨q.bd, q.n, rfl, ok.bd, rfl, rfl⟩) ?_
    refine wfld ct t.cl_Town t.na_Town_many (nv ct 1 rfl) (nv ct 0 rfl) hl ?_
    refine wfld ct t.cl_Town t.na_Town_lanes (ktupleL ct t.f_tuple (ea_cons (nv ct 2 rfl) ea_nil) (.inl rfl)) (nv ct 0 rfl) updS_same ?_
    refine wfld ct t.cl_Town t.na_Town_wides (ktupleL ct t.f_tuple (ea_cons (Ev.fz (ksortP ct t.f_sorted (ea_cons (nv ct 5 rfl) ea_nil) (.inl rfl))) ea_nil) (.inl rfl)) (nv ct 0 rfl) updS_same ?_
    refine wfld ct t.cl_Town t.na_Town_beds (ktupleL ct t.f_tuple (ea_cons (Ev.fz (ksortI ct t.f_sorted (ea_cons (nv ct 6 rfl) ea_nil) (.inl rfl))) ea_nil) (.inl rfl)) (nv ct 0 rfl) updS_same ?_
    refine ws_nil ?_
    exact exit_upd hl (by rw [updS_updS, updS_updS, updS_updS]; rfl)
theorem d_Town_streets (t : Txt K mg) (hc : Calm0 CX) : MetT CX P w K mg base 1 (aT K) "streets" ["self"] (R_streets (aT K)) := by
  refine t.t_Town_streets.met t.mg_Town sc_Town_streets hc b0_Town_streets (fun ts L r L' h => ?_) (fun X ct po ts L r L' h => ?_)
  · obtain ⟨_, rfl, _⟩ := h; rfl
  · obtain ⟨q, rfl, rfl, rfl⟩ := h
    exact ws_ret (klistT ct t.f_list (ea_cons (e_lanes ct t (nv ct 0 rfl)) ea_nil)) exit_same
theorem e_streets (ct : Ct CX P w K mg base k N sc fs X) (t : Txt K mg) (hc : Calm0 CX) (h : Ev X e ρ L (.v (tTw (aT K) T0)) L1) {apos : Pos} {pl : Sem Bool} (hj : 1 ≤ k := by decide)
    (ht : eval (.Call (.Attribute e "streets" apos) [] [] pos) X.env = (do
      let ov ← eval e X.env
      standAt apos.atName
      let (f, first) ← holding [ov] (getMethod ov "streets" pl)
      callWith pos f first (backTo pos (starEach [] X.env)) (backToKw pos (keywordEach [] X.env))) := by rfl) : Ev X (.Call (.Attribute e "streets" apos) [] [] pos) ρ L (.n (.lst (T0.st.map tLane))) L1 :=
  em0 (pl := pl) ct t.cl_Town (d_Town_streets t hc) h (.inl rfl) rfl ⟨T0, rfl, rfl, rfl⟩ hj ht
theorem d_street_of (t : Txt K mg) (hc : Calm0 CX) : DefT CX P w K mg base 3 "street_of" ["town", "number"] (R_street_of (aT K)) := by
  refine t.t_street_of.def sc_street_of hc b0_street_of (fun ts L r L' h => ?_) (fun X ct po ts L r L' h => ?_)
  · obtain ⟨_, _, _, rfl, _⟩ := h; rfl
  · obtain ⟨q, i, l, rfl, h0, hl, h12, rfl, rfl⟩ := h
    have hlt := (List.getElem?_eq_some_iff.mp hl).1
    refine ws_if (eb_not (eb_val (eck ct (d_is_whole t hc) (ea_cons (nv ct 1 rfl) ea_nil) (ek_cons ev_int (ek_cons (ev_sub (klenT ct t.f_len (ea_cons (e_lanes ct t (nv ct 0 rfl)) ea_nil)) ev_int) ek_nil)) (rw_int _ _ _ _)))) (fun h => ?_) (fun h => ?_)
    · rw [decide_eq_true h0, List.length_map, decide_eq_true (by omega)] at h; cases h
    refine ws_nil ?_
    refine ws_ret (ev_ixT (e_lanes ct t (nv ct 0 rfl)) (nv ct 1 rfl) ?_) exit_same
    exact atI_map h0 hl
theorem d_turns_on (t : Txt K mg) (hc : Calm0 CX) : DefT CX P w K mg base 4 "turns_on" ["town", "number", "day"] (R_turns_on (aT K)) := by
  refine t.t_turns_on.def sc_turns_on hc b0_turns_on (fun ts L r L' h => ?_) (fun X ct po ts L r L' h => ?_)
  · obtain ⟨_, _, _, _, rfl, _⟩ := h; rfl
  · obtain ⟨q, i, l, d, rfl, h0, hl, h12, hr, rfl, rfl⟩ := h
    refine ws_asg (ev_cutT (ec ct (d_street_of t hc) (ea_cons (nv ct 0 rfl) (ea_cons (nv ct 1 rfl) ea_nil)) ⟨q, i, l, rfl, h0, hl, h12, rfl, rfl⟩) (eo_some ev_int) eo_none (fun h => absurd h.1 (by show ¬ ((2 : Nat) = 0); decide))) (tg_tup (ts := [I l.r, I l.n]) ct (tgs_cons (tn ct 3) (tgs_cons (tn ct 4) tgs_nil)) rfl) ?_
    exact ws_ret (ev_eqI (ev_mod (ev_sub (nv ct 2 rfl) (nv ct 4 rfl)) (nv ct 3 rfl) hr) ev_int) exit_same
end
section
variable {CX : CXT} {P : Program} {w : World} {K : PySem.W.Frag} {mg : Str → Option Value} {base : Heap}
theorem d_common_part (t : Txt K mg) (hc : Calm0 CX) : DefT CX P w K mg base 1 "common_part" ["one", "other"] R_common_part := by
  refine t.t_common_part.def sc_common_part hc b0_common_part (fun ts L r L' h => ?_) (fun X ct po ts L r L' h => ?_)
  · obtain ⟨_, _, rfl, _⟩ := h; rfl
  · obtain ⟨a, b, rfl, rfl, rfl⟩ := h
    refine ws_while po (fun m ρ L0 => L0 = L' ∧ ∃ x : Nat, ρ = [some (I x), some (I m)] ∧ Nat.gcd x m = Nat.gcd a b) b ⟨rfl, a, rfl, rfl⟩ (fun m ρ' L0 hw => ?_)
    obtain ⟨rfl, x, rfl, hg⟩ := hw
    refine ⟨_, _, eb_truI (nv ct 1 rfl), fun h => ?_, fun h => ?_⟩
    · have hm : 0 < m := by
        rcases Nat.eq_zero_or_pos m with h0 | h0
        · subst h0; exact absurd h (by decide)
        · exact h0
      refine wpar ct 0 1 (ea_cons (nv ct 1 rfl) (ea_cons (ev_mod (nv ct 0 rfl) (nv ct 1 rfl) (by omega)) ea_nil)) ?_
      refine ws_nil ⟨x % m, Nat.mod_lt _ hm, rfl, m, rfl, ?_⟩
      rw [← hg, Nat.gcd_comm m, ← Nat.gcd_rec, Nat.gcd_comm]
    · have h0 : m = 0 := by
        have h1 : ((m : Int) != 0) = false := h
        have := bne_eq_false_iff_eq.mp h1
        omega
      subst h0
      rw [Nat.gcd_zero_right] at hg
      subst hg
      exact ws_ret (nv ct 0 rfl) exit_same
theorem d_least_common (t : Txt K mg) (hc : Calm0 CX) : DefT CX P w K mg base 2 "least_common" ["town"] (R_least_common (aT K)) := by
  refine t.t_least_common.def sc_least_common hc b0_least_common (fun ts L r L' h => ?_) (fun X ct po ts L r L' h => ?_)
  · obtain ⟨_, rfl, _⟩ := h; rfl
  · obtain ⟨q, rfl, ok, rfl, rfl⟩ := h
    refine wset ct 1 ev_int ?_
    refine ws_for ct po (ei_list (Ev.fz (e_streets ct t hc (nv ct 0 rfl)))) (fun n ρ L0 => L0 = L' ∧ ∃ y, ρ = [some (tTw (aT K) q), some (I (lcmL (q.st.take n))), y]) ⟨rfl, _, rfl⟩ (fun n x ρ' L0 hx hw => ?_) (fun ρ' L0 hw => ?_)
    · obtain ⟨rfl, y, rfl⟩ := hw
      rw [List.getElem?_map] at hx
      cases hl : q.st[n]? with
      | none => rw [hl] at hx; cases hx
      | some l =>
        rw [hl] at hx; cases hx
        obtain ⟨h1, h6⟩ := ok.2 l (List.mem_of_getElem? hl)
        have hok : StOk (q.st.take n) := ⟨by rw [List.length_take]; have := ok.1; omega, fun m hm => ok.2 m (List.mem_of_mem_take hm)⟩
        have hle := lcmL_le hok
        have hpos := lcmL_pos hok
        have er : l.r = (l.r.toNat : Int) := by omega
        refine ⟨_, _, (tn ct 2), ?_⟩
        have hgp : 0 < Nat.gcd (lcmL (q.st.take n)) l.r.toNat := Nat.gcd_pos_of_pos_left _ hpos
        have hgl : Nat.gcd (lcmL (q.st.take n)) l.r.toNat ≤ 60 := Nat.le_trans (Nat.gcd_le_left _ hpos) hle
        refine wset ct 1 (ev_fdiv (ev_mul (nv ct 1 rfl) (ev_ixT (nv ct 2 rfl) ev_int rfl) (.inl ⟨by omega, by omega⟩)) (ec ct (d_common_part t hc) (ea_cons (nv ct 1 rfl) (ea_cons (ev_ixT (nv ct 2 rfl) ev_int rfl) ea_nil)) ⟨lcmL (q.st.take n), l.r.toNat, by rw [← er], rfl, rfl⟩) ⟨by omega, by omega⟩) ?_
        have e : ((lcmL (q.st.take n) : Int) * l.r) / ((Nat.gcd (lcmL (q.st.take n)) l.r.toNat : Nat) : Int) = ((lcmL (q.st.take (n + 1)) : Nat) : Int) := by
          rw [List.take_add_one, hl]
          show _ = ((lcmL (q.st.take n ++ [l]) : Nat) : Int)
          rw [lcmL_snoc, er, ← Int.natCast_mul, ← Int.natCast_ediv]
          rfl
        rw [e]
        exact ws_nil ⟨rfl, _, rfl⟩
    · obtain ⟨rfl, y, rfl⟩ := hw
      rw [List.length_map, List.take_length]
      exact ws_ret (nv ct 1 rfl) exit_same
theorem d_never_both (t : Txt K mg) (hc : Calm0 CX) : DefT CX P w K mg base 2 "never_both" ["town", "one", "other"] (R_never_both (aT K)) := by
  refine t.t_never_both.def sc_never_both hc b0_never_both (fun ts L r L' h => ?_) (fun X ct po ts L r L' h => ?_)
  · obtain ⟨_, _, _, _, _, rfl, _⟩ := h; rfl
  · obtain ⟨q, i, j, h, l, rfl, ok, hi, hj, rfl, rfl⟩ := h
    obtain ⟨h1, h2⟩ := ok.2 h (List.mem_of_getElem? hi)
    obtain ⟨l1, l2⟩ := ok.2 l (List.mem_of_getElem? hj)
    have eh : h.r = (h.r.toNat : Int) := by omega
    have el : l.r = (l.r.toNat : Int) := by omega
    have hgp : 0 < Nat.gcd h.r.toNat l.r.toNat := Nat.gcd_pos_of_pos_left _ (by omega)
    refine wpar ct 3 4 (ea_cons (ev_ixL (Ev.fz (e_streets ct t hc (nv ct 0 rfl))) (nv ct 1 rfl) (.inl rfl) (atI_map (by omega) (by rw [Int.toNat_natCast]; exact hi))) (ea_cons (ev_ixL (Ev.fz (e_streets ct t hc (nv ct 0 rfl))) (nv ct 2 rfl) (.inl rfl) (atI_map (by omega) (by rw [Int.toNat_natCast]; exact hj))) ea_nil)) ?_
    exact ws_ret (ev_neI (ev_mod (ev_sub (ev_ixT (nv ct 3 rfl) ev_int rfl) (ev_ixT (nv ct 4 rfl) ev_int rfl)) (ec ct (d_common_part t hc) (ea_cons (ev_ixT (nv ct 3 rfl) ev_int rfl) (ea_cons (ev_ixT (nv ct 4 rfl) ev_int rfl) ea_nil)) ⟨h.r.toNat, l.r.toNat, by rw [← eh, ← el], rfl, rfl⟩) (by omega)) ev_int) exit_same
theorem d_torn_pair (t : Txt K mg) (hc : Calm0 CX) : DefT CX P w K mg base 3 "torn_pair" ["town"] (R_torn_pair (aT K)) := by
  refine t.t_torn_pair.def sc_torn_pair hc b0_torn_pair (fun ts L r L' h => ?_) (fun X ct po ts L r L' h => ?_)
  · obtain ⟨_, _, rfl, _⟩ := h; rfl
  · obtain ⟨q, o, rfl, ok, hF, rfl, rfl⟩ := h
    have h12 := ok.1
    have hlen : ((q.st.map tLane).length : Int).toNat = q.st.length := by rw [List.length_map]; omega
    refine ws_for ct po (kr1 ct t.f_range (ea_cons (klen ct t.f_len (ea_cons (Ev.fz (e_streets ct t hc (nv ct 0 rfl))) ea_nil) (.inl rfl)) ea_nil) (by omega) (by rw [List.length_map]; omega)) (fun n ρ L0 => L0 = L' ∧ ∃ y z, ρ = [some (tTw (aT K) q), y, z] ∧ ∀ i j, i < n → i < j → j < q.st.length → tornB q.st i j = false) ⟨rfl, _, _, rfl, fun i j h => absurd h (Nat.not_lt_zero _)⟩ (fun n x ρ' L0 hx hw => ?_) (fun ρ' L0 hw => ?_)
    · obtain ⟨rfl, y, z, rfl, hno⟩ := hw
      rw [hlen] at hx
      obtain ⟨hn, rfl⟩ := rangeT_get' hx
      refine ⟨_, _, (tn ct 1), ?_⟩
      refine ws_for ct po (kr2 ct t.f_range (ea_cons (ev_add (nv ct 1 rfl) ev_int) (ea_cons (klen ct t.f_len (ea_cons (Ev.fz (e_streets ct t hc (nv ct 0 rfl))) ea_nil) (.inl rfl)) ea_nil)) (by omega) (by omega) (by omega) (by rw [List.length_map]; omega)) (fun m ρ L1 => L1 = L0 ∧ ∃ z, ρ = [some (tTw (aT K) q), some (I (0 + n)), z] ∧ ∀ j, n < j → j < n + 1 + m → j < q.st.length → tornB q.st n j = false) ⟨rfl, _, rfl, fun j h1 h2 => by omega⟩ (fun m x ρ' L0 hx hw => ?_) (fun ρ' L0 hw => ?_)
      · obtain ⟨rfl, z, rfl, hno2⟩ := hw
        obtain ⟨hm, rfl⟩ := rangeT_get' hx
        rw [List.length_map] at hm
        have hj : n + 1 + m < q.st.length := by omega
        have e1 : (0 : Int) + (n : Int) = (n : Int) := by omega
        have e2 : ((0 : Int) + (n : Int) + 1 + (m : Int)) = ((n + 1 + m : Nat) : Int) := by omega
        refine ⟨_, _, (tn ct 2), ?_⟩
        refine ws_if (eb_val (ec ct (d_never_both t hc) (ea_cons (nv ct 0 rfl) (ea_cons (nv ct 1 rfl) (ea_cons (nv ct 2 rfl) ea_nil))) ⟨q, n, n + 1 + m, q.st[n], q.st[n + 1 + m], by rw [e2, e1], ok, List.getElem?_eq_getElem hn, List.getElem?_eq_getElem hj, rfl, rfl⟩)) (fun h => ?_) (fun h => ?_)
        · have hb : tornB q.st n (n + 1 + m) = true := by
            unfold tornB
            rw [List.getD_eq_getElem?_getD, List.getD_eq_getElem?_getD, List.getElem?_eq_getElem hn, List.getElem?_eq_getElem hj]
            exact h
          have hF2 : FirstO (tornB q.st) q.st.length (some (n, n + 1 + m)) := ⟨by omega, hj, hb, fun k k1 k2 => hno2 k k1 k2 (by omega), fun k m' k1 k2 k3 => hno k m' k1 k2 k3⟩
          have eo := firstO_uniq hF hF2
          subst eo
          refine ws_ret (Ev.eq (ev_tup (ea_cons (nv ct 1 rfl) (ea_cons (nv ct 2 rfl) ea_nil)) (by decide) rfl) ?_) exit_same
          rw [e2, e1]; rfl
        · have hb : tornB q.st n (n + 1 + m) = false := by
            unfold tornB
            rw [List.getD_eq_getElem?_getD, List.getD_eq_getElem?_getD, List.getElem?_eq_getElem hn, List.getElem?_eq_getElem hj]
            exact h
          refine ws_nil (ws_nil ⟨rfl, _, rfl, fun j h1 h2 h3 => ?_⟩)
          rcases Nat.lt_or_ge j (n + 1 + m) with h4 | h4
          · exact hno2 j h1 h4 h3
          · have : j = n + 1 + m := by omega
            rw [this]; exact hb
      · obtain ⟨rfl, z, rfl, hno2⟩ := hw
        refine ws_nil ⟨rfl, _, _, rfl, fun i j h1 h2 h3 => ?_⟩
        rcases Nat.lt_or_ge i n with h4 | h4
        · exact hno i j h4 h2 h3
        · have : i = n := by omega
          subst this
          refine hno2 j h2 ?_ h3
          rw [len_range, List.length_map]
          omega
    · obtain ⟨rfl, y, z, rfl, hno⟩ := hw
      rw [len_range, hlen] at hno
      have hF2 : FirstO (tornB q.st) q.st.length none := fun i j h1 h2 => hno i j (by omega) h1 h2
      have eo := firstO_uniq hF hF2
      subst eo
      exact ws_ret ev_non exit_same
theorem d_is_home (t : Txt K mg) (hc : Calm0 CX) : DefT CX P w K mg base 5 "is_home" ["town", "day"] (R_is_home (aT K)) := by
  refine t.t_is_home.def sc_is_home hc b0_is_home (fun ts L r L' h => ?_) (fun X ct po ts L r L' h => ?_)
  · obtain ⟨_, _, rfl, _⟩ := h; rfl
  · obtain ⟨q, d, rfl, ok, rfl, rfl⟩ := h
    have h12 := ok.1
    have hlen : ((q.st.map tLane).length : Int).toNat = q.st.length := by rw [List.length_map]; omega
    refine ws_ret (Ev.eq (kallM (g := atB q.st fun l => turnsB l d) (l := rangeT 0 q.st.length) ct t.f_all (ea_cons (Ev.fz (elc0 (own := [("number", 2)]) (xs := rangeT 0 q.st.length) (f := I) ct (by decide +kernel) (ei_eq (kr1 ct t.f_range (ea_cons (klen ct t.f_len (ea_cons (Ev.fz (e_streets ct t hc (nv ct 0 rfl))) ea_nil) (.inl rfl)) ea_nil) (by omega) (by rw [List.length_map]; omega)) (by rw [hlen])) (by rw [length_rangeT]; omega) (fun x2 hx2 _ c2 => (tn c2 2)) (fun x2 hx2 _ c2 => ?body))) ea_nil)) ?_) exit_same
    case body =>
      obtain ⟨h0, h1⟩ := mem_rangeT.mp hx2
      have hlt : x2.toNat < q.st.length := by omega
      have he := List.getElem?_eq_getElem hlt
      refine Ev.eq (ec c2 (d_turns_on t hc) (ea_cons (nv c2 0 rfl) (ea_cons (nv c2 2 rfl) (ea_cons (nv c2 1 rfl) ea_nil))) ⟨q, x2, _, d, rfl, h0, he, h12, ?_, rfl, rfl⟩) ?_
      · have := (ok.2 _ (List.getElem_mem hlt)).1; omega
      · unfold atB; rw [he]
    rw [atB_all]; rfl
theorem d_home (t : Txt K mg) (hc : Calm0 CX) : DefT CX P w K mg base 6 "home" ["town"] (R_home (aT K)) := by
  refine t.t_home.def sc_home hc b0_home (fun ts L r L' h => ?_) (fun X ct po ts L r L' h => ?_)
  · obtain ⟨_, _, rfl, _⟩ := h; rfl
  · obtain ⟨q, o, rfl, ok, hF, rfl, hr⟩ := h
    refine wset ct 1 (ec ct (d_torn_pair t hc) (ea_cons (nv ct 0 rfl) ea_nil) ⟨q, o, rfl, ok, hF, rfl, rfl⟩) ?_
    refine ws_if (eb_notN (nv ct 1 rfl)) (fun h => ?_) (fun h => ?_)
    · match o, hr, h with
      | some (i, j), hr, _ =>
        have hr' : r = .v (.tup [S "never", I i, I j]) := hr
        subst hr'
        exact ws_ret (ev_tup (ea_cons ev_str (ea_cons (ev_ixT (nv ct 1 rfl) ev_int rfl) (ea_cons (ev_ixT (nv ct 1 rfl) ev_int rfl) ea_nil))) (by decide) rfl) exit_same
      | none, _, h => cases h
    · match o, hr, h with
      | some (i, j), _, h => cases h
      | none, hr, _ =>
        obtain ⟨d, ds, hd, rfl⟩ := hr
        have hle := lcmL_le ok
        refine ws_nil ?_
        refine wset ct 2 (ec ct (d_least_common t hc) (ea_cons (nv ct 0 rfl) ea_nil) ⟨q, rfl, ok, rfl, rfl⟩) ?_
        refine ws_ret (ev_tup (ea_cons ev_str (ea_cons (ev_ixL (ts := (homesL q.st).map I) (Ev.fz (elc (own := [("day", 3)]) (xs := rangeT 0 (lcmL q.st)) (f := I) (pf := homeB q.st) (gf := I) ct (by decide +kernel) (ei_eq (kr1 ct t.f_range (ea_cons (nv ct 2 rfl) ea_nil) (by omega) (by omega)) rfl) (by rw [length_rangeT]; omega) (fun x2 hx2 _ c2 => (tn c2 3)) (fun x2 hx2 _ c2 => ec_one (eb_val (ec c2 (d_is_home t hc) (ea_cons (nv c2 0 rfl) (ea_cons (nv c2 3 rfl) ea_nil)) ⟨q, x2, rfl, ok, rfl, rfl⟩))) (fun x2 hx2 _ _ c2 => (nv c2 3 rfl)))) ev_int (.inl rfl) (by rw [hd]; exact atI_map (by omega) rfl)) (ea_cons (nv ct 2 rfl) ea_nil))) (by decide) rfl) exit_same
end

section
variable {CX : CXT} {P : Program} {w : World} {K : PySem.W.Frag} {mg : Str → Option Value} {base : Heap}
theorem d_homeT (t : Txt K mg) (hc : Calm0 CX) : DefT CX P w K mg base 6 "home" ["town"] (R_homeT (aT K)) := (d_home t hc).imp home_rel
end

section
variable {CX : CXT} {P : Program} {w : World} {K : PySem.W.Frag} {mg : Str → Option Value} {base : Heap}
theorem d__law_well (t : Txt K mg) (hc : Calm0 CX) : DefT CX P w K mg base 1 "_law_well" ["_law_cell"] R_well := by
  refine t.t__law_well.def sc__law_well hc b0__law_well (fun ts L r L' h => ?_) (fun X ct po ts L r L' h => ?_)
  · obtain ⟨_, rfl, _⟩ := h; rfl
  · obtain ⟨c, rfl, rfl, rfl⟩ := h
    refine ws_ret (ev_lst (ea_cons (ev_ixL (u := I (if 10 ^ 18 ≤ c then c else 0)) (Ev.fz (ev_lst (ea_cons ev_int (ea_cons (nv ct 0 rfl) ea_nil)) (by decide) rfl)) (kintB ct t.f_int (ea_cons (ev_ge (nv ct 0 rfl) (ev_pow ev_int ev_int ⟨by decide, by decide, by decide⟩)) ea_nil)) (.inl rfl) ?_) (ea_cons (nv ct 0 rfl) (ea_cons ev_int ea_nil))) (by decide) rfl) exit_same
    show atI _ (if decide ((10 : Int) ^ 18 ≤ c) = true then 1 else 0) = _
    by_cases h : (10 : Int) ^ 18 ≤ c
    · rw [if_pos (by simpa using h), if_pos h]; rfl
    · rw [if_neg (by simpa using h), if_neg h]; rfl
theorem d__law_draw (t : Txt K mg) (hc : Calm0 CX) : DefT CX P w K mg base 1 "_law_draw" ["_law_well_here", "_law_size"] R_draw := by
  refine t.t__law_draw.def sc__law_draw hc b0__law_draw (fun ts L r L' h => ?_) (fun X ct po ts L r L' h => ?_)
  · obtain ⟨_, _, _, _, rfl, _⟩ := h; rfl
  · obtain ⟨n, v, s, b, rfl, hL, ok, hb, h0, h1, rfl, rfl⟩ := h
    have hk := ok.k
    have hkb := ok.b
    refine ws_if (eb_gt (ev_ixL (nv ct 0 rfl) ev_int (.inr (.inr ⟨_, rfl, hL⟩)) rfl) ev_int) (fun h => ?_) (fun h => ?_)
    · have ha : 0 < v.a := of_decide_eq_true h
      refine wset ct 2 (ev_mod (ev_ixL (nv ct 0 rfl) ev_int (.inr (.inr ⟨_, rfl, hL⟩)) rfl) (nv ct 1 rfl) h0) ?_
      refine ws_setix (ev_fdiv (ev_ixL (nv ct 0 rfl) ev_int (.inr (.inr ⟨_, rfl, hL⟩)) rfl) (nv ct 1 rfl) ⟨h0, by omega⟩) (nv ct 0 rfl) ev_int hL rfl ?_
      refine ws_ret (Ev.eq (nv ct 2 rfl) ?_) (exit_upd hL ?_)
      · unfold drV; rw [if_pos ha]
      · unfold drW; rw [if_pos ha]; rfl
    · have ha : ¬ 0 < v.a := of_decide_eq_false h
      refine ws_nil ?_
      refine ws_setix (ev_add (ev_ixL (nv ct 0 rfl) ev_int (.inr (.inr ⟨_, rfl, hL⟩)) rfl) ev_int) (nv ct 0 rfl) ev_int hL rfl ?_
      refine wset ct 3 (ev_mod (ev_fdivW (ev_ixL (nv ct 0 rfl) ev_int (.inr (.inr ⟨_, rfl, updS_same⟩)) rfl) ev_int (wide_div (b := 32) (by decide) (by decide) (by decide) (by decide))) ev_int (by decide)) ?_
      have s1 := Int.emod_nonneg (v.c / 2147483629) (b := 65521) (by decide)
      have s2 := Int.emod_lt_of_pos (v.c / 2147483629) (b := 65521) (by decide)
      have q1 := Int.emod_nonneg v.c (b := 2147483629) (by decide)
      have q2 := Int.emod_lt_of_pos v.c (b := 2147483629) (by decide)
      refine wset ct 4 (t := I (num1 v)) (ev_mod (ev_pow (ev_add (ev_add (ev_add (ev_mod (ev_ixL (nv ct 0 rfl) ev_int (.inr (.inr ⟨_, rfl, updS_same⟩)) rfl) ev_int (by decide)) (ev_mul ev_int (ev_ixL (nv ct 0 rfl) ev_int (.inr (.inr ⟨_, rfl, updS_same⟩)) rfl) (.inl ⟨by decide, by decide⟩))) (nv ct 3 rfl)) ev_int) ev_int ⟨by decide, by decide, by omega⟩) ev_int (by decide)) ?_
      have n1 := Int.emod_nonneg ((v.c % 2147483629 + 7919 * (v.k + 1) + v.c / 2147483629 % 65521 + 1) ^ 5) (b := 2147483647) (by decide)
      have n2 := Int.emod_lt_of_pos ((v.c % 2147483629 + 7919 * (v.k + 1) + v.c / 2147483629 % 65521 + 1) ^ 5) (b := 2147483647) (by decide)
      have m1 : 0 ≤ num1 v := n1
      have m2 : num1 v < 2147483647 := n2
      refine wset ct 4 (t := I (num2 v)) (ev_mod (ev_mul (nv ct 4 rfl) (ev_add (ev_add (ev_fdiv (nv ct 4 rfl) ev_int ⟨by decide, by decide⟩) ev_int) (ev_ixL (nv ct 0 rfl) ev_int (.inr (.inr ⟨_, rfl, updS_same⟩)) rfl)) (.inl ⟨by omega, by omega⟩)) ev_int (by decide)) ?_
      have p1 : 0 ≤ num2 v := Int.emod_nonneg _ (by decide)
      have p2 : num2 v < 2147483629 := Int.emod_lt_of_pos _ (by decide)
      refine ws_ret (Ev.eq (ev_mod (ev_mod (ev_mul (nv ct 4 rfl) (ev_add (ev_fdiv (nv ct 4 rfl) ev_int ⟨by decide, by decide⟩) ev_int) (.inl ⟨by omega, by omega⟩)) ev_int (by decide)) (nv ct 1 rfl) h0) ?_) (exit_upd hL ?_)
      · unfold drV; rw [if_neg ha]; rfl
      · unfold drW; rw [if_neg ha]; rfl
theorem d__law_one (t : Txt K mg) (hc : Calm0 CX) : DefT CX P w K mg base 2 "_law_one" ["_law_well_here", "_law_some"] R_one := by
  refine t.t__law_one.def sc__law_one hc b0__law_one (fun ts L r L' h => ?_) (fun X ct po ts L r L' h => ?_)
  · obtain ⟨_, _, _, _, rfl, _⟩ := h; rfl
  · obtain ⟨n, v, xs, b, rfl, hL, ok, hb, h0, h1, rfl, rfl⟩ := h
    have hl := one_lt (w := v) h0
    refine ws_ret (ev_ixL (nv ct 1 rfl) (ec ct (d__law_draw t hc) (ea_cons (nv ct 0 rfl) (ea_cons (klen ct t.f_len (ea_cons (nv ct 1 rfl) ea_nil) (.inl rfl)) ea_nil)) ⟨n, v, xs.length, b, rfl, hL, ok, hb, by omega, by omega, rfl, rfl⟩) (.inl rfl) ?_) (exit_upd hL rfl)
    have h2 := drV_ge (w := v) (s := (xs.length : Int)) (by omega)
    have := atI_map (f := id) (l := xs) (i := drV v xs.length) h2 (List.getElem?_eq_getElem hl)
    rw [List.map_id] at this
    rw [this]
    unfold oneV
    rw [List.getD_eq_getElem?_getD, List.getElem?_eq_getElem hl]; rfl
theorem d__law_streets (t : Txt K mg) (hc : Calm0 CX) : DefT CX P w K mg base 3 "_law_streets" ["_law_well_here", "_law_n", "_law_most", "_law_rhythms", "_law_at_once"] R_sts := by
  refine t.t__law_streets.def sc__law_streets hc b0__law_streets (fun ts L r L' h => ?_) (fun X ct po ts L r L' h => ?_)
  · obtain ⟨_, _, _, _, _, _, _, rfl, _⟩ := h; rfl
  · obtain ⟨n, v, b, m, most, rh, once, rfl, hL, ok, hb, m1, m8, o0, o12, hr, rfl, rfl⟩ := h
    refine wsetC ct 5 (ev_lst ea_nil (by decide) rfl) fun c hcl => ?_
    have hnc : n ≠ c := ne_of_live hL hcl
    refine wset ct 6 (ec ct (d__law_draw t hc) (ea_cons (nv ct 0 rfl) (ea_cons ev_int ea_nil)) ⟨n, v, 60, b, rfl, by rw [updS_ne hnc]; exact hL, ok, by omega, by decide, by decide, rfl, rfl⟩) ?_
    have ok1 := drW_ok ok (s := 60) (by decide)
    have ok2 := drW_ok ok1 (s := most + 1) (by omega)
    have hcnt := stsN_le (m := m) (w := v) o0
    have d1 := drV_ge (w := drW v 60) (s := most + 1) (by omega)
    have d2 := drV_lt (w := drW v 60) (s := most + 1) (by omega)
    have hj : drV (drW v 60) (most + 1) * (if decide (1 < m) = true then 1 else 0) ≤ 12 ∧ 0 ≤ drV (drW v 60) (most + 1) * (if decide (1 < m) = true then 1 else 0) := by
      split <;> constructor <;> omega
    refine ws_for ct po (kr1 ct t.f_range (ea_cons (ev_mul (ec ct (d__law_draw t hc) (ea_cons (nv ct 0 rfl) (ea_cons (ev_add (nv ct 2 rfl) ev_int) ea_nil)) ⟨n, drW v 60, most + 1, b + 1, rfl, updS_same, ok1, by omega, by omega, by omega, rfl, rfl⟩) (kintB ct t.f_int (ea_cons (ev_gt (nv ct 1 rfl) ev_int) ea_nil)) (.inl ⟨by omega, by omega⟩)) ea_nil) (by omega) (by omega))
      (fun i ρ L1 => L1 = updS (updS L c (some (.lst ((lanesF m rh once (drV v 60) (drW (drW v 60) (most + 1)) i).1.map tLane)))) n (some (tW (lanesF m rh once (drV v 60) (drW (drW v 60) (most + 1)) i).2)) ∧
        ∃ a1 a2 a3 a4 a5 a6, ρ = [some (.cel n), some (I m), some (I most), some (.lst (rh.map I)), some (B once), some (.cel c), some (I (drV v 60)), a1, a2, a3, a4, a5, a6]) ⟨by rw [updS_updS]; rfl, _, _, _, _, _, _, rfl⟩ (fun i x ρ' L1 hx hw => ?_) (fun ρ' L1 hw => ?_)
    · obtain ⟨rfl, a1, a2, a3, a4, a5, a6, rfl⟩ := hw
      obtain ⟨hi, rfl⟩ := rangeT_get' hx
      have h2m : 2 ≤ m := by
        rcases Int.lt_or_le 1 m with h | h
        · omega
        · rw [if_neg (by simp; omega)] at hi; omega
      obtain ⟨l1, l2, l3⟩ := lanesF_ok (once := once) (base := drV v 60) h2m hr ok2 i
      have hi12 : i < 12 := by omega
      generalize hp : lanesF m rh once (drV v 60) (drW (drW v 60) (most + 1)) i = p at *
      have k1 := drW_ok l3 (s := m) (by omega)
      have k2 := drW_ok k1 (s := m - 1) (by omega)
      have hr0 := hr.1
      have hr6 := hr.2.1
      have k3 := drW_ok k2 (s := (rh.length : Int)) (by omega)
      have k4 := drW_ok k3 (s := (fars.length : Int)) (by decide)
      refine ⟨_, _, (tn ct 7), ?_⟩
      refine wset ct 8 (ev_add ev_int (ec ct (d__law_draw t hc) (ea_cons (nv ct 0 rfl) (ea_cons (nv ct 1 rfl) ea_nil)) ⟨n, p.2, m, _, rfl, updS_same, l3, by omega, by omega, by omega, rfl, rfl⟩)) ?_
      refine wset ct 9 (ev_add (ev_mod (ev_add (nv ct 8 rfl) (ec ct (d__law_draw t hc) (ea_cons (nv ct 0 rfl) (ea_cons (ev_sub (nv ct 1 rfl) ev_int) ea_nil)) ⟨n, _, m - 1, _, rfl, updS_same, k1, by omega, by omega, by omega, rfl, rfl⟩)) (nv ct 1 rfl) (by omega)) ev_int) ?_
      have hrI : oneV (drW (drW p.2 m) (m - 1)) (rh.map I) = I (oneI (drW (drW p.2 m) (m - 1)) rh) := oneV_I hr0
      refine wset ct 10 (Ev.eq (ec ct (d__law_one t hc) (ea_cons (nv ct 0 rfl) (ea_cons (nv ct 3 rfl) ea_nil)) ⟨n, _, rh.map I, _, rfl, updS_same, k2, by omega, by rw [List.length_map]; exact hr0, by rw [List.length_map]; omega, rfl, rfl⟩) (congrArg R.v hrI)) ?_
      refine wset ct 11 (Ev.eq (ec ct (d__law_one t hc) (ea_cons (nv ct 0 rfl) (ea_cons (Ev.fz (ev_lst (ea_cons ev_int (ea_cons ev_int (ea_cons ev_int (ea_cons (ev_neg ev_int) (ea_cons ev_int (ea_cons (ev_neg (ev_pow ev_int ev_int ⟨by decide, by decide, by decide⟩)) ea_nil)))))) (by decide) rfl)) ea_nil)) ⟨n, drW (drW (drW p.2 m) (m - 1)) ((rh.map I).length : Int), fars.map I, _, rfl, updS_same, by rw [List.length_map]; exact k3, by omega, by decide, by decide, rfl, rfl⟩) (congrArg R.v (oneV_I (by decide)))) ?_
      refine wset ct 12 (ec ct (d__law_draw t hc) (ea_cons (nv ct 0 rfl) (ea_cons ev_int ea_nil)) ⟨n, drW (drW (drW (drW p.2 m) (m - 1)) ((rh.map I).length : Int)) ((fars.map I).length : Int), 60, _, rfl, updS_same, by rw [List.length_map, List.length_map]; exact k4, by omega, by decide, by decide, rfl, rfl⟩) ?_
      rw [List.length_map, List.length_map]
      simp only [updS_updS]
      have fin : ∀ night : Int, night = (if once = true then drV v 60 else drV (drW (drW (drW (drW p.2 m) (m - 1)) (rh.length : Int)) (fars.length : Int)) 60) →
          some (tLane ⟨1 + drV p.2 m, (1 + drV p.2 m + drV (drW p.2 m) (m - 1)) % m + 1, oneI (drW (drW p.2 m) (m - 1)) rh, night + oneI (drW (drW p.2 m) (m - 1)) rh * oneI (drW (drW (drW p.2 m) (m - 1)) (rh.length : Int)) fars⟩) = some (tLane (lane1 m rh once (drV v 60) p.2).1) := fun night e => by rw [e]; rfl
      have hlt : ((p.1.map tLane).length : Nat) ≤ 100000 := by rw [List.length_map]; omega
      have hrm := hr.2.2 _ (oneI_mem (w := drW (drW p.2 m) (m - 1)) hr0)
      have hlc : ∀ y : Option T, updS (updS L c (some (T.lst (p.1.map tLane)))) n y c = some (T.lst (p.1.map tLane)) := fun y => by rw [updS_ne hnc.symm, updS_same]
      have hst : ∀ (night : Int) (_ : night = (if once = true then drV v 60 else drV (drW (drW (drW (drW p.2 m) (m - 1)) (rh.length : Int)) (fars.length : Int)) 60)),
          updS (updS (updS L c (some (T.lst (p.1.map tLane)))) n (some (tW (lane1 m rh once (drV v 60) p.2).2))) c (some (T.lst (p.1.map tLane ++ [tLane ⟨1 + drV p.2 m, (1 + drV p.2 m + drV (drW p.2 m) (m - 1)) % m + 1, oneI (drW (drW p.2 m) (m - 1)) rh, night + oneI (drW (drW p.2 m) (m - 1)) rh * oneI (drW (drW (drW p.2 m) (m - 1)) (rh.length : Int)) fars⟩]))) =
          updS (updS L c (some (.lst ((lanesF m rh once (drV v 60) (drW (drW v 60) (most + 1)) (i + 1)).1.map tLane)))) n (some (tW (lanesF m rh once (drV v 60) (drW (drW v 60) (most + 1)) (i + 1)).2)) := fun night e => by
        rw [updS_comm hnc, updS_updS]
        have e1 : (lanesF m rh once (drV v 60) (drW (drW v 60) (most + 1)) (i + 1)) = (p.1 ++ [(lane1 m rh once (drV v 60) p.2).1], (lane1 m rh once (drV v 60) p.2).2) := by rw [← hp]; rfl
        rw [e1, List.map_append]
        have e2 := Option.some.inj (fin night e)
        rw [e2]; rfl
      refine ws_if (eb_val (nv ct 4 rfl)) (fun h => ?_) (fun h => ?_)
      · refine wset ct 12 (nv ct 6 rfl) (ws_nil ?_)
        refine ws_expr (eapp (nv ct 5 rfl) (ev_tup (ea_cons (nv ct 8 rfl) (ea_cons (nv ct 9 rfl) (ea_cons (nv ct 10 rfl) (ea_cons (ev_add (nv ct 12 rfl) (ev_mul (nv ct 10 rfl) (nv ct 11 rfl) (.inl ⟨by omega, by omega⟩))) ea_nil)))) (by decide) rfl) (hlc _) (hlc _) hlt) ?_
        exact ws_nil ⟨hst _ (by rw [if_pos h]), _, _, _, _, _, _, rfl⟩
      · refine ws_nil ?_
        refine ws_expr (eapp (nv ct 5 rfl) (ev_tup (ea_cons (nv ct 8 rfl) (ea_cons (nv ct 9 rfl) (ea_cons (nv ct 10 rfl) (ea_cons (ev_add (nv ct 12 rfl) (ev_mul (nv ct 10 rfl) (nv ct 11 rfl) (.inl ⟨by omega, by omega⟩))) ea_nil)))) (by decide) rfl) (hlc _) (hlc _) hlt) ?_
        exact ws_nil ⟨hst _ (by rw [if_neg (by rw [h]; decide)]), _, _, _, _, _, _, rfl⟩
    · obtain ⟨rfl, a1, a2, a3, a4, a5, a6, rfl⟩ := hw
      refine ws_ret (nv ct 5 rfl) (exit_cellU hL hcl ?_)
      rw [len_range]; rfl
theorem d__law_parts (t : Txt K mg) (hc : Calm0 CX) : DefT CX P w K mg base 4 "_law_parts" ["_law_well_here", "_law_n", "_law_most", "_law_rhythms"] R_parts := by
  refine t.t__law_parts.def sc__law_parts hc b0__law_parts (fun ts L r L' h => ?_) (fun X ct po ts L r L' h => ?_)
  · obtain ⟨_, _, _, _, _, _, rfl, _⟩ := h; rfl
  · obtain ⟨n, v, b, m, most, rh, rfl, hL, ok, hb, m1, m8, o0, o12, hr, rfl, rfl⟩ := h
    have ok1 := drW_ok ok (s := 4) (by decide)
    obtain ⟨_, _, ok2⟩ := stsF_ok (m := m) (most := most) (rh := rh) (once := decide (0 < drV v 4)) m1 o0 o12 hr ok1
    refine wset ct 4 (Ev.fz (ec ct (d__law_streets t hc) (ea_cons (nv ct 0 rfl) (ea_cons (nv ct 1 rfl) (ea_cons (nv ct 2 rfl) (ea_cons (nv ct 3 rfl) (ea_cons (ev_gt (ec ct (d__law_draw t hc) (ea_cons (nv ct 0 rfl) (ea_cons ev_int ea_nil)) ⟨n, v, 4, b, rfl, hL, ok, by omega, by decide, by decide, rfl, rfl⟩) ev_int) ea_nil)))))
      ⟨n, drW v 4, b + 1, m, most, rh, decide (0 < drV v 4), rfl, updS_same, ok1, by omega, m1, m8, o0, o12, hr, rfl, rfl⟩)) ?_
    rw [updS_updS]
    refine wset ct 5 (Ev.fz (ev_lst ea_nil (by decide) rfl)) ?_
    generalize hq : stsF m most rh (decide (0 < drV v 4)) (drW v 4) = q at *
    refine ws_for ct po (ei_eq (kr2 ct t.f_range (ea_cons ev_int (ea_cons (ev_add (nv ct 1 rfl) ev_int) ea_nil)) (by omega) (by omega) (by omega) (by omega)) (by rw [show (m + 1 - 2) = m - 1 by omega]))
      (fun i ρ L1 => L1 = updS L n (some (tW q.2)) ∧ ∃ a1 a2 a3 a4 a5 a6 a7, ρ = [some (.cel n), some (I m), some (I most), some (.lst (rh.map I)), some (.lst (q.1.map tLane)), some (.lst ((pairsTo i).map tPair)), a1, a2, a3, a4, a5, a6, a7]) ⟨rfl, _, _, _, _, _, _, _, rfl⟩ (fun i x ρ' L1 hx hw => ?_) (fun ρ' L1 hw => ?_)
    · obtain ⟨rfl, a1, a2, a3, a4, a5, a6, a7, rfl⟩ := hw
      obtain ⟨hi, rfl⟩ := rangeT_get' hx
      refine ⟨_, _, (tn ct 6), ?_⟩
      have hpl := pairsTo_len (m := i) (by omega)
      refine wset ct 5 (Ev.fz (ev_cat (nv ct 5 rfl) (Ev.fz (elc0 (own := [("_law_p", 7)]) (xs := rangeT 1 (i + 1)) (f := I) ct (by decide +kernel) (ei_eq (kr2 ct t.f_range (ea_cons ev_int (ea_cons (nv ct 6 rfl) ea_nil)) (by omega) (by omega) (by omega) (by omega)) (by rw [show ((2 : Int) + (i : Int) - 1).toNat = i + 1 by omega])) (by rw [length_rangeT]; omega) (fun x2 hx2 _ c2 => (tn c2 7)) (fun x2 hx2 _ c2 => (ev_tup (ea_cons (nv c2 7 rfl) (ea_cons (nv c2 6 rfl) ea_nil)) (by decide) rfl)))) (.inl rfl) (.inl rfl) (by rw [List.length_map, List.length_map, length_rangeT]; omega))) ?_
      have e : (pairsTo i).map tPair ++ (TL.rangeT 1 (i + 1)).map (fun x2 => T.tup [I x2, I (2 + (i : Int))]) = (pairsTo (i + 1)).map tPair := by
        rw [pairsTo_succ, List.map_append, List.map_map]
        rfl
      rw [e]
      exact ws_nil ⟨rfl, _, _, _, _, _, _, _, rfl⟩
    · obtain ⟨rfl, a1, a2, a3, a4, a5, a6, a7, rfl⟩ := hw
      rw [len_range]
      have hps := pairsTo_len (m := (m - 1).toNat) (by omega)
      have ho := oneI_oftens q.2
      refine wset ct 8 (Ev.eq (ec ct (d__law_one t hc) (ea_cons (nv ct 0 rfl) (ea_cons (Ev.fz (ev_lst (ea_cons ev_int (ea_cons ev_int (ea_cons ev_int ea_nil))) (by decide) rfl)) ea_nil)) ⟨n, q.2, oftens.map I, _, rfl, updS_same, ok2, by omega, by decide, by decide, rfl, rfl⟩) (congrArg R.v (oneV_I (by decide)))) ?_
      rw [updS_updS, List.length_map]
      have ok3 := drW_ok ok2 (s := (oftens.length : Int)) (by decide)
      refine wpick (own := [("_law_pair", 10)]) (f := tPair) (xs := pairsTo (m - 1).toNat) (s := 2 * oneI q.2 oftens) (v := drW q.2 (oftens.length : Int)) ct 9 (ei_list (nv ct 5 rfl)) updS_same (by omega) (fun x hx _ _ c2 => tn c2 10) (fun i x hx Y c2 => ec_one (eb_eqI (ec c2 (d__law_draw t hc) (ea_cons (nv c2 0 rfl) (ea_cons (ev_mul ev_int (nv c2 8 rfl) (.inl ⟨by decide, by decide⟩)) ea_nil)) ⟨n, _, _, _, rfl, updS_same, drN_ok ok3 (by omega) i, ?_, by omega, by omega, rfl, rfl⟩) ev_int)) (fun x hx _ _ c2 => (nv c2 10 rfl)) ?_
      · have := (List.getElem?_eq_some_iff.mp hx).1
        omega
      rw [updS_updS]
      have ok4 := drN_ok ok3 (s := 2 * oneI q.2 oftens) (by omega) (pairsTo (m - 1).toNat).length
      refine wpick (own := [("_law_place", 12)]) (f := I) (xs := rangeT 1 m.toNat) (s := oneI q.2 oftens) (v := drN (drW q.2 (oftens.length : Int)) (2 * oneI q.2 oftens) (pairsTo (m - 1).toNat).length) ct 11 (ei_eq (kr2 ct t.f_range (ea_cons ev_int (ea_cons (ev_add (nv ct 1 rfl) ev_int) ea_nil)) (by omega) (by omega) (by omega) (by omega)) (by rw [show (m + 1 - 1) = m by omega])) updS_same (by rw [length_rangeT]; omega) (fun x hx _ _ c2 => tn c2 12) (fun i x hx Y c2 => ec_one (eb_eqI (ec c2 (d__law_draw t hc) (ea_cons (nv c2 0 rfl) (ea_cons (nv c2 8 rfl) ea_nil)) ⟨n, _, _, _, rfl, updS_same, drN_ok ok4 (by omega) i, ?_, by omega, by omega, rfl, rfl⟩) ev_int)) (fun x hx _ _ c2 => (nv c2 12 rfl)) ?_
      · have := (List.getElem?_eq_some_iff.mp hx).1
        rw [length_rangeT] at this
        omega
      rw [updS_updS, length_rangeT]
      refine ws_ret (Ev.eq (ev_tup (ea_cons (nv ct 1 rfl) (ea_cons (nv ct 4 rfl) (ea_cons (nv ct 9 rfl) (ea_cons (nv ct 11 rfl) ea_nil)))) (by decide) rfl) ?_) (exit_upd hL ?_)
      · unfold partsF; rw [hq]; rfl
      · unfold partsF; rw [hq]
theorem d__law_made (t : Txt K mg) (hc : Calm0 CX) : DefT CX P w K mg base 7 "_law_made" ["_law_parts_here"] (R_made (aT K)) := by
  refine t.t__law_made.def sc__law_made hc b0__law_made (fun ts L r L' h => ?_) (fun X ct po ts L r L' h => ?_)
  · obtain ⟨_, rfl, _⟩ := h; rfl
  · obtain ⟨q, rfl, ok, rfl, rfl⟩ := h
    refine ws_ret (emk (ns := twNs) ct (m_Town t hc) (ea_cons (ev_ixT (nv ct 0 rfl) ev_int rfl) (ea_cons (Ev.fz (klistL ct t.f_list (ea_cons (ev_ixT (nv ct 0 rfl) ev_int rfl) ea_nil) (.inl rfl))) ea_nil)) (ek_cons (Ev.fz (klistL ct t.f_list (ea_cons (ev_ixT (nv ct 0 rfl) ev_int rfl) ea_nil) (.inl rfl))) (ek_cons (Ev.fz (klistL ct t.f_list (ea_cons (ev_ixT (nv ct 0 rfl) ev_int rfl) ea_nil) (.inl rfl))) ek_nil)) (fun n hn => ?_)) exit_same
    exact ⟨_, ⟨n, q, _, _, rfl, ok, .inl rfl, .inl rfl, updS_same, rfl, rfl⟩, updS_same, fun m u hm => by rw [updS_updS]; exact updS_drop hn m u hm, hn⟩
end
section
variable {CX : CXT} {P : Program} {w : World} {K : PySem.W.Frag} {mg : Str → Option Value} {base : Heap}
theorem d__law_cell_at (t : Txt K mg) (hc : Calm0 CX) : DefT CX P w K mg base 1 "_law_cell_at" ["_law_script", "_law_k"] R_cell_at := by
  refine t.t__law_cell_at.def sc__law_cell_at hc b0__law_cell_at (fun ts L r L' h => ?_) (fun X ct po ts L r L' h => ?_)
  · obtain ⟨_, _, rfl, _⟩ := h; rfl
  · obtain ⟨ns, k, rfl, h0, rfl, rfl⟩ := h
    refine ws_if (eb_lt (nv ct 1 rfl) (klen ct t.f_len (ea_cons (nv ct 0 rfl) ea_nil) (.inr (.inl rfl)))) (fun h => ?_) (fun h => ?_)
    · have hk := of_decide_eq_true h
      rw [List.length_map] at hk
      have hlt : k.toNat < ns.length := by omega
      refine ws_ret (ev_ixL (nv ct 0 rfl) (nv ct 1 rfl) (.inr (.inl rfl)) ?_) exit_same
      unfold cellAt
      rw [List.getD_eq_getElem?_getD, List.getElem?_eq_getElem hlt]
      exact atI_map h0 (List.getElem?_eq_getElem hlt)
    · have hk := of_decide_eq_false h
      rw [List.length_map] at hk
      refine ws_nil (ws_ret (Ev.eq ev_int ?_) exit_same)
      unfold cellAt
      rw [List.getD_eq_getElem?_getD, List.getElem?_eq_none (by omega)]; rfl
end
section
variable {CX : CXT} {P : Program} {w : World} {K : PySem.W.Frag} {mg : Str → Option Value} {base : Heap}
theorem d__law_whole (t : Txt K mg) (hc : Calm0 CX) : DefT CX P w K mg base 1 "_law_whole" ["_law_parts_here"] R_lwhole := by
  refine t.t__law_whole.def sc__law_whole hc b0__law_whole (fun ts L r L' h => ?_) (fun X ct po ts L r L' h => ?_)
  · obtain ⟨_, rfl, _⟩ := h; rfl
  · obtain ⟨q, rfl, ok, rfl, rfl⟩ := h
    obtain ⟨ds, hds⟩ := whole_first ok
    have h12 := ok.1
    refine ws_ret (ev_ixL (ts := ((TL.rangeT 1 60).filter (partB q.st)).map I) (Ev.fz (elc (own := [("_law_d", 1)]) (xs := TL.rangeT 1 60) (f := I) (pf := partB q.st) (gf := I) ct (by decide +kernel) (ei_eq (kr2 ct t.f_range (ea_cons ev_int (ea_cons ev_int ea_nil)) (by decide) (by decide) (by decide) (by decide)) rfl) (by rw [length_rangeT]; decide) (fun x2 hx2 _ c2 => (tn c2 1)) (fun x2 hx2 _ c2 => ec_one (EvB.eq (eb_eq c2 (Ev.fz (elc (own := [("_law_one_here", 2)]) (xs := q.st) (f := tLane) (pf := fun l => !decide (x2 % l.r = 0)) (gf := tLane) c2 (by decide +kernel) (ei_list (ev_ixT (nv c2 0 rfl) ev_int rfl)) (by omega) (fun x3 hx3 _ c3 => (tn c3 2)) (fun x3 hx3 _ c3 => ec_one (eb_neI (ev_mod (nv c3 1 rfl) (ev_ixT (nv c3 2 rfl) ev_int rfl) ?pos) ev_int)) (fun x3 hx3 _ _ c3 => (nv c3 2 rfl)))) (Ev.fz (ev_lst ea_nil (by decide) rfl)) (sh_lst (shl_map sh_lane _)).shp (sh_lst (k := 0) shl_nil).shp) ?eq)) (fun x2 hx2 _ _ c2 => (nv c2 1 rfl)))) ev_int (.inl rfl) (by rw [hds]; exact atI_map (by omega) rfl)) exit_same
    case pos => have := (ok.2 _ hx3).1; omega
    case eq =>
      exact none_left q.st (fun l => decide (x2 % l.r = 0))
end
section
variable {CX : CXT} {P : Program} {w : World} {K : PySem.W.Frag} {mg : Str → Option Value} {base : Heap}
theorem d__law_is_home (t : Txt K mg) (hc : Calm0 CX) : DefT CX P w K mg base 1 "_law_is_home" ["_law_parts_here", "_law_day"] R_lhome := by
  refine t.t__law_is_home.def sc__law_is_home hc b0__law_is_home (fun ts L r L' h => ?_) (fun X ct po ts L r L' h => ?_)
  · obtain ⟨_, _, _, _, rfl, _⟩ := h; rfl
  · obtain ⟨x, ls, rest, d, rfl, ok, rfl, rfl⟩ := h
    have h12 := ok.1
    refine ws_ret (Ev.eq (ev_eq ct (Ev.fz (elc (own := [("_law_one_here", 2)]) (xs := ls) (f := tLane) (pf := fun l => !turnsB l d) (gf := tLane) ct (by decide +kernel) (ei_list (ev_ixT (nv ct 0 rfl) ev_int (by exact at1 x _ rest))) (by omega) (fun x2 hx2 _ c2 => (tn c2 2)) (fun x2 hx2 _ c2 => ec_one (eb_neI (ev_mod (ev_sub (nv c2 1 rfl) (ev_ixT (nv c2 2 rfl) ev_int rfl)) (ev_ixT (nv c2 2 rfl) ev_int rfl) ?pos) ev_int)) (fun x2 hx2 _ _ c2 => (nv c2 2 rfl)))) (Ev.fz (ev_lst ea_nil (by decide) rfl)) (sh_lst (shl_map sh_lane _)).shp (sh_lst (k := 0) shl_nil).shp) ?eq) exit_same
    case pos => have := (ok.2 _ hx2).1; omega
    case eq => exact congrArg (fun z => R.v (B z)) (none_left ls fun l => turnsB l d)
end
section
variable {CX : CXT} {P : Program} {w : World} {K : PySem.W.Frag} {mg : Str → Option Value} {base : Heap}
theorem d_shows_paper (t : Txt K mg) (hc : Calm0 CX) : DefT CX P w K mg base 7 "shows_home" ["town", "paper"] (R_shows_paper (aT K)) := by
  refine t.t_shows_home.def sc_shows_home hc b0_shows_home (fun ts L r L' h => ?_) (fun X ct po ts L r L' h => ?_)
  · obtain ⟨_, _, rfl, _⟩ := h; rfl
  · obtain ⟨q, pp, rfl, h1, h2, rfl, rfl⟩ := h
    have h12 := h1.1
    cases pp with
    | one a =>
      have hA : isA "tuple" a.t = false := by rw [isA_tup a.ty]; cases a <;> rfl
      refine ws_ifT (EvW.tst (ew_or (z := true) (eb_not (eb_val (Ev.eq (kisi ct t.f_isinstance (ea_cons (nv ct 1 rfl) (ea_cons (nty ct "tuple" t.f_tuple) ea_nil)) a.ty (isA_known a.ty _ (.inr (.inr (.inl rfl))))) (congrArg (fun z => R.v (B z)) hA)))) fun h => absurd h (by decide))) ?_
      exact ws_ret ev_bl exit_same
    | lst l =>
      have hy : (tyN (T.lst (l.map At.t))).isSome = true := rfl
      have hA : isA "tuple" (T.lst (l.map At.t)) = false := by rw [isA_tup hy]; rfl
      refine ws_ifT (EvW.tst (ew_or (z := true) (eb_not (eb_val (Ev.eq (kisi ct t.f_isinstance (ea_cons (nv ct 1 rfl) (ea_cons (nty ct "tuple" t.f_tuple) ea_nil)) hy (isA_known hy _ (.inr (.inr (.inl rfl))))) (congrArg (fun z => R.v (B z)) hA)))) fun h => absurd h (by decide))) ?_
      exact ws_ret ev_bl exit_same
    | tup l =>
      by_cases h3 : l.length = 3
      · obtain ⟨w, a, b, rfl, hw, hns⟩ := h2.2.2 h3
        have oa : a.ok := h2.1 a (by simp)
        have ob : b.ok := h2.1 b (by simp)
        rw [show (Pap.tup [.aS w, a, b]).t = .tup [S w, a.t, b.t] from rfl]
        refine ws_ifF (EvB.eq (EvW.tst (ew_or (eb_not (eb_val (kisiK ct t.f_isinstance (ea_cons (nv ct 1 rfl) (ea_cons (nty ct "tuple" t.f_tuple) ea_nil)) rfl true))) fun _ => (ew_or1 (eb_neI (klenT ct t.f_len (ea_cons (nv ct 1 rfl) ea_nil)) ev_int)))) (by simp)) ?_
        have wcut : ¬ (HT.sIx [S w, a.t, b.t].length 0 (some 1) = 0 ∧ HT.sIx [S w, a.t, b.t].length [S w, a.t, b.t].length none = [S w, a.t, b.t].length) := fun h => absurd h.1 (by show ¬ ((1 : Nat) = 0); decide)
        rcases hw with rfl | rfl | rfl
        · refine ws_ifT (EvB.eq (eb_eqS (ev_ixT (nv ct 1 rfl) ev_int rfl) ev_str) (by decide +kernel)) ?_
          have hk := home_papok h1
          refine ws_ret (Ev.eq (ev_eqS (ev_reprP (pp := .tup [.aS wN, a, b]) ct t.f_repr (by decide +kernel) (ea_cons (nv ct 1 rfl) ea_nil) h2) (ev_reprP (pp := homePap q.st) ct t.f_repr (by decide +kernel) (ea_cons (Ev.eq (ec ct (d_homeT t hc) (ea_cons (nv ct 0 rfl) ea_nil) ⟨q, rfl, h1, rfl, rfl⟩) (congrArg R.v (homeT_pap q.st))) ea_nil) hk)) ?_) exit_same
          exact congrArg (fun z => R.v (B z)) (paper_nights h1 (hns rfl).1 (hns rfl).2)
        · refine ws_ifF (EvB.eq (eb_eqS (ev_ixT (nv ct 1 rfl) ev_int rfl) ev_str) (by decide +kernel)) ?_
          refine wset ct 2 (Ev.eq (ev_cutT (nv ct 1 rfl) (eo_some ev_int) eo_none wcut) (show _ = R.v (.tup ([a, b].map At.t)) from rfl)) ?_
          refine ws_if (EvB.eq (EvW.tst (ew_or (eb_neS (ev_ixT (nv ct 1 rfl) ev_int rfl) ev_str) fun _ => (ew_or1 (eb_not (eb_val (kallM (g := fun x : At => wholeT x.t 0 ((q.st.length : Int) - 1)) (l := [a, b]) ct t.f_all (ea_cons (Ev.fz (elc0 (own := [("one", 3)]) (xs := [a, b]) (f := At.t) ct (by decide +kernel) (ei_tup (nv ct 2 rfl)) (by show 2 ≤ 100000; decide) (fun x2 hx2 _ c2 => (tn c2 3)) (fun x2 hx2 _ c2 => Ev.eq (eck c2 (d_is_whole t hc) (ea_cons (nv c2 3 rfl) ea_nil) (ek_cons ev_int (ek_cons (ev_sub (klen c2 t.f_len (ea_cons (Ev.fz (e_streets c2 t hc (nv c2 0 rfl))) ea_nil) (.inl rfl)) ev_int) ek_nil)) ⟨x2.t, 0, _, rfl, x2.ty, rfl, rfl⟩) (by rw [List.length_map])))) ea_nil))))))) (y := !(wholeT a.t 0 ((q.st.length : Int) - 1) && wholeT b.t 0 ((q.st.length : Int) - 1))) ?e1) (fun h => ?_) (fun h => ?_)
          case e1 =>
            show ((!decide (wV = ("never" : Str))) || !([a, b].all fun x : At => wholeT x.t 0 ((q.st.length : Int) - 1))) = _
            rw [decide_eq_true (show wV = ("never" : Str) from rfl)]
            simp only [List.all_cons, List.all_nil, Bool.and_true, Bool.not_true, Bool.false_or]
          · refine ws_ret (Ev.eq ev_bl ?_) exit_same
            exact congrArg (fun z => R.v (B z)) (papB_never_no (by have := congrArg (fun z => !z) h; simpa only [Bool.not_not, Bool.not_true] using this)).symm
          · have h' : (wholeT a.t 0 ((q.st.length : Int) - 1) && wholeT b.t 0 ((q.st.length : Int) - 1)) = true := by simpa using h
            rw [Bool.and_eq_true] at h'
            obtain ⟨x, rfl, x1, x2⟩ := at_whole h'.1
            obtain ⟨y, rfl, y1, y2⟩ := at_whole h'.2
            have gx : q.st[x.toNat]? = some (q.st.getD x.toNat L00) := by rw [List.getD_eq_getElem?_getD, List.getElem?_eq_getElem (show x.toNat < q.st.length by omega)]; rfl
            have gy : q.st[y.toNat]? = some (q.st.getD y.toNat L00) := by rw [List.getD_eq_getElem?_getD, List.getElem?_eq_getElem (show y.toNat < q.st.length by omega)]; rfl
            have hv : R_never_both (aT K) [tTw (aT K) q, I x, I y] L' (.v (B (tornB q.st x.toNat y.toNat))) L' := ⟨q, x.toNat, y.toNat, _, _, by rw [Int.toNat_of_nonneg x1, Int.toNat_of_nonneg y1], h1, gx, gy, rfl, rfl⟩
            refine ws_nil (ws_ret (Ev.eq (ev_and (ev_neI (ev_ixT (nv ct 2 rfl) ev_int rfl) (ev_ixT (nv ct 2 rfl) ev_int rfl)) fun _ => (ev_bool1 (ec ct (d_never_both t hc) (ea_cons (nv ct 0 rfl) (ea_cons (ev_ixT (nv ct 2 rfl) ev_int rfl) (ea_cons (ev_ixT (nv ct 2 rfl) ev_int rfl) ea_nil))) hv))) ?_) exit_same)
            exact congrArg (fun z => R.v (B z)) (papB_never_yes x1 x2 y1 y2).symm
        · refine ws_ifF (EvB.eq (eb_eqS (ev_ixT (nv ct 1 rfl) ev_int rfl) ev_str) (by decide +kernel)) ?_
          refine wset ct 2 (ev_cutT (nv ct 1 rfl) (eo_some ev_int) eo_none wcut) ?_
          have hwv : (!decide (wH = ("never" : Str))) = true := by decide +kernel
          refine ws_ifT (EvW.tst (ew_or (z := true) (EvB.eq (eb_neS (ev_ixT (nv ct 1 rfl) ev_int rfl) ev_str) hwv) fun h => absurd h (by decide))) ?_
          refine ws_ret (Ev.eq ev_bl ?_) exit_same
          exact congrArg (fun z => R.v (B z)) papB_home.symm
      · rw [show (Pap.tup l).t = .tup (l.map At.t) from rfl, papZ_len h3]
        refine ws_ifT (EvB.eq (EvW.tst (ew_or (eb_not (eb_val (kisiK ct t.f_isinstance (ea_cons (nv ct 1 rfl) (ea_cons (nty ct "tuple" t.f_tuple) ea_nil)) rfl true))) fun _ => (ew_or1 (eb_neI (klenT ct t.f_len (ea_cons (nv ct 1 rfl) ea_nil)) ev_int)))) ?_) (ws_ret ev_bl exit_same)
        rw [List.length_map]
        have : ¬ ((l.length : Int) = 3) := by omega
        rw [decide_eq_false this]; rfl
theorem d_due_paper (t : Txt K mg) (hc : Calm0 CX) : DefT CX P w K mg base 7 "_law_due" ["_law_parts_here", "_law_paper"] R_due_paper := by
  refine t.t__law_due.def sc__law_due hc b0__law_due (fun ts L r L' h => ?_) (fun X ct po ts L r L' h => ?_)
  · obtain ⟨_, _, rfl, _⟩ := h; rfl
  · obtain ⟨q, pp, rfl, h1, h2, rfl, rfl⟩ := h
    have h12 := h1.1
    cases pp with
    | one a =>
      have hA : isA "tuple" a.t = false := by rw [isA_tup a.ty]; cases a <;> rfl
      refine ws_ifT (EvW.tst (ew_or (z := true) (eb_not (eb_val (Ev.eq (kisi ct t.f_isinstance (ea_cons (nv ct 1 rfl) (ea_cons (nty ct "tuple" t.f_tuple) ea_nil)) a.ty (isA_known a.ty _ (.inr (.inr (.inl rfl))))) (congrArg (fun z => R.v (B z)) hA)))) fun h => absurd h (by decide))) ?_
      exact ws_ret ev_bl exit_same
    | lst l =>
      have hy : (tyN (T.lst (l.map At.t))).isSome = true := rfl
      have hA : isA "tuple" (T.lst (l.map At.t)) = false := by rw [isA_tup hy]; rfl
      refine ws_ifT (EvW.tst (ew_or (z := true) (eb_not (eb_val (Ev.eq (kisi ct t.f_isinstance (ea_cons (nv ct 1 rfl) (ea_cons (nty ct "tuple" t.f_tuple) ea_nil)) hy (isA_known hy _ (.inr (.inr (.inl rfl))))) (congrArg (fun z => R.v (B z)) hA)))) fun h => absurd h (by decide))) ?_
      exact ws_ret ev_bl exit_same
    | tup l =>
      by_cases h3 : l.length = 3
      · obtain ⟨w, a, b, rfl, hw, hns⟩ := h2.2.2 h3
        have oa : a.ok := h2.1 a (by simp)
        have ob : b.ok := h2.1 b (by simp)
        rw [show (Pap.tup [.aS w, a, b]).t = .tup [S w, a.t, b.t] from rfl]
        have shw : Sh (S w) (.str w) 0 := ⟨by unfold pd pdV; rfl, by rcases hw with rfl | rfl | rfl <;> decide +kernel, Nat.zero_le _⟩
        have sh2 : Sh (T.tup [S "nights", S "never"]) (.tuple [.str "nights", .str "never"]) 1 := sh_tup (shl_cons sh_S (shl_cons sh_S shl_nil))
        have hwi : inT (S w) (T.tup [S "nights", S "never"]) = !decide (w = wH) := by
          show (eqT (S "nights") (S w) || (eqT (S "never") (S w) || false)) = _
          rcases hw with rfl | rfl | rfl <;> rw [eqT_S, eqT_S] <;> decide +kernel
        refine ws_if (EvB.eq (EvW.tst (ew_or (eb_not (eb_val (kisiK ct t.f_isinstance (ea_cons (nv ct 1 rfl) (ea_cons (nty ct "tuple" t.f_tuple) ea_nil)) rfl true))) fun _ => (ew_or (eb_neI (klenT ct t.f_len (ea_cons (nv ct 1 rfl) ea_nil)) ev_int) fun _ => (ew_or1 (eb_ninTt ct (ev_ixT (nv ct 1 rfl) ev_int rfl) (ev_tup (ea_cons ev_str (ea_cons ev_str ea_nil)) (by decide) rfl) shw.shp sh2.shp))))) (y := decide (w = wH)) (by rw [hwi]; simp)) (fun h => ?_) (fun h => ?_)
        · have e := of_decide_eq_true h
          subst e
          refine ws_ret (Ev.eq ev_bl ?_) exit_same
          exact congrArg (fun z => R.v (B z)) papB_home.symm
        have hnh : w ≠ wH := of_decide_eq_false h
        have wcut : ¬ (HT.sIx [S w, a.t, b.t].length 0 (some 1) = 0 ∧ HT.sIx [S w, a.t, b.t].length [S w, a.t, b.t].length none = [S w, a.t, b.t].length) := fun h => absurd h.1 (by show ¬ ((1 : Nat) = 0); decide)
        have okab : ∀ x ∈ [a, b].filter (fun x => !x.int), x.ok := fun x hx => by
          have := (List.mem_filter.mp hx).1
          rcases List.mem_cons.mp this with rfl | this
          · exact oa
          · rw [List.mem_singleton.mp this]; exact ob
        refine ws_nil ?_
        refine ws_if (EvB.eq (eb_ne ct (Ev.fz (elc (own := [("_law_one_here", 2)]) (xs := [a, b]) (f := At.t) (pf := fun x => !x.int) (gf := At.t) ct (by decide +kernel) (ei_tup (Ev.eq (ev_cutT (nv ct 1 rfl) (eo_some ev_int) eo_none wcut) (show _ = R.v (.tup ([a, b].map At.t)) from rfl))) (by show 2 ≤ 100000; decide) (fun x2 hx2 _ c2 => (tn c2 2)) (fun x2 hx2 _ c2 => ec_one (EvB.eq (EvW.tst (ew_or (eb_not (eb_val (kisi c2 t.f_isinstance (ea_cons (nv c2 2 rfl) (ea_cons (nty c2 "int" t.f_int) ea_nil)) x2.ty (isA_known x2.ty _ (.inl rfl))))) fun _ => (ew_or1 (eb_val (kisi c2 t.f_isinstance (ea_cons (nv c2 2 rfl) (ea_cons (nty c2 "bool" t.f_bool) ea_nil)) x2.ty (isA_known x2.ty _ (.inr (.inl rfl)))))))) (at_test x2))) (fun x2 hx2 _ _ c2 => (nv c2 2 rfl)))) (Ev.fz (ev_lst ea_nil (by decide) rfl)) (sh_lst (ats_sh okab)).shp (sh_lst (k := 0) shl_nil).shp) (congrArg (fun z => !z) (ats_empty okab))) (fun h => ?_) (fun h => ?_)
        · refine ws_ret (Ev.eq ev_bl ?_) exit_same
          refine congrArg (fun z => R.v (B z)) (papB_notint ?_).symm
          cases ha : a.int with
          | false => rfl
          | true =>
            cases hb : b.int with
            | false => rfl
            | true =>
              simp [List.filter_cons, ha, hb] at h
        · have hab : a.int = true ∧ b.int = true := by
            cases ha : a.int with
            | false => simp [List.filter_cons, ha] at h
            | true =>
              cases hb : b.int with
              | false => simp [List.filter_cons, ha, hb] at h
              | true => exact ⟨rfl, rfl⟩
          obtain ⟨x, rfl⟩ : ∃ x, a = .aI x := by
            cases a with
            | aI x => exact ⟨x, rfl⟩
            | aB _ => cases hab.1
            | aN => cases hab.1
            | aS _ => cases hab.1
          obtain ⟨y, rfl⟩ : ∃ y, b = .aI y := by
            cases b with
            | aI y => exact ⟨y, rfl⟩
            | aB _ => cases hab.2
            | aN => cases hab.2
            | aS _ => cases hab.2
          refine ws_nil ?_
          refine ws_asg (nv ct 1 rfl) (tg_tup ct (tgs_cons (tn ct 3) (tgs_cons (tn ct 2) (tgs_cons (tn ct 4) tgs_nil))) rfl) ?_
          rcases hw with rfl | rfl | rfl
          · refine ws_ifT (EvB.eq (eb_eqS (nv ct 3 rfl) ev_str) (by decide +kernel)) ?_
            refine wlc1 (own := [("_law_day", 6)]) (xs := TL.rangeT 0 60) (f := I) (pf := homeB q.st) (gf := I) ct 5 (ei_eq (kr1 ct t.f_range (ea_cons ev_int ea_nil) (by decide) (by decide)) rfl) (by rw [length_rangeT]; decide) (fun x2 hx2 _ c2 => (tn c2 6)) (fun x2 hx2 _ c2 => ec_one (eb_val (ec c2 (d__law_is_home t hc) (ea_cons (nv c2 0 rfl) (ea_cons (nv c2 6 rfl) ea_nil)) ⟨_, q.st, _, x2, rfl, h1, rfl, rfl⟩))) (fun x2 hx2 _ _ c2 => (nv c2 6 rfl)) ?_
            have fin : papB q.st wN (.aI x) (.aI y) = decide (homeP q.st = (wN, x, y)) := by rw [papB_int, if_pos rfl]
            show WS _ _ _ _ _
            cases ho : tornF q.st with
            | some p =>
              rw [homes60_some h1 ho]
              refine ws_ret (Ev.eq (ev_and (z := true) (ev_ne ct (nv ct 5 rfl) (Ev.fz (ev_lst ea_nil (by decide) rfl)) (sh_ints []).shp (sh_lst (k := 0) shl_nil).shp) fun h => absurd h (by rw [show (T.lst (([] : List Int).map I)) = .lst [] from rfl, (sh_lst (k := 0) shl_nil).refl]; decide)) ?_) exit_same
              refine congrArg (fun z => R.v (B z)) ?_
              show _ = papB q.st wN (.aI x) (.aI y)
              rw [fin, homeP_some ho, show (T.lst (([] : List Int).map I)) = .lst [] from rfl, (sh_lst (k := 0) shl_nil).refl]
              exact (decide_eq_false fun e => absurd (congrArg Prod.fst e) (by show ¬ (("never" : Str) = wN); decide +kernel)).symm
            | none =>
              obtain ⟨ds, hd⟩ := homes60_none h1 ho
              rw [hd]
              refine ws_ret (Ev.eq (ev_and (ev_ne ct (nv ct 5 rfl) (Ev.fz (ev_lst ea_nil (by decide) rfl)) (sh_ints (firstD q.st :: ds)).shp (sh_lst (k := 0) shl_nil).shp) fun _ => (ev_bool1 (ev_eq ct (ev_tup (ea_cons (nv ct 2 rfl) (ea_cons (nv ct 4 rfl) ea_nil)) (by decide) rfl) (ev_tup (ea_cons (ev_ixL (nv ct 5 rfl) ev_int (.inl rfl) (atI_map (l := firstD q.st :: ds) (by omega) rfl)) (ea_cons (ec ct (d__law_whole t hc) (ea_cons (nv ct 0 rfl) ea_nil) ⟨q, rfl, h1, rfl, rfl⟩) ea_nil)) (by decide) rfl) (sh_pair (x, y)).shp (sh_pair (firstD q.st, (lcmL q.st : Int))).shp))) ?_) exit_same
              refine congrArg (fun z => R.v (B z)) ?_
              show _ = papB q.st wN (.aI x) (.aI y)
              have e1 := empty_eq sh_I (firstD q.st :: ds)
              have e2 := eqT_pair (x, y) (firstD q.st, (lcmL q.st : Int))
              rw [fin, homeP_none ho, e1]
              refine (Bool.true_and _).trans (e2.trans ?_)
              refine decide_eq_decide.mpr ⟨fun e => ?_, fun e => ?_⟩
              · rw [← e]; rfl
              · exact (congrArg Prod.snd e).symm
          · refine ws_ifF (EvB.eq (eb_eqS (nv ct 3 rfl) ev_str) (by decide +kernel)) ?_
            refine wset ct 7 (klen ct t.f_len (ea_cons (ev_ixT (nv ct 0 rfl) ev_int rfl) ea_nil) (.inl rfl)) ?_
            refine ws_if (EvW.tst (ew_or (eb_eqI (nv ct 2 rfl) (nv ct 4 rfl)) fun _ => (ew_or (eb_not (eb_leltI ev_int (nv ct 2 rfl) fun _ => (nv ct 7 rfl))) fun _ => (ew_or1 (eb_not (eb_leltI ev_int (nv ct 4 rfl) fun _ => (nv ct 7 rfl))))))) (fun h => ?_) (fun h => ?_)
            · refine ws_ret (Ev.eq ev_bl ?_) exit_same
              refine congrArg (fun z => R.v (B z)) ?_
              show _ = papB q.st wV (.aI x) (.aI y)
              rw [papB_int, if_neg (by decide +kernel), if_pos rfl]
              rw [List.length_map] at h
              generalize decide (x = y) = e1 at *
              generalize decide (0 ≤ x) = e2 at *
              generalize decide (0 ≤ y) = e3 at *
              generalize decide (x < (q.st.length : Int)) = e4 at *
              generalize decide (y < (q.st.length : Int)) = e5 at *
              revert h
              generalize tornB q.st x.toNat y.toNat = e6
              revert e1 e2 e3 e4 e5 e6
              decide
            · rw [List.length_map] at h
              have hh : ¬ x = y ∧ (0 ≤ x ∧ x < (q.st.length : Int)) ∧ 0 ≤ y ∧ y < (q.st.length : Int) := by simpa [and_assoc] using h
              obtain ⟨hxy, ⟨x1, x2⟩, y1, y2⟩ := hh
              have hi : x.toNat < q.st.length := by omega
              have hj : y.toNat < q.st.length := by omega
              have ok2 : StOk [q.st[x.toNat], q.st[y.toNat]] := ⟨by show 2 ≤ 12; decide, fun l hl => by
                rcases List.mem_cons.mp hl with rfl | hl
                · exact h1.2 _ (List.getElem_mem hi)
                · rw [List.mem_singleton.mp hl]; exact h1.2 _ (List.getElem_mem hj)⟩
              refine ws_nil ?_
              refine wset ct 8 (ev_tup (ea_cons (ev_ixT (nv ct 0 rfl) ev_int rfl) (ea_cons (Ev.fz (ev_lst (ea_cons (ev_ixL (ev_ixT (nv ct 0 rfl) ev_int rfl) (nv ct 2 rfl) (.inl rfl) (atI_map x1 (List.getElem?_eq_getElem hi))) (ea_cons (ev_ixL (ev_ixT (nv ct 0 rfl) ev_int rfl) (nv ct 4 rfl) (.inl rfl) (atI_map y1 (List.getElem?_eq_getElem hj))) ea_nil)) (by decide) rfl)) ea_nil)) (by decide) rfl) ?_
              refine ws_ret (Ev.eq (ev_eq ct (Ev.fz (elc (own := [("_law_day", 6)]) (xs := TL.rangeT 0 60) (f := I) (pf := homeB [q.st[x.toNat], q.st[y.toNat]]) (gf := I) ct (by decide +kernel) (ei_eq (kr1 ct t.f_range (ea_cons ev_int ea_nil) (by decide) (by decide)) rfl) (by rw [length_rangeT]; decide) (fun x2 hx2 _ c2 => (tn c2 6)) (fun x2 hx2 _ c2 => ec_one (eb_val (ec c2 (d__law_is_home t hc) (ea_cons (nv c2 8 rfl) (ea_cons (nv c2 6 rfl) ea_nil)) ⟨_, [q.st[x.toNat], q.st[y.toNat]], [], x2, rfl, ok2, rfl, rfl⟩))) (fun x2 hx2 _ _ c2 => (nv c2 6 rfl)))) (Ev.fz (ev_lst ea_nil (by decide) rfl)) (sh_lst (shl_map sh_I _)).shp (sh_lst (k := 0) shl_nil).shp) ?_) exit_same
              refine congrArg (fun z => R.v (B z)) ?_
              show _ = papB q.st wV (.aI x) (.aI y)
              rw [papB_never_yes x1 (by omega) y1 (by omega), decide_eq_false hxy, torn_both h1 hi hj]
              exact empty_eq sh_I _
          · exact absurd rfl hnh
      · rw [show (Pap.tup l).t = .tup (l.map At.t) from rfl, papZ_len h3]
        refine ws_ifT (EvW.tst (ew_or (eb_not (eb_val (kisiK ct t.f_isinstance (ea_cons (nv ct 1 rfl) (ea_cons (nty ct "tuple" t.f_tuple) ea_nil)) rfl true))) fun _ => (ew_or (z := true) (EvB.eq (eb_neI (klenT ct t.f_len (ea_cons (nv ct 1 rfl) ea_nil)) ev_int) (y := true) ?_) fun h => absurd h (by decide)))) (ws_ret ev_bl exit_same)
        rw [List.length_map]
        have : ¬ ((l.length : Int) = 3) := by omega
        rw [decide_eq_false this]; rfl
end

section
variable {CX : CXT} {P : Program} {w : World} {K : PySem.W.Frag} {mg : Str → Option Value} {base : Heap}
theorem d__law_papers (t : Txt K mg) (hc : Calm0 CX) : DefT CX P w K mg base 5 "_law_papers" ["_law_well_here", "_law_parts_here", "_law_told"] R_law_papers := by
  refine t.t__law_papers.def sc__law_papers hc b0__law_papers (fun ts L r L' h => ?_) (fun X ct po ts L r L' h => ?_)
  · obtain ⟨_, _, _, _, rfl, _⟩ := h; rfl
  · obtain ⟨n, v, b, q, rfl, h1, h2, h3, h4, rfl, rfl⟩ := h
    have h12 := h4.1
    rw [show homeT q.st = .tup [S (homeP q.st).1, I (homeP q.st).2.1, I (homeP q.st).2.2] from rfl]
    have hlen : ((q.st.map tLane).length : Int) = (q.st.length : Int) := by rw [List.length_map]
    have w2 := drW_ok h2 (s := (q.st.length : Int) + 1) (by omega)
    have w3 := drW_ok w2 (s := (q.st.length : Int) + 1) (by omega)
    have hi := drV_ge (w := v) (s := (q.st.length : Int) + 1) (by omega)
    have hi2 := drV_lt (w := v) (s := (q.st.length : Int) + 1) (by omega)
    have hlog : (drV v ((q.st.length : Int) + 1)).natAbs.log2 < 1920 := by
      by_cases hz : (drV v ((q.st.length : Int) + 1)).natAbs = 0
      · rw [hz]; decide
      · have : (drV v ((q.st.length : Int) + 1)).natAbs < 2 ^ 1919 := Nat.lt_of_le_of_lt (show (drV v ((q.st.length : Int) + 1)).natAbs ≤ 60 by omega) (by decide +kernel)
        have := (Nat.log2_lt hz).mpr this; omega
    refine wset ct 3 (Ev.eq (klen ct t.f_len (ea_cons (ev_ixT (nv ct 1 rfl) ev_int rfl) ea_nil) (.inl rfl)) (congrArg (fun z => R.v (I z)) hlen)) ?_
    refine wpar ct 4 5 (ea_cons (ec ct (d__law_draw t hc) (ea_cons (nv ct 0 rfl) (ea_cons (ev_add (nv ct 3 rfl) ev_int) ea_nil)) ⟨n, v, (q.st.length : Int) + 1, b, rfl, h1, h2, by omega, by omega, by omega, rfl, rfl⟩) (ea_cons (ec ct (d__law_draw t hc) (ea_cons (nv ct 0 rfl) (ea_cons (ev_add (nv ct 3 rfl) ev_int) ea_nil)) ⟨n, drW v ((q.st.length : Int) + 1), (q.st.length : Int) + 1, b + 1, rfl, updS_same, w2, by omega, by omega, by omega, rfl, rfl⟩) ea_nil)) ?_
    rw [updS_updS]
    refine ws_asg (nv ct 2 rfl) (tg_tup ct (tgs_cons (tn ct 6) (tgs_cons (tn ct 7) (tgs_cons (tn ct 8) tgs_nil))) rfl) ?_
    refine wset ct 9 (Ev.fz (ev_lst (ea_cons (nv ct 2 rfl) (ea_cons (Ev.fz (klistT ct t.f_list (ea_cons (nv ct 2 rfl) ea_nil))) (ea_cons (ev_catT (nv ct 2 rfl) (ev_tup (ea_cons ev_int ea_nil) (by decide) rfl) (by intro h; cases h) (by show 4 ≤ 100000; decide)) (ea_cons (ev_cutT (nv ct 2 rfl) eo_none (eo_some ev_int) (fun h => absurd h.2 (by show ¬ ((2 : Nat) = 3); decide))) (ea_cons (ev_tup (ea_cons (nv ct 6 rfl) (ea_cons (nv ct 8 rfl) (ea_cons (nv ct 7 rfl) ea_nil))) (by decide) rfl) (ea_cons (ev_tup (ea_cons ev_str (ea_cons (nv ct 4 rfl) (ea_cons (nv ct 5 rfl) ea_nil))) (by decide) rfl) (ea_cons (ev_tup (ea_cons ev_str (ea_cons (nv ct 5 rfl) (ea_cons (nv ct 4 rfl) ea_nil))) (by decide) rfl) ea_nil))))))) (by decide) rfl)) ?_
    refine wset ct 9 (Ev.fz (ev_cat (nv ct 9 rfl) (Ev.fz (ev_lst (ea_cons (ev_tup (ea_cons ev_str (ea_cons (nv ct 4 rfl) (ea_cons (nv ct 4 rfl) ea_nil))) (by decide) rfl) (ea_cons (ev_tup (ea_cons ev_str (ea_cons ev_int (ea_cons ev_int ea_nil))) (by decide) rfl) (ea_cons (ev_tup (ea_cons ev_str (ea_cons ev_int (ea_cons ev_int ea_nil))) (by decide) rfl) (ea_cons (ev_tup (ea_cons ev_str (ea_cons (ev_neg ev_int) (ea_cons ev_int ea_nil))) (by decide) rfl) (ea_cons (ev_tup (ea_cons ev_str (ea_cons ev_bl (ea_cons ev_bl ea_nil))) (by decide) rfl) ea_nil))))) (by decide) rfl)) (.inl rfl) (.inl rfl) (by show 12 ≤ 100000; decide))) ?_
    refine wset ct 9 (Ev.fz (ev_cat (nv ct 9 rfl) (Ev.fz (ev_lst (ea_cons (ev_tup (ea_cons ev_str (ea_cons (nv ct 7 rfl) (ea_cons (ev_add (nv ct 8 rfl) ev_int) ea_nil))) (by decide) rfl) (ea_cons (ev_tup (ea_cons ev_str (ea_cons (ev_add (nv ct 7 rfl) (nv ct 8 rfl)) (ea_cons (nv ct 8 rfl) ea_nil))) (by decide) rfl) (ea_cons (ev_tup (ea_cons ev_str (ea_cons ev_int (ea_cons ev_int ea_nil))) (by decide) rfl) ea_nil))) (by decide) rfl)) (.inl rfl) (.inl rfl) (by show 15 ≤ 100000; decide))) ?_
    refine wset ct 9 (Ev.fz (ev_cat (nv ct 9 rfl) (Ev.fz (ev_lst (ea_cons (ev_tup (ea_cons ev_str (ea_cons ev_bl (ea_cons ev_bl ea_nil))) (by decide) rfl) (ea_cons (ev_tup (ea_cons ev_str (ea_cons (nv ct 7 rfl) ea_nil)) (by decide) rfl) (ea_cons (ev_tup (ea_cons ev_str (ea_cons ev_non (ea_cons (nv ct 8 rfl) ea_nil))) (by decide) rfl) (ea_cons (ev_tup (ea_cons ev_str (ea_cons (nv ct 7 rfl) (ea_cons (ev_mul ev_int (nv ct 8 rfl) (.inl ⟨by decide, by decide⟩)) ea_nil))) (by decide) rfl) ea_nil)))) (by decide) rfl)) (.inl rfl) (.inl rfl) (by show 19 ≤ 100000; decide))) ?_
    refine wset ct 9 (Ev.fz (ev_cat (nv ct 9 rfl) (Ev.fz (ev_lst (ea_cons (ev_tup ea_nil (by decide) rfl) (ea_cons ev_non (ea_cons ev_str (ea_cons (ev_tup (ea_cons ev_str (ea_cons (nv ct 7 rfl) (ea_cons (nv ct 8 rfl) ea_nil))) (by decide) rfl) (ea_cons (ev_tup (ea_cons ev_str (ea_cons (ev_strI ct t.f_str (ea_cons (nv ct 4 rfl) ea_nil) hlog) (ea_cons (nv ct 5 rfl) ea_nil))) (by decide) rfl) (ea_cons (Ev.fz (ev_lst (ea_cons ev_str (ea_cons ev_int (ea_cons ev_int ea_nil))) (by decide) rfl)) (ea_cons (ev_tup (ea_cons ev_str (ea_cons (nv ct 4 rfl) ea_nil)) (by decide) rfl) ea_nil))))))) (by decide) rfl)) (.inl rfl) (.inl rfl) (by show 26 ≤ 100000; decide))) ?_
    refine ws_ret (Ev.eq (ev_cat (nv ct 9 rfl) (Ev.fz (ev_lst (ea_cons (ev_tup (ea_cons ev_str (ea_cons (ec ct (d__law_draw t hc) (ea_cons (nv ct 0 rfl) (ea_cons ev_int ea_nil)) ⟨n, drW (drW v ((q.st.length : Int) + 1)) ((q.st.length : Int) + 1), 60, b + 2, rfl, updS_same, w3, by omega, by decide, by decide, rfl, rfl⟩) (ea_cons (ec ct (d__law_whole t hc) (ea_cons (nv ct 1 rfl) ea_nil) ⟨q, rfl, h4, rfl, rfl⟩) ea_nil))) (by decide) rfl) ea_nil) (by decide) rfl)) (.inl rfl) (.inl rfl) (by show 27 ≤ 100000; decide)) ?_) (exit_upd h1 ?_)
    · rfl
    · rw [updS_updS]
end
section
variable {P : Program} {w : World} {K : PySem.W.Frag} {mg : Str → Option Value} {base : Heap}
def rhs : List (List Int) := [[1, 2, 3, 4, 5, 6], [2, 4], [3, 6, 2], [1]]
def tRh (rh : List Int) : T := .lst (rh.map I)
theorem rh_one (v : W3) : ∃ rh, oneV v (rhs.map tRh) = tRh rh ∧ rh ∈ rhs ∧ RhOk rh := by
  have hl := one_lt (w := v) (n := rhs.length) (by decide)
  refine ⟨rhs[(drV v (rhs.length : Int)).toNat], ?_, List.getElem_mem hl, ?_⟩
  · unfold oneV
    rw [List.length_map, List.getD_eq_getElem?_getD, List.getElem?_map, List.getElem?_eq_getElem hl]; rfl
  · have h := List.getElem_mem hl
    have key : ∀ rh ∈ rhs, RhOk rh := by
      intro rh hr
      simp only [rhs, List.mem_cons, List.not_mem_nil, or_false] at hr
      rcases hr with rfl | rfl | rfl | rfl <;> exact ⟨by decide, by decide, by decide⟩
    exact key _ h
abbrev depth : Nat := 10
theorem law_ok {fa : Addr} (t : Txt K mg) (hx : mg "law" = some (.ref fa)) :
    ∃ fd : FuncData, (∀ (s : Shared) (u : Value), BindsTo s fd ⟨[u], []⟩ [("_law_script", u)]) ∧ ∀ base : Heap, K.In base → base.Ns mainGlobals mg → FnT P w K mg base CX0 depth fa fd ["_law_script"] lawRel := by
  refine t.t_law.law hx sc_law cx0 b0_law fun base _ _ X ct po ts L r L' h => ?_
  have hc : Calm0 CX0 := cx0
  obtain ⟨ns, rfl, h63, rfl, rfl⟩ := h
  refine ws_for ct po (ts := ((cellAt ns 0) :: cutT ns (some 1) (some 6)).map I) (ei_list (Ev.eq (Ev.fz (ev_cat (Ev.fz (ev_lst (ea_cons (ec ct (d__law_cell_at t hc) (ea_cons (nv ct 0 rfl) (ea_cons ev_int ea_nil)) ⟨ns, 0, rfl, by decide, rfl, rfl⟩) ea_nil) (by decide) rfl)) (Ev.fz (ev_cutL (nv ct 0 rfl) (.inr (.inl rfl)) (eo_some ev_int) (eo_some ev_int))) (.inl rfl) (.inl rfl) ?z)) ?e))
    (fun n ρ L0 => L0 = L' ∧ ∃ a1 a2 a3 a4 a5 a6 a7 a8 a9, ρ = [some (.scr (ns.map I)), a1, a2, a3, a4, a5, a6, a7, a8, a9]) ⟨rfl, _, _, _, _, _, _, _, _, _, rfl⟩ (fun n x ρ' L0 hx hw => ?_) (fun ρ' L0 hw => ?_)
  case z =>
    rw [cutT_map, List.length_map]
    unfold cutT
    rw [List.length_take, List.length_drop]
    show 1 + _ ≤ 100000
    omega
  case e => rw [cutT_map]; rfl
  · obtain ⟨rfl, a1, a2, a3, a4, a5, a6, a7, a8, a9, rfl⟩ := hw
    obtain ⟨c, rfl⟩ : ∃ c, x = I c := by
      obtain ⟨c, _, e⟩ := List.mem_map.mp (List.mem_of_getElem? hx)
      exact ⟨c, e.symm⟩
    refine ⟨_, _, (tn ct 1), ?_⟩
    refine wsetC ct 2 (ec ct (d__law_well t hc) (ea_cons (nv ct 1 rfl) ea_nil) ⟨c, rfl, rfl, rfl⟩) fun m hm => ?_
    have w0 := well0_ok c
    refine wset ct 3 (ev_add ev_int (ec ct (d__law_draw t hc) (ea_cons (nv ct 2 rfl) (ea_cons ev_int ea_nil)) ⟨m, well0 c, 6, 0, rfl, updS_same, w0, by decide, by decide, by decide, rfl, rfl⟩)) ?_
    have n0 := drV_ge (w := well0 c) (s := 6) (by decide)
    have n8 := drV_lt (w := well0 c) (s := 6) (by decide)
    have w1 := drW_ok w0 (s := 6) (by decide)
    generalize hn : 1 + drV (well0 c) 6 = nn
    generalize drW (well0 c) 6 = v1 at *
    rw [updS_updS]
    obtain ⟨rh, erh, hrhm, hrh⟩ := rh_one v1
    have w2 := drW_ok w1 (s := ((rhs.map tRh).length : Int)) (by decide)
    obtain ⟨pok, pn, w3⟩ := partsF_ok (m := nn) (most := 12) (rh := rh) (by omega) (by omega) (by decide) (by decide) hrh w2
    refine wset ct 4 (ec ct (d__law_parts t hc) (ea_cons (nv ct 2 rfl) (ea_cons (nv ct 3 rfl) (ea_cons ev_int (ea_cons (Ev.eq (ec (he := se1) (ts := [.cel m, .lst (rhs.map tRh)]) (L1 := (updS L0 m (some (tW v1)))) (Lb := updS (updS L0 m (some (tW v1))) m (some (tW (drW v1 (rhs.map tRh).length)))) (r := .v (oneV v1 (rhs.map tRh))) ct (d__law_one t hc) (ea_cons (nv ct 2 rfl) (ea_cons (hs := se3) (L1 := (updS L0 m (some (tW v1)))) (Ev.fz (ev_lst (ts := rhs.map tRh) (ea_cons (hs := se3) (Ev.fz (ev_lst (ea_cons ev_int (ea_cons ev_int (ea_cons ev_int (ea_cons ev_int (ea_cons ev_int (ea_cons ev_int ea_nil)))))) (by decide) rfl)) (ea_cons (hs := se3) (Ev.fz (ev_lst (ea_cons ev_int (ea_cons ev_int ea_nil)) (by decide) rfl)) (ea_cons (hs := se3) (Ev.fz (ev_lst (ea_cons ev_int (ea_cons ev_int (ea_cons ev_int ea_nil))) (by decide) rfl)) (ea_cons (hs := se3) (Ev.fz (ev_lst (ea_cons ev_int ea_nil) (by decide) rfl)) ea_nil)))) (by decide) rfl)) ea_nil)) ⟨m, v1, rhs.map tRh, 1, rfl, updS_same, w1, by decide, by decide, by decide, rfl, rfl⟩) (congrArg R.v erh)) ea_nil)))) ⟨m, _, _, nn, 12, rh, rfl, updS_same, w2, by decide, by omega, by omega, by decide, by decide, hrh, rfl, rfl⟩) ?_
    rw [updS_updS, updS_updS]
    generalize hpp : (partsF nn 12 rh (drW v1 ((rhs.map tRh).length : Int))).1 = q at *
    generalize hpv : (partsF nn 12 rh (drW v1 ((rhs.map tRh).length : Int))).2 = v at *
    have w3 : v.Ok 102 := w3
    have h12 := pok.s12
    have sok := pok.stOk
    refine wset ct 5 (Ev.fz (ec ct (d__law_made t hc) (ea_cons (nv ct 4 rfl) ea_nil) ⟨q, rfl, pok, rfl, rfl⟩)) ?_
    refine wset ct 6 (ec ct (d_homeT t hc) (ea_cons (nv ct 5 rfl) ea_nil) ⟨q.made, rfl, sok, rfl, rfl⟩) ?_
    refine ws_ifF (EvB.eq (eb_not (eb_val (ec ct (d_due_paper t hc) (ea_cons (nv ct 4 rfl) (ea_cons (nv ct 6 rfl) ea_nil)) ⟨q, homePap q.st, rfl, sok, home_papok sok, rfl, rfl⟩))) (by rw [papZ_home sok]; rfl)) ?_
    have pall := papers_ok sok w3
    refine ws_for ct po (ei_list (Ev.fz (ec ct (d__law_papers t hc) (ea_cons (nv ct 2 rfl) (ea_cons (nv ct 4 rfl) (ea_cons (nv ct 6 rfl) ea_nil))) ⟨m, v, 102, q, rfl, updS_same, w3, by decide, sok, rfl, rfl⟩))) (fun n ρ L1 => L1 = updS L0 m (some (tW (drW (drW (drW v (q.st.length + 1)) (q.st.length + 1)) 60))) ∧ ∃ a7 a8 a9, ρ = [_, _, _, _, _, _, _, a7, a8, a9]) ⟨by rw [updS_updS], _, _, _, rfl⟩ (fun n x ρ' L1 hx hw => ?_) (fun ρ' L1 hw => ?_)
    · obtain ⟨rfl, b7, b8, b9, rfl⟩ := hw
      rw [List.getElem?_map] at hx
      obtain ⟨pp, hpp, rfl⟩ := Option.map_eq_some_iff.mp hx
      have pk := pall pp (List.mem_of_getElem? hpp)
      refine ⟨_, _, (tn ct 7), ?_⟩
      refine wset ct 8 (ev_reprP (pp := pp) ct t.f_repr (by decide +kernel) (ea_cons (nv ct 7 rfl) ea_nil) pk) ?_
      refine wset ct 9 (ec ct (d_shows_paper t hc) (ea_cons (nv ct 5 rfl) (ea_cons (nv ct 7 rfl) ea_nil)) ⟨q.made, pp, rfl, sok, pk, rfl, rfl⟩) ?_
      refine ws_ifF (EvB.eq (EvW.tst (ew_or (eb_not (eb_val (kisiK ct t.f_isinstance (ea_cons (nv ct 9 rfl) (ea_cons (nty ct "bool" t.f_bool) ea_nil)) rfl true))) fun _ => (ew_or (eb_ne ct (nv ct 9 rfl) (ec ct (d_due_paper t hc) (ea_cons (nv ct 4 rfl) (ea_cons (nv ct 7 rfl) ea_nil)) ⟨q, pp, rfl, sok, pk, rfl, rfl⟩) (sh_B _).shp (sh_B _).shp) fun _ => (ew_or1 (eb_neS (ev_reprP (pp := pp) ct t.f_repr (by decide +kernel) (ea_cons (nv ct 7 rfl) ea_nil) pk) (nv ct 8 rfl)))))) ?_) ?_
      · rw [show q.made.st = q.st from rfl, (sh_B _).refl]; simp
      · exact ws_nil ⟨rfl, _, _, _, rfl⟩
    · obtain ⟨rfl, b7, b8, b9, rfl⟩ := hw
      refine ws_drop (m := m) ?_
      rw [updS_updS, updS_self hm]
      exact ws_nil ⟨rfl, _, _, _, _, _, _, _, _, _, rfl⟩
  · obtain ⟨rfl, a1, a2, a3, a4, a5, a6, a7, a8, a9, rfl⟩ := hw
    exact ws_ret ev_bl exit_same
end

def fnD : List He.DefD := [⟨("is_any", none), "is_any", "is_any", defArgs s_is_any, defBody s_is_any, defScope s_is_any, [], []⟩,
  ⟨("is_whole", none), "is_whole", "is_whole", defArgs s_is_whole, defBody s_is_whole, defScope s_is_whole, [], []⟩,
  ⟨("is_street", none), "is_street", "is_street", defArgs s_is_street, defBody s_is_street, defScope s_is_street, [], []⟩,
  ⟨("is_pair", none), "is_pair", "is_pair", defArgs s_is_pair, defBody s_is_pair, defScope s_is_pair, [], []⟩,
  ⟨("check_streets", none), "check_streets", "check_streets", defArgs s_check_streets, defBody s_check_streets, defScope s_check_streets, [], []⟩,
  ⟨("check_broad", none), "check_broad", "check_broad", defArgs s_check_broad, defBody s_check_broad, defScope s_check_broad, [], []⟩,
  ⟨("check_inns", none), "check_inns", "check_inns", defArgs s_check_inns, defBody s_check_inns, defScope s_check_inns, [], []⟩,
  ⟨("street_of", none), "street_of", "street_of", defArgs s_street_of, defBody s_street_of, defScope s_street_of, [], []⟩,
  ⟨("turns_on", none), "turns_on", "turns_on", defArgs s_turns_on, defBody s_turns_on, defScope s_turns_on, [], []⟩,
  ⟨("common_part", none), "common_part", "common_part", defArgs s_common_part, defBody s_common_part, defScope s_common_part, [], []⟩,
  ⟨("least_common", none), "least_common", "least_common", defArgs s_least_common, defBody s_least_common, defScope s_least_common, [], []⟩,
  ⟨("never_both", none), "never_both", "never_both", defArgs s_never_both, defBody s_never_both, defScope s_never_both, [], []⟩,
  ⟨("torn_pair", none), "torn_pair", "torn_pair", defArgs s_torn_pair, defBody s_torn_pair, defScope s_torn_pair, [], []⟩,
  ⟨("is_home", none), "is_home", "is_home", defArgs s_is_home, defBody s_is_home, defScope s_is_home, [], []⟩,
  ⟨("home", none), "home", "home", defArgs s_home, defBody s_home, defScope s_home, [], []⟩,
  ⟨("shows_home", none), "shows_home", "shows_home", defArgs s_shows_home, defBody s_shows_home, defScope s_shows_home, [], []⟩,
  ⟨("_law_cell_at", none), "_law_cell_at", "_law_cell_at", defArgs s__law_cell_at, defBody s__law_cell_at, defScope s__law_cell_at, [], []⟩,
  ⟨("_law_well", none), "_law_well", "_law_well", defArgs s__law_well, defBody s__law_well, defScope s__law_well, [], []⟩,
  ⟨("_law_draw", none), "_law_draw", "_law_draw", defArgs s__law_draw, defBody s__law_draw, defScope s__law_draw, [], []⟩,
  ⟨("_law_one", none), "_law_one", "_law_one", defArgs s__law_one, defBody s__law_one, defScope s__law_one, [], []⟩,
  ⟨("_law_streets", none), "_law_streets", "_law_streets", defArgs s__law_streets, defBody s__law_streets, defScope s__law_streets, [], []⟩,
  ⟨("_law_parts", none), "_law_parts", "_law_parts", defArgs s__law_parts, defBody s__law_parts, defScope s__law_parts, [], []⟩,
  ⟨("_law_made", none), "_law_made", "_law_made", defArgs s__law_made, defBody s__law_made, defScope s__law_made, [], []⟩,
  ⟨("_law_whole", none), "_law_whole", "_law_whole", defArgs s__law_whole, defBody s__law_whole, defScope s__law_whole, [], []⟩,
  ⟨("_law_is_home", none), "_law_is_home", "_law_is_home", defArgs s__law_is_home, defBody s__law_is_home, defScope s__law_is_home, [], []⟩,
  ⟨("_law_torn", none), "_law_torn", "_law_torn", defArgs s__law_torn, defBody s__law_torn, defScope s__law_torn, [], []⟩,
  ⟨("_law_due", none), "_law_due", "_law_due", defArgs s__law_due, defBody s__law_due, defScope s__law_due, [], []⟩,
  ⟨("_law_papers", none), "_law_papers", "_law_papers", defArgs s__law_papers, defBody s__law_papers, defScope s__law_papers, [], []⟩,
  ⟨("law", none), "law", "law", defArgs s_law, defBody s_law, defScope s_law, [], []⟩,
  ⟨("Town", some "__init__"), "__init__", "Town.__init__", defArgs s_Town___init__, defBody s_Town___init__, defScope s_Town___init__, [], [("broad", .non), ("inns", .non)]⟩,
  ⟨("Town", some "streets"), "streets", "Town.streets", defArgs s_Town_streets, defBody s_Town_streets, defScope s_Town_streets, [], []⟩,
  ⟨("Town", some "broad"), "broad", "Town.broad", defArgs s_Town_broad, defBody s_Town_broad, defScope s_Town_broad, [], []⟩,
  ⟨("Town", some "inns"), "inns", "Town.inns", defArgs s_Town_inns, defBody s_Town_inns, defScope s_Town_inns, [], []⟩,
  ⟨("Town", some "__eq__"), "__eq__", "Town.__eq__", defArgs s_Town___eq__, defBody s_Town___eq__, defScope s_Town___eq__, [], []⟩,
  ⟨("Town", some "__repr__"), "__repr__", "Town.__repr__", defArgs s_Town___repr__, defBody s_Town___repr__, defScope s_Town___repr__, [], []⟩]
def faD : List He.Fa := [.glo "is_any", .glo "is_whole", .glo "is_street", .glo "is_pair", .glo "check_streets", .glo "check_broad", .glo "check_inns", .glo "street_of", .glo "turns_on", .glo "common_part", .glo "least_common", .glo "never_both", .glo "torn_pair", .glo "is_home", .glo "home", .glo "shows_home", .glo "_law_cell_at", .glo "_law_well", .glo "_law_draw", .glo "_law_one", .glo "_law_streets", .glo "_law_parts", .glo "_law_made", .glo "_law_whole", .glo "_law_is_home", .glo "_law_torn", .glo "_law_due", .glo "_law_papers", .glo "law", .mkr "Town", .glo "Town", .meth "Town" "streets", .glo "Town", .meth "Town" "broad", .glo "Town", .meth "Town" "inns", .glo "Town", .meth "Town" "__eq__", .glo "Town", .meth "Town" "__repr__", .glo "Town", .glo "Town", .cls "Town", .noat "Town" "many", .noat "Town" "lanes", .noat "Town" "wides", .noat "Town" "beds", .free "all", .free "bool", .free "enumerate", .free "int", .free "isinstance", .free "len", .free "list", .free "range", .free "repr", .free "sorted", .free "str", .free "tuple", .int "MOST_PLACES" 8, .int "MOST_STREETS" 12, .int "MOST_RHYTHM" 6]
def exD (K : PySem.W.Frag) : Bool := true
abbrev hkD : PySem.W.Hook := He.hookX 6 faD fnD [] [] exD
def obD (s : PySem.W.SharedT) : He.AlX := He.obsX 6 faD fnD [] [] exD (HandSHeadRun.getT s)
theorem obD_eq (s : PySem.W.SharedT) : obD s = hkD.obs s.abs := He.obsX_eq (HandSHeadRun.getT_eq s)
def loose0 : List Str := ["_wall", "TownError", "BadTown", "NoStreet", "MOST_PLACES", "MOST_STREETS", "MOST_RHYTHM", "is_any", "is_whole", "is_street", "is_pair", "check_streets", "check_broad", "check_inns", "Town", "street_of", "turns_on", "common_part", "least_common", "never_both", "torn_pair", "is_home", "home", "shows_home", "_law_cell_at", "_law_well", "_law_draw", "_law_one", "_law_streets", "_law_parts"]
def loose1 : List Str := ["_law_made", "_law_whole", "_law_is_home", "_law_torn", "_law_due", "_law_papers"]
abbrev looseL : List Str := loose0 ++ loose1
abbrev rowL : PySem.W.OpenRow := PySem.W.OpenLaw.row PySem.Challenge.rw_nightturn_k13_papers_of_home_nights
theorem runL (w : World) : HandSHeadRun.RunEq rowL (PySem.W.view rowL.prog [40]) hkD obD 20000 looseL w := by
  intro os
  kernel_rfl
theorem txt_of {K : PySem.W.Frag} {h : Heap} {mg : Str → Option Value} (X : K.In h) (G : h.Ns mainGlobals mg) (c : He.SaysD faD fnD K) : Txt K mg :=
  ⟨(by obtain ⟨fd, F⟩ := c.def_ 0 rfl; exact ⟨_, fd, F, He.glo_ok X G (c.fact 0 rfl)⟩),
   (by obtain ⟨fd, F⟩ := c.def_ 1 rfl; exact ⟨_, fd, F, He.glo_ok X G (c.fact 1 rfl)⟩),
   (by obtain ⟨fd, F⟩ := c.def_ 2 rfl; exact ⟨_, fd, F, He.glo_ok X G (c.fact 2 rfl)⟩),
   (by obtain ⟨fd, F⟩ := c.def_ 3 rfl; exact ⟨_, fd, F, He.glo_ok X G (c.fact 3 rfl)⟩),
   (by obtain ⟨fd, F⟩ := c.def_ 4 rfl; exact ⟨_, fd, F, He.glo_ok X G (c.fact 4 rfl)⟩),
   (by obtain ⟨fd, F⟩ := c.def_ 5 rfl; exact ⟨_, fd, F, He.glo_ok X G (c.fact 5 rfl)⟩),
   (by obtain ⟨fd, F⟩ := c.def_ 6 rfl; exact ⟨_, fd, F, He.glo_ok X G (c.fact 6 rfl)⟩),
   (by obtain ⟨fd, F⟩ := c.def_ 7 rfl; exact ⟨_, fd, F, He.glo_ok X G (c.fact 7 rfl)⟩),
   (by obtain ⟨fd, F⟩ := c.def_ 8 rfl; exact ⟨_, fd, F, He.glo_ok X G (c.fact 8 rfl)⟩),
   (by obtain ⟨fd, F⟩ := c.def_ 9 rfl; exact ⟨_, fd, F, He.glo_ok X G (c.fact 9 rfl)⟩),
   (by obtain ⟨fd, F⟩ := c.def_ 10 rfl; exact ⟨_, fd, F, He.glo_ok X G (c.fact 10 rfl)⟩),
   (by obtain ⟨fd, F⟩ := c.def_ 11 rfl; exact ⟨_, fd, F, He.glo_ok X G (c.fact 11 rfl)⟩),
   (by obtain ⟨fd, F⟩ := c.def_ 12 rfl; exact ⟨_, fd, F, He.glo_ok X G (c.fact 12 rfl)⟩),
   (by obtain ⟨fd, F⟩ := c.def_ 13 rfl; exact ⟨_, fd, F, He.glo_ok X G (c.fact 13 rfl)⟩),
   (by obtain ⟨fd, F⟩ := c.def_ 14 rfl; exact ⟨_, fd, F, He.glo_ok X G (c.fact 14 rfl)⟩),
   (by obtain ⟨fd, F⟩ := c.def_ 15 rfl; exact ⟨_, fd, F, He.glo_ok X G (c.fact 15 rfl)⟩),
   (by obtain ⟨fd, F⟩ := c.def_ 16 rfl; exact ⟨_, fd, F, He.glo_ok X G (c.fact 16 rfl)⟩),
   (by obtain ⟨fd, F⟩ := c.def_ 17 rfl; exact ⟨_, fd, F, He.glo_ok X G (c.fact 17 rfl)⟩),
   (by obtain ⟨fd, F⟩ := c.def_ 18 rfl; exact ⟨_, fd, F, He.glo_ok X G (c.fact 18 rfl)⟩),
   (by obtain ⟨fd, F⟩ := c.def_ 19 rfl; exact ⟨_, fd, F, He.glo_ok X G (c.fact 19 rfl)⟩),
   (by obtain ⟨fd, F⟩ := c.def_ 20 rfl; exact ⟨_, fd, F, He.glo_ok X G (c.fact 20 rfl)⟩),
   (by obtain ⟨fd, F⟩ := c.def_ 21 rfl; exact ⟨_, fd, F, He.glo_ok X G (c.fact 21 rfl)⟩),
   (by obtain ⟨fd, F⟩ := c.def_ 22 rfl; exact ⟨_, fd, F, He.glo_ok X G (c.fact 22 rfl)⟩),
   (by obtain ⟨fd, F⟩ := c.def_ 23 rfl; exact ⟨_, fd, F, He.glo_ok X G (c.fact 23 rfl)⟩),
   (by obtain ⟨fd, F⟩ := c.def_ 24 rfl; exact ⟨_, fd, F, He.glo_ok X G (c.fact 24 rfl)⟩),
   (by obtain ⟨fd, F⟩ := c.def_ 25 rfl; exact ⟨_, fd, F, He.glo_ok X G (c.fact 25 rfl)⟩),
   (by obtain ⟨fd, F⟩ := c.def_ 26 rfl; exact ⟨_, fd, F, He.glo_ok X G (c.fact 26 rfl)⟩),
   (by obtain ⟨fd, F⟩ := c.def_ 27 rfl; exact ⟨_, fd, F, He.glo_ok X G (c.fact 27 rfl)⟩),
   (by obtain ⟨fd, F⟩ := c.def_ 28 rfl; exact ⟨_, fd, F, He.glo_ok X G (c.fact 28 rfl)⟩),
   (by obtain ⟨fd, F⟩ := c.def_ 29 rfl; exact ⟨_, _, fd, F, He.glo_ok X G (c.fact 30 rfl), He.mkr_ok (c.fact 29 rfl)⟩),
   (by obtain ⟨fd, F⟩ := c.def_ 30 rfl; exact ⟨_, _, fd, F, He.glo_ok X G (c.fact 32 rfl), He.meth_ok (c.fact 31 rfl)⟩),
   (by obtain ⟨fd, F⟩ := c.def_ 31 rfl; exact ⟨_, _, fd, F, He.glo_ok X G (c.fact 34 rfl), He.meth_ok (c.fact 33 rfl)⟩),
   (by obtain ⟨fd, F⟩ := c.def_ 32 rfl; exact ⟨_, _, fd, F, He.glo_ok X G (c.fact 36 rfl), He.meth_ok (c.fact 35 rfl)⟩),
   (by obtain ⟨fd, F⟩ := c.def_ 33 rfl; exact ⟨_, _, fd, F, He.glo_ok X G (c.fact 38 rfl), He.meth_ok (c.fact 37 rfl)⟩),
   (by obtain ⟨fd, F⟩ := c.def_ 34 rfl; exact ⟨_, _, fd, F, He.glo_ok X G (c.fact 40 rfl), He.meth_ok (c.fact 39 rfl)⟩),
   (He.glo_ok X G (c.fact 41 rfl)),
   (He.cls_ok (c.fact 42 rfl)),
   (He.noat_ok (c.fact 43 rfl)),
   (He.noat_ok (c.fact 44 rfl)),
   (He.noat_ok (c.fact 45 rfl)),
   (He.noat_ok (c.fact 46 rfl)),
   (He.free_ok X G (c.fact 47 rfl)),
   (He.free_ok X G (c.fact 48 rfl)),
   (He.free_ok X G (c.fact 49 rfl)),
   (He.free_ok X G (c.fact 50 rfl)),
   (He.free_ok X G (c.fact 51 rfl)),
   (He.free_ok X G (c.fact 52 rfl)),
   (He.free_ok X G (c.fact 53 rfl)),
   (He.free_ok X G (c.fact 54 rfl)),
   (He.free_ok X G (c.fact 55 rfl)),
   (He.free_ok X G (c.fact 56 rfl)),
   (He.free_ok X G (c.fact 57 rfl)),
   (He.free_ok X G (c.fact 58 rfl)),
   (He.int_ok X G (c.fact 59 rfl)),
   (He.int_ok X G (c.fact 60 rfl)),
   (He.int_ok X G (c.fact 61 rfl))⟩
end Law
open PySem PySem.W PySem.Calls PyProof.Rows
theorem PySem.Challenge.cw_nightturn_k13_papers_of_home_nights_holds : PySem.Challenge.rw_nightturn_k13_papers_of_home_nights.Holds := by
  w_on; o_law
  refine HandSHeadRun.head_any (r := Law.rowL) (q := view Law.rowL.prog [40]) (H := Law.hkD) (ob := Law.obD) (M := 20000) (loose := Law.looseL) (d := HandSHeadRun.topDef Law.rowL.prog 40) (kwd := []) Law.obD_eq
    (by kernel_rfl) (fun s => by kernel_rfl) Law.runL (by kernel_rfl) (by kernel_rfl) (by kernel_rfl) (by rfl) (by first | assumption | decide +kernel) (by decide +kernel) ⟨rfl, rfl, rfl, rfl, rfl, by decide +kernel⟩ ?hw ?hc
  case hw => w_witness2
  case hc =>
    refine TL.walk_TE (l := PySem.Challenge.rw_nightturn_k13_papers_of_home_nights) (j := Law.depth) (y := "_law_script") (CX := fun _ => L2.CX0) rfl (by kernel_rfl) ⟨rfl, by decide, by decide⟩ (fun _ => TL.cx0) ?F
    intro w mg fa h Y G hmg0
    obtain ⟨K, KX, c⟩ := Y
    have hmg : mg ("law" : PySem.Str) = some (.ref fa) := by
      have e : (HandSHeadRun.topDef Law.rowL.prog 40).name = ("law" : PySem.Str) := by kernel_rfl
      rw [← e]
      exact hmg0
    have t := Law.txt_of KX G c.t.d
    obtain ⟨fd, hb, hF⟩ := Law.law_ok (P := PySem.Challenge.rw_nightturn_k13_papers_of_home_nights.prog) (w := w) t hmg
    exact ⟨K, fd, KX, hb, hF⟩
