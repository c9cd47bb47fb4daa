import PyProof.Rows.All
import Wide.All
import OpenK.AllK
import Wide.FinOn
import HandS.Codes
import HandS.Deep
import HandS.EndBits
import HandS.ForMost
import HandS.IsInst
import HandS.Lambda
import HandS.Style
import HandS.TupAny
import HandS.TupMul
import HandS.Wide
import HandS.WideBits
import HandS.Words
import KE.DataMinMax
import KE.GoesEnum
import KE.GoesMore
import KE.KTupSum
import KE.SortData
import PySem.Challenge.RW_fewjewels_k69_whole_pawns_paid_and_worth
set_option Elab.async false
set_option linter.all false
set_option maxRecDepth 100000
set_option maxHeartbeats 0
/-! The layer of this claim: what an expression, a statement, a def is worth, as a Lean function over data. -/
namespace Jw
open PySem PySem.Spec PyProof.Rows L2
abbrev D := PyData
/-- what the drawing object holds: cells, the next one's place, what is left of a great one, the mix, how many were mixed -/
structure HS where
  cells : List Int
  nxt : Int
  rest : Int
  mix : Int
  cnt : Int
/-- what a name of a def holds: nothing, data, a list of the def's own (which it may change), the drawing object -/
inductive Sl where
  | un
  | dat (d : D)
  | own (xs : List D)
  | hand
abbrev Rho := List Sl
inductive Res (α : Type) where
  | ok (a : α) (s : HS)
  | exc (c : String) (s : HS)
  | bad
def M (α : Type) := HS → Res α
def M.ret {α : Type} (a : α) : M α := fun s => .ok a s
def Res.bind {α β : Type} (r : Res α) (f : α → HS → Res β) : Res β := match r with
  | .ok a s => f a s
  | .exc c s => .exc c s
  | .bad => .bad
def M.bind {α β : Type} (m : M α) (f : α → M β) : M β := fun s => (m s).bind f
instance : Monad M where
  pure := M.ret
  bind := M.bind
def M.bad {α : Type} : M α := fun _ => .bad
def M.raise {α : Type} (c : String) : M α := fun s => .exc c s
/-- what is wanted of an outcome -/
def Post {α : Type} (r : Res α) (P : α → HS → Prop) (W : String → HS → Prop) : Prop := match r with
  | .ok a s => P a s
  | .exc c s => W c s
  | .bad => False
theorem Post.imp {α : Type} {r : Res α} {P P' : α → HS → Prop} {W W' : String → HS → Prop} (h : Post r P W) (hp : ∀ a s, P a s → P' a s) (hw : ∀ c s, W c s → W' c s) : Post r P' W' := by
  cases r with
  | ok a s => exact hp a s h
  | exc c s => exact hw c s h
  | bad => exact h
theorem Post.mono {α : Type} {r : Res α} {P P' : α → HS → Prop} {W : String → HS → Prop} (h : Post r P W) (hp : ∀ a s, P a s → P' a s) : Post r P' W := h.imp hp fun _ _ x => x
theorem Post.bind {α β : Type} {m : M α} {f : α → M β} {s : HS} {P : β → HS → Prop} {W : String → HS → Prop} (h : Post ((m >>= f) s) P W) : Post (m s) (fun a s' => Post (f a s') P W) W := by
  have e : (m >>= f) s = (m s).bind f := rfl
  rw [e] at h
  cases q : m s with
  | ok a s' =>
    rw [q] at h
    exact h
  | exc c s' =>
    rw [q] at h
    exact h
  | bad =>
    rw [q] at h
    exact h
theorem Post.bad {α : Type} {s : HS} {P : α → HS → Prop} {W : String → HS → Prop} (h : Post ((M.bad : M α) s) P W) : False := h
theorem Post.ret {α : Type} {a : α} {s : HS} {P : α → HS → Prop} {W : String → HS → Prop} (h : Post ((pure a : M α) s) P W) : P a s := h

/-! ### heaps -/
theorem Sq.up {K : PySem.W.Frag} {H H' : Hp} (e : ∀ a o, H a = some o → H' a = some o) {a : Addr} {xs : List V} (h : SqL K H a xs) : SqL K H' a xs := by
  rcases h with (h | ⟨o, h⟩) | h
  · exact .inl (.inl (e _ _ h))
  · exact .inl (.inr ⟨o, e _ _ h⟩)
  · exact .inr h
theorem St.up {K : PySem.W.Frag} {H H' : Hp} (e : ∀ a o, H a = some o → H' a = some o) {a : Addr} {xs : List V} (h : SqT K H a xs) : SqT K H' a xs := by
  rcases h with (h | ⟨o, h⟩) | h
  · exact .inl (.inl (e _ _ h))
  · exact .inl (.inr ⟨o, e _ _ h⟩)
  · exact .inr h
mutual
/-- a value stands for data -/
inductive Rp (K : PySem.W.Frag) (H : Hp) : V → D → Prop
  | non : Rp K H .non .none
  | bl (b : Bool) : Rp K H (.bl b) (.bool b)
  | int (i : Int) : Rp K H (.int i) (.int i)
  | str (x : Str) : Rp K H (.str x) (.str x)
  | lst {a : Addr} {xs : List V} {ds : List D} : H a = some (.lst xs) → RpAll K H xs ds → Rp K H (.ref a) (.list ds)
  | tup {a : Addr} {xs : List V} {ds : List D} : SqT K H a xs → RpAll K H xs ds → Rp K H (.ref a) (.tuple ds)
inductive RpAll (K : PySem.W.Frag) (H : Hp) : List V → List D → Prop
  | nil : RpAll K H [] []
  | cons {v : V} {vs : List V} {d : D} {ds : List D} : Rp K H v d → RpAll K H vs ds → RpAll K H (v :: vs) (d :: ds)
end
mutual
theorem Rp.up {K : PySem.W.Frag} {H H' : Hp} (e : ∀ a o, H a = some o → H' a = some o) : ∀ {v : V} {d : D}, Rp K H v d → Rp K H' v d
  | _, _, .non => .non
  | _, _, .bl b => .bl b
  | _, _, .int i => .int i
  | _, _, .str x => .str x
  | _, _, .lst h a => .lst (e _ _ h) (RpAll.up e a)
  | _, _, .tup h a => .tup (St.up e h) (RpAll.up e a)
theorem RpAll.up {K : PySem.W.Frag} {H H' : Hp} (e : ∀ a o, H a = some o → H' a = some o) : ∀ {vs : List V} {ds : List D}, RpAll K H vs ds → RpAll K H' vs ds
  | _, _, .nil => .nil
  | _, _, .cons h a => .cons (Rp.up e h) (RpAll.up e a)
end
mutual
theorem Rp.dp {K : PySem.W.Frag} {H : Hp} : ∀ {v : V} {d : D}, Rp K H v d → Dp K H v d
  | _, _, .non => .non
  | _, _, .bl b => .bl b
  | _, _, .int i => .int i
  | _, _, .str x => .str x
  | _, _, .lst h a => .lst (.inl (.inl h)) (RpAll.dp a)
  | _, _, .tup h a => .tup h (RpAll.dp a)
theorem RpAll.dp {K : PySem.W.Frag} {H : Hp} : ∀ {vs : List V} {ds : List D}, RpAll K H vs ds → DpAll K H vs ds
  | _, _, .nil => .nil
  | _, _, .cons h a => .cons (Rp.dp h) (RpAll.dp a)
end
theorem RpAll.len {K : PySem.W.Frag} {H : Hp} : ∀ {vs : List V} {ds : List D}, RpAll K H vs ds → vs.length = ds.length
  | _, _, .nil => rfl
  | _, _, .cons _ a => congrArg Nat.succ (RpAll.len a)
theorem RpAll.app {K : PySem.W.Frag} {H : Hp} : ∀ {vs ws : List V} {ds es : List D}, RpAll K H vs ds → RpAll K H ws es → RpAll K H (vs ++ ws) (ds ++ es)
  | _, _, _, _, .nil, b => b
  | _, _, _, _, .cons h a, b => .cons h (RpAll.app a b)
theorem RpAll.at {K : PySem.W.Frag} {H : Hp} : ∀ {vs : List V} {ds : List D} {i : Nat} {d : D}, RpAll K H vs ds → ds[i]? = some d → ∃ v, vs[i]? = some v ∧ Rp K H v d
  | _, _, 0, _, .cons h _, e => by
    cases e
    exact ⟨_, rfl, h⟩
  | _, _, i + 1, _, .cons _ a, e => by
    obtain ⟨v, h1, h2⟩ := RpAll.at (i := i) a (by simpa using e)
    exact ⟨v, by simpa using h1, h2⟩
theorem RpAll.take {K : PySem.W.Frag} {H : Hp} : ∀ {vs : List V} {ds : List D} (n : Nat), RpAll K H vs ds → RpAll K H (vs.take n) (ds.take n)
  | _, _, 0, _ => .nil
  | _, _, _ + 1, .nil => .nil
  | _, _, n + 1, .cons h a => .cons h (RpAll.take n a)
theorem RpAll.drop {K : PySem.W.Frag} {H : Hp} : ∀ {vs : List V} {ds : List D} (n : Nat), RpAll K H vs ds → RpAll K H (vs.drop n) (ds.drop n)
  | _, _, 0, h => h
  | _, _, _ + 1, .nil => .nil
  | _, _, n + 1, .cons _ a => RpAll.drop n a
theorem RpAll.ints {K : PySem.W.Frag} {H : Hp} : ∀ ns : List Int, RpAll K H (ns.map V.int) (ns.map PyData.int)
  | [] => .nil
  | n :: ns => .cons (.int n) (RpAll.ints ns)

/-- the drawing object as it stands at hp -/
def HandAt (K : PySem.W.Frag) (hp : Addr) (F H : Hp) (s : HS) : Prop :=
  ∃ c : Addr, F hp = none ∧ H hp = some (.lst [.ref c, .int s.nxt, .int s.rest, .int s.mix, .int s.cnt]) ∧ F c = some (.lst (s.cells.map V.int))
/-- what a call may change of what stands: the drawing object, the tables of code objects -/
def Loose (hp a : Addr) (u : HO) : Prop := a = hp ∨ ∃ ps, u = .tbl ps
/-- from (F, H) to (F', H'): F is what stands still in H; the rest of H but the loose things stands as it stood -/
structure Grow (K : PySem.W.Frag) (T : List (Addr × Str)) (hp : Addr) (F H F' H' : Hp) (s' : HS) : Prop where
  ff : ∀ a o, F a = some o → F' a = some o
  nw : ∀ a o, F' a = some o → F a = some o ∨ ∀ u, H a = some u → Loose hp a u
  st : ∀ a o, H a = some o → ¬ Loose hp a o → H' a = some o
  sub : ∀ a o, F' a = some o → H' a = some o
  tabs : LamX.Tabs T H'
  hand : HandAt K hp F' H' s'
section
variable {K : PySem.W.Frag} {T : List (Addr × Str)} {hp : Addr} {F H F' H' F2 H2 : Hp} {s s' s2 : HS}
theorem HandAt.up (h : HandAt K hp F H s) (e : ∀ a o, F a = some o → F' a = some o) (n : F' hp = none) (k : H' hp = H hp) : HandAt K hp F' H' s := by
  obtain ⟨c, _, h2, h3⟩ := h
  exact ⟨c, n, k.trans h2, e _ _ h3⟩
theorem Grow.trans (a : Grow K T hp F H F' H' s') (b : Grow K T hp F' H' F2 H2 s2) : Grow K T hp F H F2 H2 s2 where
  ff := fun x o h => b.ff x o (a.ff x o h)
  nw := fun x o h => by
    rcases b.nw x o h with h1 | h1
    · exact a.nw x o h1
    · refine .inr fun u q => Classical.byContradiction fun z => z (h1 u (a.st x u q z))
  st := fun x o h n => b.st x o (a.st x o h n) n
  sub := b.sub
  tabs := b.tabs
  hand := b.hand
/-- nothing changes -/
theorem Grow.refl (a : Grow K T hp F2 H2 F H s) : Grow K T hp F H F H s := ⟨fun _ _ h => h, fun _ _ h => .inl h, fun _ _ h _ => h, a.sub, a.tabs, a.hand⟩
theorem not_loose_lst {p : Addr} {xs : List V} (n : p ≠ hp) : ¬ Loose hp p (.lst xs) := by
  rintro (h | ⟨_, h⟩)
  · exact n h
  · cases h
theorem Grow.noHp (a : Grow K T hp F2 H2 F H s) {p : Addr} (h : H p = none) : p ≠ hp := fun e => by
  obtain ⟨c, _, h2, _⟩ := a.hand
  rw [← e, h] at h2
  cases h2
theorem Tabs.upd {p : Addr} {o : HO} (h : H p = none) (t : LamX.Tabs T H) : LamX.Tabs T (upd H p o) := t.ext fun b u e => by
  rw [upd_ne (ne_of_none e h)]
  exact e
/-- a new object that stands still from now on -/
theorem Grow.new (a : Grow K T hp F2 H2 F H s) {p : Addr} {o : HO} (h : H p = none) : Grow K T hp F H (upd F p o) (upd H p o) s := by
  have hF : F p = none := by
    cases q : F p with
    | none => rfl
    | some u => rw [a.sub p u q] at h; cases h
  have np := a.noHp h
  refine ⟨fun x u e => ?_, fun x u e => ?_, fun x u e _ => ?_, fun x u e => ?_, Tabs.upd h a.tabs, a.hand.up (fun x u e => ?_) ?_ ?_⟩
  · rw [upd_ne (ne_of_none e hF)]; exact e
  · by_cases q : x = p
    · exact .inr fun v z => by rw [q, h] at z; cases z
    · rw [upd_ne q] at e; exact .inl e
  · rw [upd_ne (ne_of_none e h)]; exact e
  · by_cases q : x = p
    · rw [q, upd_same] at e ⊢; exact e
    · rw [upd_ne q] at e ⊢; exact a.sub x u e
  · rw [upd_ne (ne_of_none e hF)]; exact e
  · obtain ⟨c, z, _⟩ := a.hand
    rw [upd_ne (Ne.symm np)]; exact z
  · rw [upd_ne (Ne.symm np)]
/-- a new object that is not yet still -/
theorem Grow.newOwn (a : Grow K T hp F2 H2 F H s) {p : Addr} {o : HO} (h : H p = none) : Grow K T hp F H F (upd H p o) s := by
  have np := a.noHp h
  refine ⟨fun x u e => e, fun x u e => .inl e, fun x u e _ => ?_, fun x u e => ?_, Tabs.upd h a.tabs, a.hand.up (fun x u e => e) ?_ ?_⟩
  · rw [upd_ne (ne_of_none e h)]; exact e
  · have z := a.sub x u e
    rw [upd_ne (ne_of_none z h)]; exact z
  · obtain ⟨c, z, _⟩ := a.hand
    exact z
  · rw [upd_ne (Ne.symm np)]
end

/-! ### what the names hold -/
def SlOk (K : PySem.W.Frag) (hp : Addr) (F0 H0 F H : Hp) (v : Option (Option V)) : Sl → Prop
  | .un => True
  | .dat d => ∃ x, v = some (some x) ∧ Rp K F x d
  | .own xs => ∃ p vs, v = some (some (.ref p)) ∧ H p = some (.lst vs) ∧ RpAll K F vs xs ∧ F p = none ∧ p ≠ hp ∧ ∀ o, H0 p = some o → Loose hp p o
  | .hand => v = some (some (.ref hp))
structure Rel (K : PySem.W.Frag) (T : List (Addr × Str)) (hp : Addr) (F0 H0 F H : Hp) (σ : L2.St) (ρ : Rho) (s : HS) : Prop where
  g : Grow K T hp F0 H0 F H s
  sl : ∀ (i : Nat) (x : Sl), ρ[i]? = some x → SlOk K hp F0 H0 F H (σ[i]?) x
  ne : ∀ (i j : Nat) (xs ys : List D), ρ[i]? = some (.own xs) → ρ[j]? = some (.own ys) → i ≠ j → σ[i]? ≠ σ[j]?
  len : σ.length = ρ.length
section
variable {K : PySem.W.Frag} {T : List (Addr × Str)} {hp : Addr} {F0 H0 F H F' H' : Hp} {σ : L2.St} {ρ : Rho} {s s' : HS}
theorem Rel.grow (R : Rel K T hp F0 H0 F H σ ρ s) (a : Grow K T hp F H F' H' s') : Rel K T hp F0 H0 F' H' σ ρ s' where
  g := R.g.trans a
  sl := fun i x e => by
    have h := R.sl i x e
    cases x with
    | un => trivial
    | dat d =>
      obtain ⟨v, h1, h2⟩ := h
      exact ⟨v, h1, Rp.up a.ff h2⟩
    | own xs =>
      obtain ⟨p, vs, h1, h2, h3, h4, h5, h6⟩ := h
      refine ⟨p, vs, h1, a.st p _ h2 (not_loose_lst h5), RpAll.up a.ff h3, ?_, h5, h6⟩
      cases q : F' p with
      | none => rfl
      | some u =>
        rcases a.nw p u q with z | z
        · rw [h4] at z; cases z
        · exact absurd (z _ h2) (not_loose_lst h5)
    | hand => exact h
  ne := R.ne
  len := R.len
/-- a name is bound -/
theorem Rel.set (R : Rel K T hp F0 H0 F H σ ρ s) {i : Nat} {v : V} {x : Sl} (hi : i < ρ.length) (h : SlOk K hp F0 H0 F H (some (some v)) x)
    (hne : ∀ xs, x = .own xs → ∀ (j : Nat) ys, j ≠ i → ρ[j]? = some (.own ys) → σ[j]? ≠ some (some v)) : Rel K T hp F0 H0 F H (σ.set i (some v)) (ρ.set i x) s := by
  have hs : i < σ.length := by rw [R.len]; exact hi
  refine ⟨R.g, fun j y e => ?_, fun j k xs ys e1 e2 n => ?_, by rw [List.length_set, List.length_set, R.len]⟩
  · by_cases q : i = j
    · subst q
      rw [List.getElem?_set_self hi] at e
      rw [List.getElem?_set_self hs]
      cases e
      exact h
    · rw [List.getElem?_set_ne q] at e
      rw [List.getElem?_set_ne q]
      exact R.sl j y e
  · by_cases q1 : i = j
    · by_cases q2 : i = k
      · exact absurd (q1.symm.trans q2) n
      · subst q1
        rw [List.getElem?_set_self hi] at e1
        rw [List.getElem?_set_ne q2] at e2
        rw [List.getElem?_set_self hs, List.getElem?_set_ne q2]
        exact fun z => hne xs (Option.some.inj e1) k ys (Ne.symm n) e2 z.symm
    · by_cases q2 : i = k
      · subst q2
        rw [List.getElem?_set_self hi] at e2
        rw [List.getElem?_set_ne q1] at e1
        rw [List.getElem?_set_self hs, List.getElem?_set_ne q1]
        exact hne ys (Option.some.inj e2) j xs n e1
      · rw [List.getElem?_set_ne q1] at e1
        rw [List.getElem?_set_ne q2] at e2
        rw [List.getElem?_set_ne q1, List.getElem?_set_ne q2]
        exact R.ne j k xs ys e1 e2 n
theorem Rel.setD (R : Rel K T hp F0 H0 F H σ ρ s) {i : Nat} {v : V} {d : D} (hi : i < ρ.length) (h : Rp K F v d) : Rel K T hp F0 H0 F H (σ.set i (some v)) (ρ.set i (.dat d)) s :=
  R.set hi ⟨v, rfl, h⟩ fun xs e => by cases e
/-- an object outside of F is written: a list of the def's own -/
theorem Grow.write (a : Grow K T hp F H F' H' s') {p : Addr} {xs ys : List V} (lo : ∀ u, H p = some u → Loose hp p u) (nF : F' p = none) (nh : p ≠ hp) (at_ : H' p = some (.lst xs)) : Grow K T hp F H F' (upd H' p (.lst ys)) s' := by
  have up : ∀ x u, H' x = some u → (∀ zs, u ≠ .lst zs) → upd H' p (.lst ys) x = some u := fun x u e n => by
    rw [upd_ne (fun z => by rw [z, at_] at e; exact n xs (Option.some.inj e).symm)]
    exact e
  refine ⟨a.ff, a.nw, fun x u e l => ?_, fun x u e => ?_, fun q hq => ?_, a.hand.up (fun x u e => e) ?_ ?_⟩
  · rw [upd_ne (fun z => l (by rw [z] at e ⊢; exact lo u e))]
    exact a.st x u e l
  · rw [upd_ne (fun z => by rw [z, nF] at e; cases e)]
    exact a.sub x u e
  · obtain ⟨ps, h1, h2, h3⟩ := a.tabs q hq
    refine ⟨ps, up _ _ h1 (fun zs e => by cases e), h2, fun po cv hc => ?_⟩
    obtain ⟨c, e1, e2⟩ := h3 po cv hc
    exact ⟨c, e1, up _ _ e2 fun zs e => by unfold LamX.CodeO at e; cases e⟩
  · obtain ⟨c, z, _⟩ := a.hand
    exact z
  · rw [upd_ne nh.symm]
end
end Jw
namespace Jw
open PySem PySem.Spec PyProof.Rows L2
/-- what is wanted of an exception at the end of the def -/
def WX (K : PySem.W.Frag) (T : List (Addr × Str)) (hp : Addr) (F0 H0 : Hp) (EX : String → Hp → Prop) (c : String) (s' : HS) : Prop := ∀ F' H', Grow K T hp F0 H0 F' H' s' → EX c H'
/-- data that stands still, or a list of the def's own, to be read -/
def Bw (K : PySem.W.Frag) (hp : Addr) (F H : Hp) (v : V) (d : D) : Prop := Rp K F v d ∨ ∃ p vs xs, v = .ref p ∧ d = .list xs ∧ H p = some (.lst vs) ∧ RpAll K F vs xs ∧ p ≠ hp
inductive BwAll (K : PySem.W.Frag) (hp : Addr) (F H : Hp) : List V → List D → Prop
  | nil : BwAll K hp F H [] []
  | cons {v : V} {vs : List V} {d : D} {ds : List D} : Bw K hp F H v d → BwAll K hp F H vs ds → BwAll K hp F H (v :: vs) (d :: ds)
/-- a new list at p, not yet still -/
structure NewL (K : PySem.W.Frag) (hp : Addr) (H F' H' : Hp) (p : Addr) (xs : List D) : Prop where
  ex : ∃ vs, H' p = some (.lst vs) ∧ RpAll K F' vs xs
  nF : F' p = none
  nh : p ≠ hp
  lo : ∀ u, H p = some u → Loose hp p u
def ArgOk (K : PySem.W.Frag) (hp : Addr) (F : Hp) (v : V) : Sl → Prop
  | .dat d => Rp K F v d
  | .hand => v = .ref hp
  | _ => False
inductive ArgsOk (K : PySem.W.Frag) (hp : Addr) (F : Hp) : List V → List Sl → Prop
  | nil : ArgsOk K hp F [] []
  | cons {v : V} {vs : List V} {a : Sl} {as : List Sl} : ArgOk K hp F v a → ArgsOk K hp F vs as → ArgsOk K hp F (v :: vs) (a :: as)
section
variable (K : PySem.W.Frag) (T : List (Addr × Str)) (EX : String → Hp → Prop)
def EvE (te : TE) (f : Rho → M D) : Prop := ∀ {hp : Addr} {F0 H0 F H : Hp} {σ : L2.St} {ρ : Rho} {s : HS} {Q : VK}, Rel K T hp F0 H0 F H σ ρ s →
  Post (f ρ s) (fun d s' => ∀ F' H' v, Grow K T hp F H F' H' s' → Rp K F' v d → Q v H') (WX K T hp F0 H0 EX) → te σ H Q
def EvB (te : TE) (f : Rho → M D) : Prop := ∀ {hp : Addr} {F0 H0 F H : Hp} {σ : L2.St} {ρ : Rho} {s : HS} {Q : VK}, Rel K T hp F0 H0 F H σ ρ s →
  Post (f ρ s) (fun d s' => ∀ F' H' v, Grow K T hp F H F' H' s' → Bw K hp F' H' v d → Q v H') (WX K T hp F0 H0 EX) → te σ H Q
def EvL (te : TE) (f : Rho → M (List D)) : Prop := ∀ {hp : Addr} {F0 H0 F H : Hp} {σ : L2.St} {ρ : Rho} {s : HS} {Q : VK}, Rel K T hp F0 H0 F H σ ρ s →
  Post (f ρ s) (fun xs s' => ∀ F' H' p, Grow K T hp F H F' H' s' → NewL K hp H F' H' p xs → Q (.ref p) H') (WX K T hp F0 H0 EX) → te σ H Q
def EvT (tt : TT) (f : Rho → M Bool) : Prop := ∀ {hp : Addr} {F0 H0 F H : Hp} {σ : L2.St} {ρ : Rho} {s : HS} {Q : Bool → Hp → Prop}, Rel K T hp F0 H0 F H σ ρ s →
  Post (f ρ s) (fun b s' => ∀ F' H', Grow K T hp F H F' H' s' → Q b H') (WX K T hp F0 H0 EX) → tt σ H Q
def EvA (ta : TA) (f : Rho → M (List Sl)) : Prop := ∀ {hp : Addr} {F0 H0 F H : Hp} {σ : L2.St} {ρ : Rho} {s : HS} {Q : List V → Hp → Prop}, Rel K T hp F0 H0 F H σ ρ s →
  Post (f ρ s) (fun as s' => ∀ F' H' vs, Grow K T hp F H F' H' s' → ArgsOk K hp F' vs as → Q vs H') (WX K T hp F0 H0 EX) → ta σ H Q
def EvC (ta : TA) (f : Rho → M (List D)) : Prop := ∀ {hp : Addr} {F0 H0 F H : Hp} {σ : L2.St} {ρ : Rho} {s : HS} {Q : List V → Hp → Prop}, Rel K T hp F0 H0 F H σ ρ s →
  Post (f ρ s) (fun ds s' => ∀ F' H' vs, Grow K T hp F H F' H' s' → BwAll K hp F' H' vs ds → Q vs H') (WX K T hp F0 H0 EX) → ta σ H Q
/-- data, each in its place (a display's) -/
def EvD (ta : TA) (f : Rho → M (List D)) : Prop := ∀ {hp : Addr} {F0 H0 F H : Hp} {σ : L2.St} {ρ : Rho} {s : HS} {Q : List V → Hp → Prop}, Rel K T hp F0 H0 F H σ ρ s →
  Post (f ρ s) (fun ds s' => ∀ F' H' vs, Grow K T hp F H F' H' s' → RpAll K F' vs ds → Q vs H') (WX K T hp F0 H0 EX) → ta σ H Q
end
def O.lift {α : Type} : Option α → M α
  | some a => pure a
  | none => M.bad
theorem Post.lift {α : Type} {o : Option α} {s : HS} {P : α → HS → Prop} {W : String → HS → Prop} (h : Post (O.lift o s) P W) : ∃ a, o = some a ∧ P a s := by
  cases o with
  | some a => exact ⟨a, rfl, h⟩
  | none => exact h.elim
section
variable {K : PySem.W.Frag} {T : List (Addr × Str)} {EX : String → Hp → Prop} {hp : Addr} {F0 H0 F H F' H' : Hp} {s s' : HS} {v w : V} {a b d : D}
theorem Bw.dp (h : Bw K hp F H v d) (e : ∀ a o, F a = some o → H a = some o) : Dp K H v d := by
  rcases h with h | ⟨p, vs, xs, rfl, rfl, h1, h2, _⟩
  · exact (Rp.up e h).dp
  · exact .lst (.inl (.inl h1)) (RpAll.up e h2).dp
theorem Bw.grow (h : Bw K hp F H v d) (g : Grow K T hp F H F' H' s') : Bw K hp F' H' v d := by
  rcases h with h | ⟨p, vs, xs, rfl, rfl, h1, h2, h3⟩
  · exact .inl (Rp.up g.ff h)
  · exact .inr ⟨p, vs, xs, rfl, rfl, g.st p _ h1 (not_loose_lst h3), RpAll.up g.ff h2, h3⟩
theorem BwAll.grow (g : Grow K T hp F H F' H' s') : ∀ {vs : List V} {ds : List D}, BwAll K hp F H vs ds → BwAll K hp F' H' vs ds
  | _, _, .nil => .nil
  | _, _, .cons h a => .cons (h.grow g) (BwAll.grow g a)
theorem ArgOk.grow {x : Sl} (g : Grow K T hp F H F' H' s') (h : ArgOk K hp F v x) : ArgOk K hp F' v x := by
  cases x with
  | dat d => exact Rp.up (d := d) g.ff h
  | hand => exact h
  | un => exact h.elim
  | own xs => exact h.elim
theorem ArgsOk.grow (g : Grow K T hp F H F' H' s') : ∀ {vs : List V} {as : List Sl}, ArgsOk K hp F vs as → ArgsOk K hp F' vs as
  | _, _, .nil => .nil
  | _, _, .cons h a => .cons (h.grow g) (ArgsOk.grow g a)
/-- a list that is read: its items stand still -/
theorem Bw.list {xs : List D} (h : Bw K hp F H v (.list xs)) (e : ∀ a o, F a = some o → H a = some o) : ∃ p vs, v = .ref p ∧ H p = some (.lst vs) ∧ RpAll K F vs xs := by
  rcases h with h | ⟨p, vs, ys, rfl, e2, h1, h2, h3⟩
  · cases h with
    | lst h1 h2 => exact ⟨_, _, rfl, e _ _ h1, h2⟩
  · cases e2
    exact ⟨p, vs, rfl, h1, h2⟩
theorem Bw.tuple {xs : List D} (h : Bw K hp F H v (.tuple xs)) : ∃ p vs, v = .ref p ∧ SqT K F p vs ∧ RpAll K F vs xs := by
  rcases h with h | ⟨p, vs, ys, _, e2, _⟩
  · cases h with
    | tup h1 h2 => exact ⟨_, _, rfl, h1, h2⟩
  · cases e2
theorem Bw.int {i : Int} (h : Bw K hp F H v (.int i)) : v = .int i := by
  rcases h with h | ⟨p, vs, ys, _, e2, _⟩
  · cases h; rfl
  · cases e2
theorem Bw.bool {i : Bool} (h : Bw K hp F H v (.bool i)) : v = .bl i := by
  rcases h with h | ⟨p, vs, ys, _, e2, _⟩
  · cases h; rfl
  · cases e2
theorem Bw.str {x : Str} (h : Bw K hp F H v (.str x)) : v = .str x := by
  rcases h with h | ⟨p, vs, ys, _, e2, _⟩
  · cases h; rfl
  · cases e2
theorem Bw.none (h : Bw K hp F H v .none) : v = .non := by
  rcases h with h | ⟨p, vs, ys, _, e2, _⟩
  · cases h; rfl
  · cases e2

theorem EvE.toB {te : TE} {f : Rho → M D} (h : EvE K T EX te f) : EvB K T EX te f := fun R p => h R (p.mono fun d s' k F' H' v g r => k F' H' v g (.inl r))
/-- freezing a new list -/
theorem NewL.freeze {xs : List D} {p : Addr} (n : NewL K hp H F' H' p xs) (g : Grow K T hp F H F' H' s') : ∃ F2, Grow K T hp F H F2 H' s' ∧ Rp K F2 (.ref p) (.list xs) := by
  obtain ⟨vs, h1, h2⟩ := n.ex
  have up : ∀ a o, F' a = some o → upd F' p (.lst vs) a = some o := fun x u e => by
    rw [upd_ne (ne_of_none e n.nF)]; exact e
  refine ⟨upd F' p (.lst vs), ⟨fun x u e => up _ _ (g.ff x u e), fun x u e => ?_, g.st, fun x u e => ?_, g.tabs, g.hand.up up ?_ rfl⟩, .lst upd_same (RpAll.up up h2)⟩
  · by_cases q : x = p
    · rw [q]; exact .inr n.lo
    · rw [upd_ne q] at e; exact g.nw x u e
  · by_cases q : x = p
    · rw [q, upd_same] at e; cases e; rw [q]; exact h1
    · rw [upd_ne q] at e; exact g.sub x u e
  · obtain ⟨c, z, _⟩ := g.hand
    rw [upd_ne n.nh.symm]; exact z
theorem EvL.toE {te : TE} {f : Rho → M (List D)} (h : EvL K T EX te f) : EvE K T EX te (fun ρ => do let xs ← f ρ; pure (.list xs)) := fun R p =>
  h R (p.bind.mono fun xs s' k F' H' p g n => by
    obtain ⟨F2, g2, r⟩ := n.freeze g
    exact k F2 H' _ g2 r)
theorem EvL.toB {te : TE} {f : Rho → M (List D)} (h : EvL K T EX te f) : EvB K T EX te (fun ρ => do let xs ← f ρ; pure (.list xs)) := fun R p =>
  h R (p.bind.mono fun xs s' k F' H' p g n => by
    obtain ⟨vs, h1, h2⟩ := n.ex
    exact k F' H' _ g (.inr ⟨p, vs, xs, rfl, rfl, h1, h2, n.nh⟩))
/-- a new list where H had nothing -/
theorem NewL.of (G : Grow K T hp F0 H0 F H s) {p : Addr} {vs : List V} {xs : List D} (hn : H p = none) (r : RpAll K F vs xs) : NewL K hp H F (upd H p (.lst vs)) p xs := by
  refine ⟨⟨vs, upd_same, r⟩, ?_, G.noHp hn, fun u e => ?_⟩
  · cases q : F p with
    | none => rfl
    | some u =>
      rw [G.sub p u q] at hn
      cases hn
  · rw [hn] at e
    cases e
/-! ### names, constants -/
@[simp] def rdat (i : Nat) (ρ : Rho) : M D := match ρ[i]? with
  | some (.dat d) => pure d
  | _ => M.bad
@[simp] def rany (i : Nat) (ρ : Rho) : M D := match ρ[i]? with
  | some (.dat d) => pure d
  | some (.own xs) => pure (.list xs)
  | _ => M.bad
theorem ev_var (i : Nat) : EvE K T EX (tVar i) (rdat i) := fun {hp F0 H0 F H σ ρ s Q} R p => by
  unfold rdat at p
  cases q : ρ[i]? with
  | none => rw [q] at p; exact p.elim
  | some x =>
    rw [q] at p
    cases x with
    | dat d =>
      obtain ⟨v, h1, h2⟩ := R.sl i _ q
      exact ⟨v, h1, p.ret F H v R.g.refl h2⟩
    | un => exact p.elim
    | own xs => exact p.elim
    | hand => exact p.elim
theorem evb_var (i : Nat) : EvB K T EX (tVar i) (rany i) := fun {hp F0 H0 F H σ ρ s Q} R p => by
  unfold rany at p
  cases q : ρ[i]? with
  | none => rw [q] at p; exact p.elim
  | some x =>
    rw [q] at p
    cases x with
    | dat d =>
      obtain ⟨v, h1, h2⟩ := R.sl i _ q
      exact ⟨v, h1, p.ret F H v R.g.refl (.inl h2)⟩
    | un => exact p.elim
    | own xs =>
      obtain ⟨v, vs, h1, h2, h3, h4, h5, _⟩ := R.sl i _ q
      exact ⟨.ref v, h1, p.ret F H _ R.g.refl (.inr ⟨v, vs, xs, rfl, rfl, h2, h3, h5⟩)⟩
    | hand => exact p.elim
theorem ev_c {v : V} {d : D} (h : ∀ F, Rp K F v d) : EvE K T EX (tC v) (fun _ => pure d) := fun R p => p.ret _ _ _ R.g.refl (h _)
theorem ev_int (i : Int) : EvE K T EX (tC (.int i)) (fun _ => pure (.int i)) := ev_c fun _ => .int i
theorem ev_bl (i : Bool) : EvE K T EX (tC (.bl i)) (fun _ => pure (.bool i)) := ev_c fun _ => .bl i
theorem ev_str (i : Str) : EvE K T EX (tC (.str i)) (fun _ => pure (.str i)) := ev_c fun _ => .str i
theorem ev_non : EvE K T EX (tC .non) (fun _ => pure .none) := ev_c fun _ => .non

/-! ### operators -/
/-- an operator by values keeps what h says of the data -/
def OpP (K : PySem.W.Frag) (r : R2) (h : D → D → Option D) : Prop := ∀ {T : List (Addr × Str)} {hp : Addr} {F0 H0 F H : Hp} {s : HS} {v w : V} {a b d : D} {Q : VK}, Grow K T hp F0 H0 F H s → Bw K hp F H v a → Bw K hp F H w b → h a b = some d →
  (∀ F' H' u, Grow K T hp F H F' H' s → Rp K F' u d → Q u H') → r v w H Q
def OpN (K : PySem.W.Frag) (r : R2) (h : D → D → Option (List D)) : Prop := ∀ {T : List (Addr × Str)} {hp : Addr} {F0 H0 F H : Hp} {s : HS} {v w : V} {a b : D} {xs : List D} {Q : VK}, Grow K T hp F0 H0 F H s → Bw K hp F H v a → Bw K hp F H w b → h a b = some xs →
  (∀ F' H' p, Grow K T hp F H F' H' s → NewL K hp H F' H' p xs → Q (.ref p) H') → r v w H Q
@[simp] def f2 (h : D → D → Option D) (fa fb : Rho → M D) : Rho → M D := fun ρ => do
  let a ← fa ρ
  let b ← fb ρ
  O.lift (h a b)
@[simp] def f2L (h : D → D → Option (List D)) (fa fb : Rho → M D) : Rho → M (List D) := fun ρ => do
  let a ← fa ρ
  let b ← fb ρ
  O.lift (h a b)
theorem ev_op {ta tb : TE} {fa fb : Rho → M D} {r : R2} {h : D → D → Option D} (ha : EvB K T EX ta fa) (hb : EvB K T EX tb fb) (hr : OpP K r h) : EvE K T EX (tOp r ta tb) (f2 h fa fb) := fun R p =>
  ha R (p.bind.mono fun a s1 k1 F1 H1 v g1 b1 => hb (R.grow g1) (k1.bind.mono fun b s2 k2 F2 H2 w g2 b2 => by
    obtain ⟨d, e, k⟩ := k2.lift
    exact hr ((R.grow g1).grow g2).g (b1.grow g2) b2 e fun F' H' u g3 r3 => k F' H' u ((g1.trans g2).trans g3) r3))
theorem Grow.newL {F2 H2 : Hp} {s2 : HS} {p : Addr} {xs : List D} (g : Grow K T hp F H F2 H2 s2) (n : NewL K hp H2 F' H' p xs) : NewL K hp H F' H' p xs := ⟨n.ex, n.nF, n.nh, fun u e => by
  refine Classical.byContradiction fun z => z (n.lo u (g.st p u e z))⟩
theorem evl_op {ta tb : TE} {fa fb : Rho → M D} {r : R2} {h : D → D → Option (List D)} (ha : EvB K T EX ta fa) (hb : EvB K T EX tb fb) (hr : OpN K r h) : EvL K T EX (tOp r ta tb) (f2L h fa fb) := fun R p =>
  ha R (p.bind.mono fun a s1 k1 F1 H1 v g1 b1 => hb (R.grow g1) (k1.bind.mono fun b s2 k2 F2 H2 w g2 b2 => by
    obtain ⟨d, e, k⟩ := k2.lift
    exact hr ((R.grow g1).grow g2).g (b1.grow g2) b2 e fun F' H' u g3 r3 => k F' H' u ((g1.trans g2).trans g3) ((g1.trans g2).newL r3)))
def UnP (K : PySem.W.Frag) (r : V → Hp → VK → Prop) (h : D → Option D) : Prop := ∀ {T : List (Addr × Str)} {hp : Addr} {F0 H0 F H : Hp} {s : HS} {v : V} {a d : D} {Q : VK}, Grow K T hp F0 H0 F H s → Bw K hp F H v a → h a = some d →
  (∀ F' H' u, Grow K T hp F H F' H' s → Rp K F' u d → Q u H') → r v H Q
@[simp] def f1 (h : D → Option D) (fa : Rho → M D) : Rho → M D := fun ρ => do
  let a ← fa ρ
  O.lift (h a)
theorem ev_un {ta : TE} {fa : Rho → M D} {r : V → Hp → VK → Prop} {h : D → Option D} (ha : EvB K T EX ta fa) (hr : UnP K r h) : EvE K T EX (tUn r ta) (f1 h fa) := fun R p =>
  ha R (p.bind.mono fun a s1 k1 F1 H1 v g1 b1 => by
    obtain ⟨d, e, k⟩ := k1.lift
    exact hr (R.grow g1).g b1 e fun F' H' u g3 r3 => k F' H' u (g1.trans g3) r3)
end
end Jw
/-! Rules for what the hand layer leaves out: a tuple from behind, a tuple times 1 or less, min of a list of data, enumerate of a tuple. -/
namespace Jw
open PySem PySem.Spec PyProof.Rows L2
section
variable {prog : Program} {w : World} {A : Around} {E : Value → Shared → Prop} {s : Shared}
/-! ### t[::-1] -/
theorem back_adjust (n : Nat) : Builtin.Slice.sliceAdjust none none (-1) (n : Int) = ((n : Int) - 1, -1) := rfl
theorem back_places (n : Nat) : Builtin.Slice.slicePlaces ((n : Int) - 1) (-1) (-1) = n := by
  unfold Builtin.Slice.slicePlaces
  rw [if_neg (by decide)]
  by_cases h : n = 0
  · subst h; rfl
  · rw [if_pos (by omega)]
    have e : ((n : Int) - 1 - -1 - 1) / (- -1) + 1 = n := by
      rw [show (- -1 : Int) = 1 by decide, Int.ediv_one]
      omega
    rw [e]
    exact Int.toNat_natCast n
theorem back_applied {sl : Addr} {vl vu vs : Value} {n : Nat} {Q : Int × Int × Nat → Shared → Prop} (hs : s.heap.IsSliceOf sl vl vu vs) (pl : IsPart vl none) (pu : IsPart vu none) (ps : IsPart vs (some (-1)))
    (h : Q ((n : Int) - 1, -1, n) s) : wpAny (model prog w) A (Builtin.Slice.sliceApplied (.ref sl) (pure (n : Int))) Q E s := by
  obtain ⟨os, hos, hcs, hds⟩ := id hs
  unfold Builtin.Slice.sliceApplied Builtin.Slice.sliceFields
  refine wpAny_bind (wpAny_bind (wpAny_field hos hds (x := vl) rfl (wpAny_bind (wpAny_field hos hds (x := vu) rfl (wpAny_bind (wpAny_field hos hds (x := vs) rfl (wpAny_pure ?_)))))))
  refine wpAny_bind (HT.slicePart_ ps ?_)
  show wpAny _ _ (if ((-1 : Int) == 0) = true then _ else _) _ _ s
  rw [if_neg (by decide)]
  refine wpAny_bind (HT.slicePart_ pl (wpAny_bind (HT.slicePart_ pu (wpAny_bind (wpAny_pure ?_)))))
  have e : (match Builtin.Slice.sliceAdjust none none ((some (-1 : Int)).getD 1) (n : Int) with | (lo, hi) => (pure (lo, (some (-1 : Int)).getD 1, Builtin.Slice.slicePlaces lo hi ((some (-1 : Int)).getD 1)) : Sem (Int × Int × Nat))) = pure ((n : Int) - 1, -1, n) := by
    show (pure ((n : Int) - 1, (-1 : Int), Builtin.Slice.slicePlaces ((n : Int) - 1) (-1) (-1)) : Sem (Int × Int × Nat)) = _
    rw [back_places]
  exact wpAny_of_eq e h
theorem back_pick (xs : Array Value) : ((List.range xs.size).filterMap fun (k : Nat) => xs[(((xs.size : Nat) : Int) - 1 + (k : Int) * -1).toNat]?).toArray = xs.toList.reverse.toArray := by
  congr 1
  have key : ∀ (l : List Nat), (∀ k ∈ l, k < xs.size) → l.filterMap (fun (k : Nat) => xs[(((xs.size : Nat) : Int) - 1 + (k : Int) * -1).toNat]?) = l.map fun k => xs.toList.reverse.getD k .none := by
    intro l
    induction l with
    | nil => intro _; rfl
    | cons k l ih =>
      intro hk
      have hk' := hk k List.mem_cons_self
      have e1 : (((xs.size : Nat) : Int) - 1 + (k : Int) * -1).toNat = xs.size - 1 - k := by omega
      have h2 : xs.size - 1 - k < xs.size := by omega
      have e2 : xs[(((xs.size : Nat) : Int) - 1 + (k : Int) * -1).toNat]? = some (xs.toList.reverse.getD k .none) := by
        rw [e1, Array.getElem?_eq_getElem h2, List.getD_eq_getElem?_getD, List.getElem?_reverse (by rw [Array.length_toList]; exact hk'), Array.length_toList, List.getElem?_eq_getElem (by rw [Array.length_toList]; exact h2)]
        simp
      rw [List.filterMap_cons, e2, List.map_cons, ih fun j hj => hk j (List.mem_cons_of_mem _ hj)]
  have e := key (List.range xs.size) fun k hk => List.mem_range.mp hk
  rw [e]
  refine List.ext_getElem (by simp) fun i h1 h2 => ?_
  rw [List.getElem_map, List.getElem_range, List.getD_eq_getElem?_getD, List.getElem?_eq_getElem h2]
  rfl
theorem getItem_tuple_back {t sl : Addr} {items : Array Value} {vl vu vs : Value} {Q : Value → Shared → Prop} (ht : IsTup s.heap t items) (hs : s.heap.IsSliceOf sl vl vu vs) (pl : IsPart vl none) (pu : IsPart vu none) (ps : IsPart vs (some (-1)))
    (h : Q (.ref s.heap.objs.size) { s with heap := s.heap.push { cls := .type "tuple", data := .seq items.toList.reverse.toArray } })
    (hsz : items.size ≤ sizeLine) : wpAny (model prog w) A (getItem (.ref t) (.ref sl)) Q E s := by
  have hfit : sizeOk (.seq items.toList.reverse.toArray) := by
    show items.toList.reverse.toArray.size ≤ sizeLine
    rw [List.size_toArray, List.length_reverse, Array.length_toList]
    exact hsz
  obtain ⟨os, hos, hcs, hds⟩ := id hs
  have hTs : s.TypeIs (.ref sl) "slice" := ⟨os, hos, hcs⟩
  unfold getItem
  try with_reducible refine wpAny_holding ?_
  first | refine wpAny_bind (wpAny_pure ?_) | skip
  refine wpAny_bind (wpAny_sequenceKey ht.typeIs (by decide) ?_)
  refine wpAny_bind (wpAny_callSpecial?_slot (name := Str.ofString "__getitem__") ht.typeIs slot_tuple_getitem (wpAny_call_entry slot_tuple_getitem ht.typeIs entry_tuple_getitem ?_ (args_tuple_getitem _ _)))
  show wpAny _ _ (Builtin.Tuple.tupleItemsOf (.ref t) >>= _) _ _ s
  refine wpAny_bind (tupleItemsOf_ ht (wpAny_bind (wpAny_typeOf hTs ?_)))
  rw [if_pos (by decide)]
  refine wpAny_bind (back_applied hs pl pu ps ?_)
  show wpAny _ _ (if ((((items.size : Nat) : Int) - 1) == 0 && (-1 : Int) == 1 && items.size == items.size) = true then _ else _) _ _ s
  rw [if_neg (by simp), back_pick]
  first
    | exact wpAny_bind (m := Builtin.Tuple.tupleExact _) (wpAny_newObj_type (wpAny_pure ⟨_, rfl, wpAny_pure h⟩) hfit)
    | exact wpAny_bind (m := Builtin.Tuple.tupleExact _) (wpAny_newObj_type (wpAny_bind (wpAny_pure (wpAny_pure ⟨_, rfl, wpAny_pure h⟩))) hfit)
    | exact wpAny_bind (wpAny_bind (m := Builtin.Tuple.tupleExact _) (wpAny_newObj_type (wpAny_pure (wpAny_pure ⟨_, rfl, wpAny_pure h⟩)) hfit))
    | exact wpAny_bind (wpAny_bind (m := Builtin.Tuple.tupleExact _) (wpAny_newObj_type (wpAny_pure ⟨_, rfl, wpAny_pure h⟩) hfit))
end
theorem Vals.rev {xs : List V} {us : List Value} (r : Vals xs us) : Vals xs.reverse us.reverse := by
  induction r with
  | nil => exact .nil
  | cons h _ ih =>
    rw [List.reverse_cons, List.reverse_cons]
    exact ih.append (.cons h .nil)
def tBackT (K : PySem.W.Frag) (te : TE) : TE := fun σ H Q => te σ H fun x H1 => ∃ a xs, x = .ref a ∧ SqT K H1 a xs ∧ ∀ p, H1 p = none → Q (.ref p) (upd H1 p (.tup xs.reverse))
section
variable {X : Cx} {T : List (Addr × Str)} {EX : String → Hp → Prop} {pos p : Pos}
theorem pe_backT {e : Expr} {te : TE} {k : Nat} {p1 p2 p3 : Pos} (he : PE X e te) : PE X (.Subscript e (.Slice none none (some (.UnaryOp .USub (.Constant (.int 1) k p1) p2)) p3) pos) (tBackT X.K te) := by
  constructor
  intro pins s σ H Q I h
  refine Subscript_ (thn (he.run pins s σ H _ I h) ?_)
  rintro v t1 ⟨x, G, J, rv, a, xs, rfl, hx, q⟩
  cases rv
  have hst : PO X (some (.UnaryOp .USub (.Constant (.int 1) k p1) p2)) (tPart (tUn (rU fun i => .int (-i)) (tC (.int 1)))) := po_some (pe_un un_neg pe_int)
  refine wpAny_Slice (thn (po_none.run pins t1 σ G (fun o H2 => o = none ∧ H2 = G) J ⟨rfl, rfl⟩) ?_)
  rintro vl t2 ⟨l, G2, J2, pl, rfl, rfl⟩
  refine thn (po_none.run pins t2 σ G2 (fun o H3 => o = none ∧ H3 = G2) J2 ⟨rfl, rfl⟩) ?_
  rintro vu t3 ⟨u, G3, J3, pu, rfl, rfl⟩
  refine thn (hst.run pins t3 σ G3 (fun o H4 => o = some (-1) ∧ H4 = G3) J3 ⟨1, rfl, -1, rfl, rfl, rfl⟩) ?_
  rintro vs t4 ⟨o, G4, J4, ps, rfl, rfl⟩
  have J5 : L2.Inv X pins σ G4 { t4 with heap := t4.heap.push { cls := .type "slice", data := .fields #[vl, vu, vs] } } := J4.kept (t' := t4.toks) fun b ob z => Heap.get?_push_of_some _ z
  obtain ⟨its, r, ht, hz⟩ := J5.tuple hx
  have hlen := r.length
  show wpAny (model X.prog X.w) X.A (subscriptTail e (.Slice none none (some (.UnaryOp .USub (.Constant (.int 1) k p1) p2)) p3) (.ref a) (.ref t4.heap.objs.size)) (EP X pins σ Q) X.xe _
  refine tail_any (ops := [.ref a, .ref t4.heap.objs.size]) ht.typeIs (slot_tuple_getitem.lookup) ?_ (by with_unfolding_all rfl)
  refine getItem_tuple_back ht (Heap.IsSliceOf.new _ vl vu vs) pl pu ps ?_ (by rw [List.size_toArray]; omega)
  refine ⟨.ref _, _, J5.laid (t' := t4.toks) (o := .tup xs.reverse) (fun b ob z => Heap.get?_push_of_some _ z) (Nat.le_refl _) ?_, rfl, q _ (J5.hok.fresh (Nat.le_refl _))⟩
  exact ⟨by rw [List.length_reverse]; exact hz, _, Vals.rev r, ⟨_, Heap.get?_push_size _ rfl, rfl, _, rfl⟩⟩
end
end Jw
namespace Jw
open PySem PySem.Spec PyProof.Rows L2
/-! ### a tuple times an int: 1 gives itself, less nothing -/
section
variable {K : PySem.W.Frag}
theorem tuple_mulA (l : Addr) (items : Array Value) (n : Nat) (dd : Option Addr) (sl : Array (Option Value)) (x : Int) (u : Tok) (c0 : (decide (x < -(2 ^ 63)) || decide (x ≥ 2 ^ 63)) = false) (c1 : (items.isEmpty || x == 1) = true) :
    Meets (Builtin.«tuple.__mul__» ⟨[.ref l, .int x u], []⟩) (fun _ R s => s.heap.get? l = some { cls := .type "tuple", dict := dd, data := .seq items n, slots := sl } ∧ R (.ok (.ret (Value.ref l))) s) :=
  .of_wp fun prog w A R s h => by
    obtain ⟨hp, g, d, tk, os⟩ := s
    obtain ⟨hl, h⟩ := h
    have f1 := AutoSeq1.idx_int
    wp_walk using wpAny_loadPart' hl
    repeat (first
      | (refine wpAny_ite_false (decide_eq_false (by rw [c0]; exact Bool.false_ne_true)) ?_; wp_walk using wpAny_loadPart' hl)
      | (refine wpAny_ite_true (decide_eq_true c1) ?_; wp_walk using wpAny_loadPart' hl))
    exact ⟨_, rfl, h⟩
theorem tuple_mulB (l : Addr) (items : Array Value) (n : Nat) (dd : Option Addr) (sl : Array (Option Value)) (x : Int) (u : Tok) (c0 : (decide (x < -(2 ^ 63)) || decide (x ≥ 2 ^ 63)) = false) (c1 : (items.isEmpty || x == 1) = false) (c2 : (decide (x ≤ 0) || items.isEmpty) = true) :
    Meets (Builtin.«tuple.__mul__» ⟨[.ref l, .int x u], []⟩) (fun _ R s => s.heap.get? l = some { cls := .type "tuple", dict := dd, data := .seq items n, slots := sl } ∧
      R (.ok (.ret (Value.ref s.heap.objs.size))) { s with heap := s.heap.push { cls := Value.type "tuple", data := Data.seq #[] }, toks := s.toks }) :=
  .of_wp fun prog w A R s h => by
    obtain ⟨hp, g, d, tk, os⟩ := s
    obtain ⟨hl, h⟩ := h
    have f1 := AutoSeq1.idx_int
    wp_walk using wpAny_loadPart' hl
    repeat (first
      | (refine wpAny_ite_false (decide_eq_false (by rw [c0]; exact Bool.false_ne_true)) ?_; wp_walk using wpAny_loadPart' hl)
      | (refine wpAny_ite_false (decide_eq_false (by rw [c1]; exact Bool.false_ne_true)) ?_; wp_walk using wpAny_loadPart' hl)
      | (refine wpAny_ite_true (decide_eq_true c2) ?_; wp_walk using wpAny_loadPart' hl))
    exact ⟨_, rfl, h⟩
end
end Jw
namespace Jw
open PySem PySem.Spec PyProof.Rows L2
/-- the pairs of enumerate over the tuple at a -/
def ItEt (K : PySem.W.Frag) (a : Addr) : It :=
  ⟨fun i H => ∃ (xs : List V) (x : V), SqT K H a xs ∧ xs[i]? = some x, fun i H v H' => ∃ P x, v = .ref P ∧ H P = none ∧ H' = upd H P (.tup [.int (i : Nat), x]) ∧ ∀ xs, SqT K H a xs → xs[i]? = some x, fun i H => ∃ xs : List V, SqT K H a xs ∧ xs.length = i⟩
theorem turn_enumT {P : Program} {w : World} {K : PySem.W.Frag} {es : List Expr} {k0 : Nat} {tp : Pos} (a e it : Addr) :
    Turn P w K (.Tuple es k0 tp) (ItEt K a) [e, it] e (fun i h => (∃ old, IsEnum h e it ((i : Nat) : Int) old) ∧ h.IsTupleIter it a i ∧ e ≠ it) where
  mem := List.mem_cons_self
  obj := fun i h st b hb => by
    obtain ⟨⟨old, he⟩, ⟨o, ho, _, hd⟩, _⟩ := st
    rcases List.mem_cons.mp hb with rfl | hb
    · exact ⟨_, he, fun v q => nomatch q⟩
    · cases List.mem_singleton.mp hb
      exact ⟨o, ho, fun v q => by rw [hd] at q; cases q⟩
  keep := fun i h h' ⟨⟨old, he⟩, hi, n⟩ k => ⟨⟨old, k e List.mem_cons_self _ he⟩, hi.at fun o q => k it (List.mem_cons_of_mem _ List.mem_cons_self) o q, n⟩
  item := by
    intro X hP hw hK hc i pins s σ H E I hf ⟨⟨old, he⟩, hit, hne⟩ hg
    subst hP hw hK
    obtain ⟨xs, x, hq, hx⟩ := hg
    obtain ⟨its, rv, p, hz⟩ := I.tuple hq
    obtain ⟨u, hu, ru⟩ := rv.get hx
    have hel := Heap.lt_size he
    have hil : it < s.heap.objs.size := by
      obtain ⟨_, q, _⟩ := hit
      exact Heap.lt_size q
    have nea : e ≠ a := fun z => by
      obtain ⟨o, ho, hcl, _⟩ := p
      rw [← z, he] at ho
      cases ho
      exact absurd (Value.type.inj hcl) (by decide)
    have nia : a ≠ it := fun z => by
      obtain ⟨o, ho, hcl, _⟩ := p
      obtain ⟨o2, ho2, hcl2, _⟩ := hit
      rw [z, ho2] at ho
      cases ho
      rw [hcl2] at hcl
      exact absurd hcl (by decide)
    have hil2 : i < its.toArray.size := by
      rw [List.size_toArray, ← rv.length]
      exact (List.getElem?_eq_some_iff.mp hx).1
    refine wpAny_pyNext_enum_itemD (Draws.tuple (A := X.A.in1) (I.ok.hd hc) it a nia its.toArray) he ⟨hit, p⟩ hil2 hne (by simp [nea, hne]) fun y h' tk hy ho hs' hT hsz hk => ?_
    have hyu : y = u := by
      have e1 : its.toArray[i]? = some u := by simpa using hu
      rw [e1] at hy
      exact (Option.some.inj hy).symm
    subst hyu
    refine ⟨_, rfl, wpAny_letOwnedTupleGo_enum (s := { s with heap := h', toks := tk + 1 }) ho fun h'' he' sb => ?_⟩
    have hT2 : h''.get? s.heap.objs.size = some { cls := .type "tuple", data := .seq #[.int i tk, y] } := (sb.2 _ (Nat.ne_of_gt hel)).trans hT
    have I1 : Inv X pins σ (upd H s.heap.objs.size (.tup [.int (i : Nat), x])) { s with heap := h'', toks := tk + 1 } :=
      I.turnedNew (ch := [e, it]) (fun b ob hb q => (sb.2 b (fun z => hb (by simp [z]))).trans (hk b ob (fun z => hb (by simp [z])) (fun z => hb (by simp [z])) q)) hf (Nat.le_refl _)
        ⟨by show 2 ≤ sizeLine; decide, [.int i tk, y], .cons ⟨_, rfl⟩ (.cons ru .nil), ⟨_, hT2, rfl, _, rfl⟩⟩
    refine ⟨.ref s.heap.objs.size, _, I1, rfl, ⟨_, x, rfl, I.hok.fresh (Nat.le_refl _), rfl, fun ys hy => by rw [I.tuple_inj hy hq]; exact hx⟩, ⟨⟨y, ?_⟩, hs'.1.at fun o q => (sb.2 it (Ne.symm hne)).trans q, hne⟩, fun b hb => ?_⟩
    · have e1 : ((i + 1 : Nat) : Int) = (i : Int) + 1 := by omega
      rw [e1]; exact he'
    · have hb' : b < s.heap.objs.size := by
        rcases List.mem_cons.mp hb with rfl | hb
        · exact hel
        · cases List.mem_singleton.mp hb
          exact hil
      rw [upd_ne (Nat.ne_of_lt hb')]
      exact (hf b hb).1
  done := by
    intro X hP hw hK hc i pins s σ H E I hf ⟨⟨old, he⟩, hit, hne⟩ hg
    subst hP hw hK
    obtain ⟨xs, hq, hx⟩ := hg
    obtain ⟨its, rv, p, hz⟩ := I.tuple hq
    obtain ⟨f0, f1, f2, f3, f4, f5⟩ := hf it (by simp)
    have hl := rv.length
    have nia : a ≠ it := fun z => by
      obtain ⟨o, ho, hcl, _⟩ := p
      obtain ⟨o2, ho2, hcl2, _⟩ := hit
      rw [z, ho2] at ho
      cases ho
      rw [hcl2] at hcl
      exact absurd hcl (by decide)
    have hn : its.toArray.size = i := by rw [List.size_toArray, ← hl]; exact hx
    refine wpAny_pyNext_enum_endD (Draws.tuple (A := X.A.in1) (I.ok.hd hc) it a nia its.toArray) he (by rw [hn]; exact ⟨hit, p⟩) ?_
    exact fun h' eb => ⟨rfl, I.turned (t' := s.toks) (fun b o hb q => eb b o hb q) f0 f1 f3 f4 f5⟩
  self := fun A i s Q E ⟨⟨_, he⟩, _⟩ h => wpAny_pyIter_enum he h
set_option maxHeartbeats 1000000 in
theorem enumerate1 {v : Value} {o : Obj} {G : Heap → Prop} (B : Begins v o G) :
    Meets (Builtin.«enumerate.__new__» ⟨[.type "enumerate", v], []⟩) (fun _ R s => G s.heap ∧
      R (.ok (.ret (.ref (s.heap.push o).objs.size))) { s with heap := (s.heap.push o).push { cls := .type "enumerate", data := .fields #[.none, .bool false, .ref s.heap.objs.size, rawInt 0, .none, .none] } }) := by
  refine .of_wp fun prog w A R s h => ?_
  obtain ⟨hp, g, d, tk, os⟩ := s
  obtain ⟨h1, h⟩ := h
  have hsub := sub_enumerate
  have q1 : ∀ {A' : Around} {E : Value → Shared → Prop} {Q : Value → Shared → Prop}, Q (.ref hp.objs.size) ⟨hp.push o, g, d, tk, os⟩ → wpAny (model prog w) A' (pyIter v) Q E ⟨hp, g, d, tk, os⟩ := fun q => B.iter prog w _ _ ⟨hp, g, d, tk, os⟩ _ h1 q
  wp_walk using q1
  refine wpAny_stack_any fun st => wpAny_pure ?_
  split
  · rename_i c _ _ _ _ _
    cases (c == Value.type "enumerate") <;> (wp_walk using q1; exact ⟨_, rfl, h⟩)
  · wp_walk using q1
    exact ⟨_, rfl, h⟩
def iEnumT (K : PySem.W.Frag) (ta : TA) : TI := fun σ H R => ta σ H fun vs H1 => ∃ a xs, vs = [.ref a] ∧ SqT K H1 a xs ∧ R (ItEt K a) H1
theorem pi_enumT {X : Cx} {e : Expr} {ta : TA} {p pos tp : Pos} {es : List Expr} {k0 : Nat} (hg : Gl X "enumerate") (hm : X.mg "enumerate" = none) (ha : PA X [e] ta) (hs : starEach [e] X.env = [(false, eval e X.env)] := by rfl) :
    PI X (.Tuple es k0 tp) (.Call (.Name "enumerate" p) [e] [] pos) (iEnumT X.K ta) := by
  constructor
  intro pins s σ H R I h
  refine Call_ (ld_blt I hg hm boot_enumerate (PyProof.Rows.callWith_type1 (thn (ha.run pos pins s σ H _ I h) ?_) hs rfl))
  rintro us s1 ⟨vs, H1, I1, r1, a, xs, rfl, hq, q⟩
  cases r1 with
  | cons r rr =>
    cases rr
    cases r
    obtain ⟨its, rv, p', hz⟩ := I1.tuple hq
    refine callType_new F.called_enumerate (by decide) (F.typeCall_enumerate_1 _) (F.newCall_enumerate_1 _) (fun obj => F.args_object_init_2 obj _) F.entry_enumerate_new (enumerate1 (begins_tuple a its.toArray)) ⟨p', ?_⟩
    generalize hb : s1.heap.push { cls := .type "tuple_iterator", data := .fields #[.ref a, .int 0 0] } = h1
    have z1 : h1.objs.size = s1.heap.objs.size + 1 := by rw [← hb]; exact Heap.size_push ..
    have i1 : h1.get? s1.heap.objs.size = some { cls := .type "tuple_iterator", data := .fields #[.ref a, .int 0 0] } := by rw [← hb]; exact Heap.get?_push_size _ rfl
    have k1 : ∀ b ob, s1.heap.get? b = some ob → h1.get? b = some ob := fun b ob x => by rw [← hb]; exact Heap.get?_push_of_some _ x
    have he : IsEnum (h1.push { cls := .type "enumerate", data := .fields #[.none, .bool false, .ref s1.heap.objs.size, rawInt 0, .none, .none] }) h1.objs.size s1.heap.objs.size 0 .none := Heap.get?_push_size h1 rfl
    refine ⟨⟨_, he, rfl⟩, wpAny_pyIter_enum he ?_⟩
    have I2 : Inv X pins σ H1 { s1 with heap := h1.push { cls := .type "enumerate", data := .fields #[.none, .bool false, .ref s1.heap.objs.size, rawInt 0, .none, .none] } } := I1.kept (t' := s1.toks) fun b ob x => Heap.get?_push_of_some _ (k1 b ob x)
    refine ⟨h1.objs.size, [h1.objs.size, s1.heap.objs.size], _, _, H1, rfl, I2, turn_enumT a h1.objs.size s1.heap.objs.size, ⟨⟨.none, he⟩, ⟨_, Heap.get?_push_of_some _ i1, rfl, rfl⟩, by rw [z1]; exact Nat.succ_ne_self _⟩, fun b hb => ?_, q⟩
    have hle : s1.heap.objs.size ≤ b := by
      rcases List.mem_cons.mp hb with rfl | hb
      · rw [z1]; exact Nat.le_add_right _ _
      · rw [List.mem_singleton.mp hb]; exact Nat.le_refl _
    exact I1.fpOk hle (I1.hok.fresh hle)
end Jw
namespace Jw
open PySem PySem.Spec PyProof.Rows L2
/-- a tuple times 1 or less, the empty tuple times anything -/
def rRepS (K : PySem.W.Frag) : R2 := fun x y H Q => ∃ l k xs, x = .ref l ∧ y = .int k ∧ SqT K H l xs ∧ -(2 ^ 63) ≤ k ∧ k < 2 ^ 63 ∧ ((xs = [] ∨ k = 1) ∧ Q (.ref l) H ∨ xs ≠ [] ∧ k ≤ 0 ∧ ∀ p, H p = none → Q (.ref p) (upd H p (.tup [])))
section
variable {X : Cx}
theorem op_repS : OpR X (binaryOp .Mult) (rRepS X.K) := by
  rintro pins s σ H x y v u Q I rx ry ⟨l, k, xs, rfl, rfl, hT, k0, k1, h⟩
  cases rx
  obtain ⟨t, rfl⟩ := ry
  obtain ⟨its, r, ⟨⟨cls, dd, data, sl⟩, ho, hc, n, hd⟩, hs⟩ := I.tuple hT
  simp only at hc hd
  subst hc hd
  have c0 : (decide (k < -(2 ^ 63)) || decide (k ≥ 2 ^ 63)) = false := by
    rw [decide_eq_false (by omega), decide_eq_false (by omega)] <;> rfl
  refine wpAny_binaryOp_repeat_ref (T := "tuple") (U := "int") (by decide) ⟨_, ho, rfl⟩ (fun s' => typeIs_int s' k t) noFill_tuple_mul F.fills_int_mul F.slot_int_rmul repeat_tuple F.slot_int_index.lookup
    (call_meets F.slot_int_rmul (typeIs_int s k t) F.entry_int_rmul (F.args_int_rmul_2 _ _) (int_rmul_tuple k t l its.toArray n dd sl) ⟨ho, rfl, ⟨_, ho, rfl⟩, ?_⟩)
  rcases h with ⟨hz, q⟩ | ⟨hz, kn, q⟩
  · have c1 : (its.toArray.isEmpty || k == 1) = true := by
      rcases hz with rfl | rfl
      · cases r
        rfl
      · rw [beq_self_eq_true, Bool.or_true]
    exact call_meets F.slot_tuple_mul ⟨_, ho, rfl⟩ F.entry_tuple_mul (F.args_tuple_mul_2 _ _) (tuple_mulA l its.toArray n dd sl k t c0 c1) ⟨ho, .ref l, H, I, rfl, q⟩
  · have c1 : (its.toArray.isEmpty || k == 1) = false := by
      rw [show (k == 1) = false from beq_eq_false_iff_ne.mpr (by omega), Bool.or_false]
      cases r with
      | nil => exact absurd rfl hz
      | cons _ _ => rfl
    have c2 : (decide (k ≤ 0) || its.toArray.isEmpty) = true := by rw [decide_eq_true kn, Bool.true_or]
    refine call_meets F.slot_tuple_mul ⟨_, ho, rfl⟩ F.entry_tuple_mul (F.args_tuple_mul_2 _ _) (tuple_mulB l its.toArray n dd sl k t c0 c1 c2) ⟨ho, ?_⟩
    exact ⟨.ref s.heap.objs.size, _, I.laid (t' := s.toks) (o := .tup []) (fun b ob z => Heap.get?_push_of_some _ z) (Nat.le_refl _) ⟨by decide, _, .nil, IsTup.new _ _⟩, rfl, q _ (I.hok.fresh (Nat.le_refl _))⟩
end
end Jw
namespace Jw
open PySem PySem.Spec PyProof.Rows L2
/-! ### min, max of a list of data -/
def rBestD (K : PySem.W.Frag) (best : PyData → List PyData → PyData) : List V → Hp → VK → Prop := fun xs H Q => ∃ (a : Addr) (vs : List V) (x : PyData) (ds : List PyData), xs = [.ref a] ∧ SqL K H a vs ∧ DpAll K H vs (x :: ds) ∧ PySem.W.AlikeAll (x :: ds) ∧ PyData.depthAll (x :: ds) ≤ 64 ∧
  ∀ (i : Nat) (v : V), vs[i]? = some v → (x :: ds)[i]? = some (best x ds) → Q v H
theorem vals_back {xs : List V} {us : List Value} {i : Nat} {u : Value} (r : Vals xs us) (h : us[i]? = some u) : ∃ x, xs[i]? = some x ∧ RelV x u := by
  cases q : xs[i]? with
  | none =>
    rw [r.none_of q] at h
    cases h
  | some x =>
    obtain ⟨u2, h2, h3⟩ := r.get q
    rw [h] at h2
    cases h2
    exact ⟨x, rfl, h3⟩
section
variable {X : Cx}
theorem best_at {h h' : Heap} {its : List Value} {all : List PyData} {as bs : List Addr} {i : Nat} {u : Value} {b : PyData} (r : ReadsAll h its all as) (hu : its.toArray[i]? = some u) (hb : Reads h' u b bs) (k : ∀ p o, h.get? p = some o → h'.get? p = some o) : all[i]? = some b := by
  obtain ⟨cs, r2, h1, _, _⟩ := PySem.W.readsAll_at r i u (by simpa using hu)
  obtain ⟨e, _⟩ := (PySem.W.reads_keeps k r2).unique _ _ hb
  rw [List.getElem?_eq_getElem h1, ← e, List.getD_eq_getElem?_getD, List.getElem?_eq_getElem h1]
  rfl
theorem cr_minD (hc : X.calm = true) (hu : X.A.units + 65 < cLine) : CallR X (.builtin "min") (rBestD X.K PySem.W.minD) := by
  rintro pins s σ H vs us Q I r ⟨a, ws, x, ds, rfl, hs, hd, hal, hdp, q⟩
  obtain ⟨its, rv, hl, _⟩ := I.list hs
  obtain ⟨as, hr⟩ := Dp.readsAll I _ _ its hd rv
  rw [Vals.ref1 r]
  refine PySem.W.min_list_data (I.ok.hd hc) hl.isList (vs := its.toArray) hr hal (by omega) fun i u h' tk bs hi hb hk => ?_
  obtain ⟨v, hv, rv2⟩ := vals_back (i := i) (u := u) rv (by simpa using hi)
  exact ⟨v, H, I.kept hk, rv2, q i v hv (best_at hr hi hb hk)⟩
theorem cr_maxD (hc : X.calm = true) (hu : X.A.units + 65 < cLine) : CallR X (.builtin "max") (rBestD X.K PySem.W.maxD) := by
  rintro pins s σ H vs us Q I r ⟨a, ws, x, ds, rfl, hs, hd, hal, hdp, q⟩
  obtain ⟨its, rv, hl, _⟩ := I.list hs
  obtain ⟨as, hr⟩ := Dp.readsAll I _ _ its hd rv
  rw [Vals.ref1 r]
  refine PySem.W.max_list_data (I.ok.hd hc) hl.isList (vs := its.toArray) hr hal (by omega) fun i u h' tk bs hi hb hk => ?_
  obtain ⟨v, hv, rv2⟩ := vals_back (i := i) (u := u) rv (by simpa using hi)
  exact ⟨v, H, I.kept hk, rv2, q i v hv (best_at hr hi hb hk)⟩
end
end Jw
namespace Jw
open PySem PySem.Spec PyProof.Rows L2
/-! ### the operators over data -/
def dAdd : D → D → Option D
  | .int a, .int b => some (.int (a + b))
  | .str a, .str b => if a.length + b.length ≤ 16777216 then some (.str (a ++ b)) else none
  | .tuple a, .tuple b => if a.length + b.length ≤ 16777216 then some (.tuple (a ++ b)) else none
  | .list a, .list b => if a.length + b.length ≤ 16777216 then some (.list (a ++ b)) else none
  | _, _ => none
def dAddL : D → D → Option (List D)
  | .list a, .list b => if a.length + b.length ≤ 16777216 then some (a ++ b) else none
  | _, _ => none
def dSub : D → D → Option D
  | .int a, .int b => some (.int (a - b))
  | _, _ => none
def dMul : D → D → Option D
  | .int a, .int b => if a.natAbs.log2 + b.natAbs.log2 < 134000000 then some (.int (a * b)) else none
  | .list a, .int k => if -(2 ^ 63) ≤ k ∧ k < 2 ^ 63 ∧ a.length * k.toNat ≤ 16777216 then some (.list (List.replicate k.toNat a).flatten) else none
  | .tuple a, .int k => if -1000 ≤ k ∧ k ≤ 1000 ∧ a.length ≤ 1000 then some (.tuple (List.replicate k.toNat a).flatten) else none
  | _, _ => none
def dMulL : D → D → Option (List D)
  | .list a, .int k => if -(2 ^ 63) ≤ k ∧ k < 2 ^ 63 ∧ a.length * k.toNat ≤ 16777216 then some (List.replicate k.toNat a).flatten else none
  | _, _ => none
def dDiv : D → D → Option D
  | .int a, .int b => if 0 < b ∧ b.natAbs.log2 < 9000 then some (.int (a / b)) else none
  | _, _ => none
def dMod : D → D → Option D
  | .int a, .int b => if b ≠ 0 then some (.int (a.fmod b)) else none
  | _, _ => none
def dLt : D → D → Option D
  | .int a, .int b => some (.bool (decide (a < b)))
  | _, _ => none
def dLe : D → D → Option D
  | .int a, .int b => some (.bool (decide (a ≤ b)))
  | _, _ => none
def dGt : D → D → Option D
  | .int a, .int b => some (.bool (decide (b < a)))
  | _, _ => none
def dGe : D → D → Option D
  | .int a, .int b => some (.bool (decide (b ≤ a)))
  | _, _ => none
def dEq (a b : D) : Option D := if SeqAt.shaped a = true ∧ SeqAt.shaped b = true then some (.bool (PyData.eqv a b)) else none
def dNe (a b : D) : Option D := if SeqAt.shaped a = true ∧ SeqAt.shaped b = true then some (.bool (!PyData.eqv a b)) else none
@[simp] def isNone : D → Bool
  | .none => true
  | _ => false
@[simp] def dIs : D → D → Option D
  | a, .none => some (.bool (isNone a))
  | _, _ => none
@[simp] def dIsNot : D → D → Option D
  | a, .none => some (.bool (!isNone a))
  | _, _ => none
@[simp] def dNeg : D → Option D
  | .int a => some (.int (-a))
  | _ => none
/-- an item by place -/
def dIx : D → D → Option D
  | .list xs, .int i => atI xs i
  | .tuple xs, .int i => atI xs i
  | .str z, .int i => if z.length ≤ 16777216 then (atI z.cps.toList i).map fun c => .str ⟨#[c]⟩ else none
  | _, _ => none
def dLen : D → Option D
  | .list xs => some (.int xs.length)
  | .tuple xs => some (.int xs.length)
  | .str z => if z.length ≤ 16777216 then some (.int z.length) else none
  | _ => none

def rAdd (K : PySem.W.Frag) : R2 := fun x y H Q => (((rI0 fun i j => .int (i + j)) x y H Q ∨ (∃ i j, x = .str i ∧ y = .str j ∧ i.length + j.length ≤ sizeLine ∧ Q (.str (i ++ j)) H)) ∨ rCatA K x y H Q) ∨ rCat x y H Q
def rMulD (K : PySem.W.Frag) : R2 := fun x y H Q => (((rI CMulX fun i j => .int (i * j)) x y H Q ∨ rRep x y H Q) ∨ rRepT K x y H Q) ∨ rRepS K x y H Q
section
variable {X : Cx}
theorem o_add : OpR X (binaryOp .Add) (rAdd X.K) := ((op_add.or op_add_str).or op_catA).or op_cat
theorem o_mul : OpR X (binaryOp .Mult) (rMulD X.K) := ((op_mulX.or op_rep).or op_repT).or op_repS
end
section
variable {K : PySem.W.Frag}
theorem RpAll.nilV {H : Hp} {vs : List V} (h : RpAll K H vs []) : vs = [] := by cases h; rfl
theorem RpAll.nilD {H : Hp} {ds : List D} (h : RpAll K H [] ds) : ds = [] := by cases h; rfl
theorem RpAll.rep {H : Hp} {vs : List V} {ds : List D} (h : RpAll K H vs ds) : ∀ n : Nat, RpAll K H (List.replicate n vs).flatten (List.replicate n ds).flatten
  | 0 => .nil
  | n + 1 => by
    rw [List.replicate_succ, List.replicate_succ, List.flatten_cons, List.flatten_cons]
    exact h.app (RpAll.rep h n)
theorem p_add : OpP K (rAdd K) dAdd := by
  intro T hp F0 H0 F H s v w a b d Q G hv hw e q
  unfold dAdd at e
  split at e
  · cases e
    rw [hv.int, hw.int]
    exact .inl (.inl (.inl ⟨_, _, rfl, rfl, q F H _ G.refl (.int _)⟩))
  · split at e
    · cases e
      rw [hv.str, hw.str]
      rename_i hz
      exact .inl (.inl (.inr ⟨_, _, rfl, rfl, by rw [sizeLine_eq]; exact hz, q F H _ G.refl (.str _)⟩))
    · cases e
  · rename_i xs ys
    split at e
    · cases e
      rename_i hz
      obtain ⟨p1, vs1, rfl, h1, r1⟩ := hv.tuple
      obtain ⟨p2, vs2, rfl, h2, r2⟩ := hw.tuple
      refine .inl (.inr ⟨p1, p2, vs1, vs2, rfl, rfl, St.up G.sub h1, St.up G.sub h2, by rw [sizeLine_eq, r1.len, r2.len]; exact hz, fun z => ?_, fun _ z => ?_, fun _ _ p hn => ?_⟩)
      · subst z
        cases r1.nilD
        exact q F H _ G.refl (.tup h2 r2)
      · subst z
        cases r2.nilD
        rw [List.append_nil] at q
        exact q F H _ G.refl (.tup h1 r1)
      · refine q _ _ _ (G.new hn) (.tup (.inl (.inl upd_same)) (RpAll.up (fun x u z => ?_) (r1.app r2)))
        rw [upd_ne (ne_of_none (G.sub _ _ z) hn)]
        exact z
    · cases e
  · rename_i xs ys
    split at e
    · cases e
      rename_i hz
      obtain ⟨p1, vs1, rfl, h1, r1⟩ := hv.list G.sub
      obtain ⟨p2, vs2, rfl, h2, r2⟩ := hw.list G.sub
      refine .inr ⟨p1, p2, vs1, vs2, rfl, rfl, h1, h2, by rw [sizeLine_eq, r1.len, r2.len]; exact hz, fun p hn => ?_⟩
      refine q _ _ _ (G.new hn) (.lst upd_same (RpAll.up (fun x u z => ?_) (r1.app r2)))
      rw [upd_ne (ne_of_none (G.sub _ _ z) hn)]
      exact z
    · cases e
  · cases e
theorem p_addL : OpN K (rAdd K) dAddL := by
  intro T hp F0 H0 F H s v w a b xs Q G hv hw e q
  unfold dAddL at e
  split at e
  · split at e
    · cases e
      rename_i hz
      obtain ⟨p1, vs1, rfl, h1, r1⟩ := hv.list G.sub
      obtain ⟨p2, vs2, rfl, h2, r2⟩ := hw.list G.sub
      exact .inr ⟨p1, p2, vs1, vs2, rfl, rfl, h1, h2, by rw [sizeLine_eq, r1.len, r2.len]; exact hz, fun p hn => q _ _ _ (G.newOwn hn) (NewL.of G hn (r1.app r2))⟩
    · cases e
  · cases e
theorem mulX_of {i j : Int} (h : i.natAbs.log2 + j.natAbs.log2 < 134000000) : CMulX i j := by
  have b : ∀ x : Int, Builtin.Int.intBits x ≤ x.natAbs.log2 + 1 := fun x => by
    unfold Builtin.Int.intBits
    split <;> omega
  have := b i
  have := b j
  show (Builtin.Int.intBits i : Int) + (Builtin.Int.intBits j : Int) ≤ 134217728
  omega
theorem flat_nil {α : Type} : ∀ n : Nat, (List.replicate n ([] : List α)).flatten = []
  | 0 => rfl
  | n + 1 => by rw [List.replicate_succ, List.flatten_cons, flat_nil n]; rfl
theorem p_mul : OpP K (rMulD K) dMul := by
  intro T hp F0 H0 F H s v w a b d Q G hv hw e q
  unfold dMul at e
  split at e
  · split at e
    · cases e
      rename_i hz
      rw [hv.int, hw.int]
      exact .inl (.inl (.inl ⟨_, _, rfl, rfl, mulX_of hz, q F H _ G.refl (.int _)⟩))
    · cases e
  · split at e
    · cases e
      rename_i hz
      obtain ⟨p1, vs1, rfl, h1, r1⟩ := hv.list G.sub
      rw [hw.int]
      refine .inl (.inl (.inr ⟨p1, _, vs1, rfl, rfl, h1, hz.1, hz.2.1, by rw [sizeLine_eq, r1.len]; exact hz.2.2, fun p hn => ?_⟩))
      refine q _ _ _ (G.new hn) (.lst upd_same (RpAll.up (fun x u z => ?_) (r1.rep _)))
      rw [upd_ne (ne_of_none (G.sub _ _ z) hn)]
      exact z
    · cases e
  · rename_i a k
    split at e
    · cases e
      rename_i hz
      obtain ⟨p1, vs1, rfl, h1, r1⟩ := hv.tuple
      rw [hw.int]
      by_cases hs : vs1 = [] ∨ k = 1
      · refine .inr ⟨p1, _, vs1, rfl, rfl, St.up G.sub h1, by omega, by omega, .inl ⟨hs, q F H _ G.refl (.tup h1 ?_)⟩⟩
        rcases hs with rfl | rfl
        · cases r1.nilD
          rw [flat_nil]
          exact .nil
        · rw [show (1 : Int).toNat = 1 from rfl, List.replicate_one, List.flatten_cons, List.flatten_nil, List.append_nil]
          exact r1
      · by_cases hk : k ≤ 0
        · refine .inr ⟨p1, _, vs1, rfl, rfl, St.up G.sub h1, by omega, by omega, .inr ⟨fun z => hs (.inl z), hk, fun p hn => q _ _ _ (G.new hn) (.tup (.inl (.inl upd_same)) ?_)⟩⟩
          rw [show k.toNat = 0 by omega]
          exact .nil
        · refine .inl (.inr ⟨p1, _, vs1, rfl, rfl, St.up G.sub h1, fun z => hs (.inl z), by omega, hz.2.1, by rw [r1.len]; exact hz.2.2, fun p hn => ?_⟩)
          refine q _ _ _ (G.new hn) (.tup (.inl (.inl upd_same)) (RpAll.up (fun x u z => ?_) (r1.rep _)))
          rw [upd_ne (ne_of_none (G.sub _ _ z) hn)]
          exact z
    · cases e
  · cases e
theorem p_mulL : OpN K (rMulD K) dMulL := by
  intro T hp F0 H0 F H s v w a b xs Q G hv hw e q
  unfold dMulL at e
  split at e
  · split at e
    · cases e
      rename_i hz
      obtain ⟨p1, vs1, rfl, h1, r1⟩ := hv.list G.sub
      rw [hw.int]
      exact .inl (.inl (.inr ⟨p1, _, vs1, rfl, rfl, h1, hz.1, hz.2.1, by rw [sizeLine_eq, r1.len]; exact hz.2.2, fun p hn => q _ _ _ (G.newOwn hn) (NewL.of G hn (r1.rep _))⟩))
    · cases e
  · cases e
/-- an operator on two ints -/
theorem p_int {r : R2} {h : D → D → Option D} {C : Int → Int → Prop} {g : Int → Int → D} (hd : ∀ a b d, h a b = some d → ∃ i j, a = .int i ∧ b = .int j ∧ C i j ∧ d = g i j)
    (hr : ∀ (i j : Int) (H : Hp) (Q : VK), C i j → (∀ u, Rp K (fun _ => none) u (g i j) → Q u H) → r (.int i) (.int j) H Q) : OpP K r h := by
  intro T hp F0 H0 F H s v w a b d Q G hv hw e q
  obtain ⟨i, j, rfl, rfl, hc, rfl⟩ := hd a b d e
  rw [hv.int, hw.int]
  exact hr i j H Q hc fun u ru => q F H u G.refl (Rp.up (fun x o z => by cases z) ru)
theorem p_sub : OpP K (rI0 fun i j => .int (i - j)) dSub := p_int (C := fun _ _ => True) (g := fun i j => .int (i - j)) (fun a b d e => by
  unfold dSub at e
  split at e
  · cases e; exact ⟨_, _, rfl, rfl, trivial, rfl⟩
  · cases e) fun i j H Q _ q => ⟨i, j, rfl, rfl, q _ (.int _)⟩
theorem p_div : OpP K (rI CDivW fun i j => .int (i / j)) dDiv := p_int (C := CDivW) (g := fun i j => .int (i / j)) (fun a b d e => by
  unfold dDiv at e
  split at e
  · split at e
    · cases e; rename_i hz; exact ⟨_, _, rfl, rfl, hz, rfl⟩
    · cases e
  · cases e) fun i j H Q hc q => ⟨i, j, rfl, rfl, hc, q _ (.int _)⟩
theorem p_mod : OpP K (rI (fun _ j => j ≠ 0) fun i j => .int (i.fmod j)) dMod := p_int (C := fun _ j => j ≠ 0) (g := fun i j => .int (i.fmod j)) (fun a b d e => by
  unfold dMod at e
  split at e
  · split at e
    · cases e; rename_i hz; exact ⟨_, _, rfl, rfl, hz, rfl⟩
    · cases e
  · cases e) fun i j H Q hc q => ⟨i, j, rfl, rfl, hc, q _ (.int _)⟩
theorem p_lt : OpP K (rI0 fun i j => .bl (decide (i < j))) dLt := p_int (C := fun _ _ => True) (g := fun i j => .bool (decide (i < j))) (fun a b d e => by
  unfold dLt at e
  split at e
  · cases e; exact ⟨_, _, rfl, rfl, trivial, rfl⟩
  · cases e) fun i j H Q _ q => ⟨i, j, rfl, rfl, q _ (.bl _)⟩
theorem p_le : OpP K (rI0 fun i j => .bl (decide (i ≤ j))) dLe := p_int (C := fun _ _ => True) (g := fun i j => .bool (decide (i ≤ j))) (fun a b d e => by
  unfold dLe at e
  split at e
  · cases e; exact ⟨_, _, rfl, rfl, trivial, rfl⟩
  · cases e) fun i j H Q _ q => ⟨i, j, rfl, rfl, q _ (.bl _)⟩
theorem p_gt : OpP K (rI0 fun i j => .bl (decide (j < i))) dGt := p_int (C := fun _ _ => True) (g := fun i j => .bool (decide (j < i))) (fun a b d e => by
  unfold dGt at e
  split at e
  · cases e; exact ⟨_, _, rfl, rfl, trivial, rfl⟩
  · cases e) fun i j H Q _ q => ⟨i, j, rfl, rfl, q _ (.bl _)⟩
theorem p_ge : OpP K (rI0 fun i j => .bl (decide (j ≤ i))) dGe := p_int (C := fun _ _ => True) (g := fun i j => .bool (decide (j ≤ i))) (fun a b d e => by
  unfold dGe at e
  split at e
  · cases e; exact ⟨_, _, rfl, rfl, trivial, rfl⟩
  · cases e) fun i j H Q _ q => ⟨i, j, rfl, rfl, q _ (.bl _)⟩
theorem p_eq : OpP K (rEqD K) dEq := by
  intro T hp F0 H0 F H s v w a b d Q G hv hw e q
  unfold dEq at e
  split at e
  · cases e
    rename_i hz
    exact ⟨a, b, hv.dp G.sub, hw.dp G.sub, hz.1, hz.2, q F H _ G.refl (.bl _)⟩
  · cases e
theorem p_ne : OpP K (rNeD K) dNe := by
  intro T hp F0 H0 F H s v w a b d Q G hv hw e q
  unfold dNe at e
  split at e
  · cases e
    rename_i hz
    exact ⟨a, b, hv.dp G.sub, hw.dp G.sub, hz.1, hz.2, q F H _ G.refl (.bl _)⟩
  · cases e
theorem isNone_v {hp : Addr} {F H : Hp} {v : V} {a : D} (h : Bw K hp F H v a) : decide (v = .non) = isNone a := by
  rcases h with h | ⟨p, vs, xs, rfl, rfl, _⟩
  · cases h <;> rfl
  · rfl
theorem p_is : OpP K (fun x y H Q => y = V.non ∧ Q (V.bl (decide (x = V.non))) H) dIs := by
  intro T hp F0 H0 F H s v w a b d Q G hv hw e q
  unfold dIs at e
  split at e
  · cases e
    refine ⟨hw.none, ?_⟩
    rw [isNone_v hv]
    exact q F H _ G.refl (.bl _)
  · cases e
theorem p_isNot : OpP K (fun x y H Q => y = V.non ∧ Q (V.bl (!decide (x = V.non))) H) dIsNot := by
  intro T hp F0 H0 F H s v w a b d Q G hv hw e q
  unfold dIsNot at e
  split at e
  · cases e
    refine ⟨hw.none, ?_⟩
    rw [isNone_v hv]
    exact q F H _ G.refl (.bl _)
  · cases e
theorem p_neg : UnP K (rU fun i => .int (-i)) dNeg := by
  intro T hp F0 H0 F H s v a d Q G hv e q
  unfold dNeg at e
  split at e
  · cases e
    rw [hv.int]
    exact ⟨_, rfl, q F H _ G.refl (.int _)⟩
  · cases e
theorem atI_map {α : Type} {xs : List α} {i : Int} {d : α} (e : atI xs i = some d) : ∃ j : Nat, ixN xs.length i = some j ∧ xs[j]? = some d := by
  unfold atI at e
  cases h : ixN xs.length i with
  | none => rw [h] at e; cases e
  | some j => rw [h] at e; exact ⟨j, rfl, e⟩
theorem RpAll.atI {H : Hp} {vs : List V} {ds : List D} {i : Int} {d : D} (h : RpAll K H vs ds) (e : L2.atI ds i = some d) : ∃ v, L2.atI vs i = some v ∧ Rp K H v d := by
  obtain ⟨j, h1, h2⟩ := atI_map e
  obtain ⟨v, h3, h4⟩ := h.at h2
  refine ⟨v, ?_, h4⟩
  unfold L2.atI
  rw [h.len, h1]
  exact h3
theorem p_ix : OpP K (rIx K) dIx := by
  intro T hp F0 H0 F H s v w a b d Q G hv hw e q
  unfold dIx at e
  split at e
  · obtain ⟨p1, vs1, rfl, h1, r1⟩ := hv.list G.sub
    rw [hw.int]
    obtain ⟨u, h2, h3⟩ := r1.atI e
    exact .inl ⟨p1, vs1, _, u, rfl, rfl, .inl (.inl h1), h2, q F H _ G.refl h3⟩
  · obtain ⟨p1, vs1, rfl, h1, r1⟩ := hv.tuple
    rw [hw.int]
    obtain ⟨u, h2, h3⟩ := r1.atI e
    exact .inr (.inl ⟨p1, vs1, _, u, rfl, rfl, St.up G.sub h1, h2, q F H _ G.refl h3⟩)
  · split at e
    · rename_i z i hz
      rw [hv.str, hw.int]
      cases h : atI z.cps.toList i with
      | none => rw [h] at e; cases e
      | some c =>
        rw [h] at e
        cases e
        exact .inr (.inr ⟨z, i, c, rfl, rfl, by rw [sizeLine_eq]; exact hz, h, q F H _ G.refl (.str _)⟩)
    · cases e
  · cases e
end
end Jw
namespace Jw
open PySem PySem.Spec PyProof.Rows L2
/-! ### expressions -/
section
variable (X : Cx) (T : List (Addr × Str)) (EX : String → Hp → Prop)
def DE (e : Expr) (f : Rho → M D) : Prop := ∃ te, PE X e te ∧ EvE X.K T EX te f
def DB (e : Expr) (f : Rho → M D) : Prop := ∃ te, PE X e te ∧ EvB X.K T EX te f
def DL (e : Expr) (f : Rho → M (List D)) : Prop := ∃ te, PE X e te ∧ EvL X.K T EX te f
def DT (e : Expr) (f : Rho → M Bool) : Prop := ∃ tt, PT X e tt ∧ EvT X.K T EX tt f
def DW (e : Expr) (f : Rho → M Bool) : Prop := ∃ tt, PW X e tt ∧ EvT X.K T EX tt f
def DA (n : Nat) (es : List Expr) (f : Rho → M (List Sl)) : Prop := ∃ ta, PA X es ta ∧ ∀ {hp : Addr} {F0 H0 F H : Hp} {σ : L2.St} {ρ : Rho} {s : HS} {Q : List V → Hp → Prop}, Rel X.K T hp F0 H0 F H σ ρ s →
  Post (f ρ s) (fun as s' => ∀ F' H' vs, Grow X.K T hp F H F' H' s' → ArgsOk X.K hp F' vs as → vs.length = n → Q vs H') (WX X.K T hp F0 H0 EX) → ta σ H Q
/-- a display's parts: n of them -/
def DD (n : Nat) (es : List Expr) (f : Rho → M (List D)) : Prop := ∃ ta, PA X es ta ∧ ∀ {hp : Addr} {F0 H0 F H : Hp} {σ : L2.St} {ρ : Rho} {s : HS} {Q : List V → Hp → Prop}, Rel X.K T hp F0 H0 F H σ ρ s →
  Post (f ρ s) (fun ds s' => ∀ F' H' vs, Grow X.K T hp F H F' H' s' → RpAll X.K F' vs ds → vs.length = n → Q vs H') (WX X.K T hp F0 H0 EX) → ta σ H Q
end
section
variable {X : Cx} {T : List (Addr × Str)} {EX : String → Hp → Prop} {pos p : Pos}
theorem DE.b {e : Expr} {f : Rho → M D} (h : DE X T EX e f) : DB X T EX e f := let ⟨t, a, b⟩ := h; ⟨t, a, b.toB⟩
@[simp] def fList (f : Rho → M (List D)) : Rho → M D := fun ρ => do
  let xs ← f ρ
  pure (.list xs)
theorem DL.e {e : Expr} {f : Rho → M (List D)} (h : DL X T EX e f) : DE X T EX e (fList f) := let ⟨t, a, b⟩ := h; ⟨t, a, b.toE⟩
theorem DL.b {e : Expr} {f : Rho → M (List D)} (h : DL X T EX e f) : DB X T EX e (fList f) := let ⟨t, a, b⟩ := h; ⟨t, a, b.toB⟩
theorem DW.t {e : Expr} {f : Rho → M Bool} (h : DW X T EX e f) : DT X T EX e f := let ⟨t, a, b⟩ := h; ⟨t, a.pt, b⟩
theorem de_int {i j} : DE X T EX (.Constant (.int i) j pos) (fun _ => pure (.int i)) := ⟨_, pe_int, ev_int i⟩
theorem de_bl {b j} : DE X T EX (.Constant (.bool b) j pos) (fun _ => pure (.bool b)) := ⟨_, pe_bl, ev_bl b⟩
theorem de_non {j} : DE X T EX (.Constant .none j pos) (fun _ => pure .none) := ⟨_, pe_non, ev_non⟩
theorem de_str {x j} : DE X T EX (.Constant (.str x) j pos) (fun _ => pure (.str x)) := ⟨_, pe_str, ev_str x⟩
theorem de_var (i : Nat) {x : Str} (hN : X.N[i]? = some x := by rfl) (hv : Vis X.env.scope x := by first | exact Or.inl rfl | exact Or.inr (Or.inl rfl) | exact Or.inr (Or.inr rfl)) (hd : (x == ("__debug__" : Str)) = false := by decide)
    (hcd : (x == ("__classdict__" : Str)) = false := by decide) : DE X T EX (.Name x pos) (rdat i) := ⟨_, pe_var hN hv hd hcd, ev_var i⟩
theorem db_var (i : Nat) {x : Str} (hN : X.N[i]? = some x := by rfl) (hv : Vis X.env.scope x := by first | exact Or.inl rfl | exact Or.inr (Or.inl rfl) | exact Or.inr (Or.inr rfl)) (hd : (x == ("__debug__" : Str)) = false := by decide)
    (hcd : (x == ("__classdict__" : Str)) = false := by decide) : DB X T EX (.Name x pos) (rany i) := ⟨_, pe_var hN hv hd hcd, evb_var i⟩
/-- a constant of the module -/
theorem de_glob {x : Str} {i : Int} {u : Tok} (hg : Gl X x) (hm : X.mg x = some (.int i u)) (hd : (x == ("__debug__" : Str)) = false := by decide) : DE X T EX (.Name x pos) (fun _ => pure (.int i)) := ⟨_, pe_glob (v := .int i) hg hm ⟨u, rfl⟩ hd, ev_int i⟩
theorem de_op {a b : Expr} {op : Operator} {fa fb : Rho → M D} {r : R2} {h : D → D → Option D} (ho : OpR X (binaryOp op) r) (hr : OpP X.K r h) (ha : DB X T EX a fa) (hb : DB X T EX b fb) : DE X T EX (.BinOp a op b pos) (f2 h fa fb) :=
  let ⟨_, a1, a2⟩ := ha; let ⟨_, b1, b2⟩ := hb; ⟨_, pe_op ho a1 b1, ev_op a2 b2 hr⟩
theorem dl_op {a b : Expr} {op : Operator} {fa fb : Rho → M D} {r : R2} {h : D → D → Option (List D)} (ho : OpR X (binaryOp op) r) (hr : OpN X.K r h) (ha : DB X T EX a fa) (hb : DB X T EX b fb) : DL X T EX (.BinOp a op b pos) (f2L h fa fb) :=
  let ⟨_, a1, a2⟩ := ha; let ⟨_, b1, b2⟩ := hb; ⟨_, pe_op ho a1 b1, evl_op a2 b2 hr⟩
theorem de_add {a b : Expr} {fa fb : Rho → M D} (ha : DB X T EX a fa) (hb : DB X T EX b fb) : DE X T EX (.BinOp a .Add b pos) (f2 dAdd fa fb) := de_op o_add p_add ha hb
theorem dl_add {a b : Expr} {fa fb : Rho → M D} (ha : DB X T EX a fa) (hb : DB X T EX b fb) : DL X T EX (.BinOp a .Add b pos) (f2L dAddL fa fb) := dl_op o_add p_addL ha hb
theorem de_sub {a b : Expr} {fa fb : Rho → M D} (ha : DB X T EX a fa) (hb : DB X T EX b fb) : DE X T EX (.BinOp a .Sub b pos) (f2 dSub fa fb) := de_op op_sub p_sub ha hb
theorem de_mul {a b : Expr} {fa fb : Rho → M D} (ha : DB X T EX a fa) (hb : DB X T EX b fb) : DE X T EX (.BinOp a .Mult b pos) (f2 dMul fa fb) := de_op o_mul p_mul ha hb
theorem dl_mul {a b : Expr} {fa fb : Rho → M D} (ha : DB X T EX a fa) (hb : DB X T EX b fb) : DL X T EX (.BinOp a .Mult b pos) (f2L dMulL fa fb) := dl_op o_mul p_mulL ha hb
theorem de_div {a b : Expr} {fa fb : Rho → M D} (ha : DB X T EX a fa) (hb : DB X T EX b fb) : DE X T EX (.BinOp a .FloorDiv b pos) (f2 dDiv fa fb) := de_op op_fdivW p_div ha hb
theorem de_mod {a b : Expr} {fa fb : Rho → M D} (ha : DB X T EX a fa) (hb : DB X T EX b fb) : DE X T EX (.BinOp a .Mod b pos) (f2 dMod fa fb) := de_op op_modN p_mod ha hb
theorem de_neg {a : Expr} {fa : Rho → M D} (ha : DB X T EX a fa) : DE X T EX (.UnaryOp .USub a pos) (f1 dNeg fa) := let ⟨_, a1, a2⟩ := ha; ⟨_, pe_un un_neg a1, ev_un a2 p_neg⟩
theorem de_cmp {a b : Expr} {op : CmpOp} {fa fb : Rho → M D} {r : R2} {h : D → D → Option D} (ho : OpR X (compareOp op) r) (hr : OpP X.K r h) (hm : behindInMarks op b = false) (ha : DB X T EX a fa) (hb : DB X T EX b fb) : DE X T EX (.Compare a [op] [b] pos) (f2 h fa fb) :=
  let ⟨_, a1, a2⟩ := ha; let ⟨_, b1, b2⟩ := hb; ⟨_, pe_cmpR ho a1 b1 hm, ev_op a2 b2 hr⟩
theorem de_lt {a b : Expr} {fa fb : Rho → M D} (ha : DB X T EX a fa) (hb : DB X T EX b fb) : DE X T EX (.Compare a [.Lt] [b] pos) (f2 dLt fa fb) := de_cmp op_lt p_lt (nomark _) ha hb
theorem de_le {a b : Expr} {fa fb : Rho → M D} (ha : DB X T EX a fa) (hb : DB X T EX b fb) : DE X T EX (.Compare a [.LtE] [b] pos) (f2 dLe fa fb) := de_cmp op_le p_le (nomark _) ha hb
theorem de_gt {a b : Expr} {fa fb : Rho → M D} (ha : DB X T EX a fa) (hb : DB X T EX b fb) : DE X T EX (.Compare a [.Gt] [b] pos) (f2 dGt fa fb) := de_cmp op_gt p_gt (nomark _) ha hb
theorem de_ge {a b : Expr} {fa fb : Rho → M D} (ha : DB X T EX a fa) (hb : DB X T EX b fb) : DE X T EX (.Compare a [.GtE] [b] pos) (f2 dGe fa fb) := de_cmp op_ge p_ge (nomark _) ha hb
theorem de_eq {a b : Expr} {fa fb : Rho → M D} (hu : X.A.units + 64 < cLine) (ha : DB X T EX a fa) (hb : DB X T EX b fb) : DE X T EX (.Compare a [.Eq] [b] pos) (f2 dEq fa fb) := de_cmp (op_eqD hu) p_eq (nomark _) ha hb
theorem de_ne {a b : Expr} {fa fb : Rho → M D} (hu : X.A.units + 64 < cLine) (ha : DB X T EX a fa) (hb : DB X T EX b fb) : DE X T EX (.Compare a [.NotEq] [b] pos) (f2 dNe fa fb) := de_cmp (op_neD hu) p_ne (nomark _) ha hb
theorem de_is {a b : Expr} {fa fb : Rho → M D} (ha : DB X T EX a fa) (hb : DB X T EX b fb) : DE X T EX (.Compare a [.Is] [b] pos) (f2 dIs fa fb) := de_cmp op_isN p_is (nomark _) ha hb
theorem de_isNot {a b : Expr} {fa fb : Rho → M D} (ha : DB X T EX a fa) (hb : DB X T EX b fb) : DE X T EX (.Compare a [.IsNot] [b] pos) (f2 dIsNot fa fb) := de_cmp op_notN p_isNot (nomark _) ha hb
theorem de_ix {a b : Expr} {fa fb : Rho → M D} (ha : DB X T EX a fa) (hb : DB X T EX b fb) (hs : PlainIx b := by exact fun _ _ => rfl) : DE X T EX (.Subscript a b pos) (f2 dIx fa fb) :=
  let ⟨_, a1, a2⟩ := ha; let ⟨_, b1, b2⟩ := hb; ⟨_, pe_ix ix_seq a1 b1 hs, ev_op a2 b2 p_ix⟩
/-- a < b < c: b once -/
@[simp] def fChain (h h' : D → D → Option D) (fa fb fc : Rho → M D) : Rho → M D := fun ρ => do
  let a ← fa ρ
  let b ← fb ρ
  let z ← O.lift (h a b)
  match z with
  | .bool true => do
    let c ← fc ρ
    O.lift (h' b c)
  | .bool false => pure (.bool false)
  | _ => M.bad
theorem ev_chain {K : PySem.W.Frag} {ta tb tc : TE} {fa fb fc : Rho → M D} {r r' : R2} {h h' : D → D → Option D} (hr : OpP K r h) (hr' : OpP K r' h') (a2 : EvB K T EX ta fa) (b2 : EvB K T EX tb fb) (c2 : EvB K T EX tc fc) : EvE K T EX (tChain r r' ta tb tc) (fChain h h' fa fb fc) := fun R p => by
  refine a2 R (p.bind.mono fun va s1 k1 F1 H1 v g1 w1 => b2 (R.grow g1) (k1.bind.mono fun vb s2 k2 F2 H2 w g2 w2 => ?_))
  obtain ⟨d, e, k3⟩ := k2.bind.lift
  refine hr ((R.grow g1).grow g2).g (w1.grow g2) w2 e fun F3 H3 u g3 r3 => ?_
  cases d with
  | bool k =>
    cases r3
    refine ⟨k, rfl, ?_⟩
    cases k with
    | true =>
      rw [if_pos rfl]
      refine c2 (((R.grow g1).grow g2).grow g3) (k3.bind.mono fun vc s4 k4 F4 H4 z g4 w4 => ?_)
      obtain ⟨d', e', k5⟩ := k4.lift
      exact hr' ((((R.grow g1).grow g2).grow g3).grow g4).g ((w2.grow g3).grow g4) w4 e' fun F5 H5 u g5 r5 => k5 F5 H5 u (((g1.trans (g2.trans g3)).trans g4).trans g5) r5
    | false =>
      rw [if_neg Bool.false_ne_true]
      exact k3.ret F3 H3 _ ((g1.trans g2).trans g3) (.bl false)
  | none => exact k3.elim
  | int _ => exact k3.elim
  | str _ => exact k3.elim
  | list _ => exact k3.elim
  | tuple _ => exact k3.elim
  | dict _ => exact k3.elim
theorem de_chain {a b c : Expr} {op op' : CmpOp} {fa fb fc : Rho → M D} {r r' : R2} {h h' : D → D → Option D} (ho : OpR X (compareOp op) r) (ho' : OpR X (compareOp op') r') (hr : OpP X.K r h) (hr' : OpP X.K r' h')
    (ha : DB X T EX a fa) (hb : DB X T EX b fb) (hc : DB X T EX c fc) (hm : lastMarks [op, op'] [b, c] = false := by rfl) : DE X T EX (.Compare a [op, op'] [b, c] pos) (fChain h h' fa fb fc) :=
  let ⟨_, a1, a2⟩ := ha
  let ⟨_, b1, b2⟩ := hb
  let ⟨_, c1, c2⟩ := hc
  ⟨_, pe_chain ho ho' a1 b1 c1 hm, ev_chain hr hr' a2 b2 c2⟩
/-! ### tests -/
def dBool : D → Option Bool
  | .bool b => some b
  | _ => none
@[simp] def fTest (fa : Rho → M D) : Rho → M Bool := fun ρ => do
  let a ← fa ρ
  O.lift (dBool a)
theorem dBool_is {d : D} {b : Bool} (h : dBool d = some b) : d = .bool b := by
  cases d with
  | bool k => cases h; rfl
  | _ => cases h
theorem dt_val {e : Expr} {fa : Rho → M D} (ha : DB X T EX e fa) (he : ∀ whole, isTrue e X.env whole = (do let v ← whole; standAt e.pos; holding [v] (truthy v)) := by exact fun _ => rfl) : DT X T EX e (fTest fa) := by
  obtain ⟨_, a1, a2⟩ := ha
  refine ⟨_, pt_val a1 he, fun R p => a2 R (p.bind.mono fun d s1 k1 F1 H1 v g1 w1 => ?_)⟩
  obtain ⟨b, e, k⟩ := k1.lift
  cases dBool_is e
  exact ⟨b, w1.bool, k F1 H1 g1⟩
@[simp] def fNotT (f : Rho → M Bool) : Rho → M Bool := fun ρ => do
  let a ← f ρ
  pure (!a)
theorem dt_not {a : Expr} {f : Rho → M Bool} (h : DT X T EX a f) : DT X T EX (.UnaryOp .Not a pos) (fNotT f) := let ⟨_, a1, a2⟩ := h; ⟨_, pt_not a1, fun R p => a2 R (p.bind.mono fun b s1 k F1 H1 g => k.ret F1 H1 g)⟩
@[simp] def fAndT (f g : Rho → M Bool) : Rho → M Bool := fun ρ => do
  let a ← f ρ
  if a then g ρ else pure false
@[simp] def fOrT (f g : Rho → M Bool) : Rho → M Bool := fun ρ => do
  let a ← f ρ
  if a then pure true else g ρ
theorem dw_and1 {a : Expr} {f : Rho → M Bool} (h : DT X T EX a f) : DW X T EX (.BoolOp .And [a] pos) f := let ⟨_, a1, a2⟩ := h; ⟨_, pw_and1 a1, a2⟩
theorem dw_or1 {a : Expr} {f : Rho → M Bool} (h : DT X T EX a f) : DW X T EX (.BoolOp .Or [a] pos) f := let ⟨_, a1, a2⟩ := h; ⟨_, pw_or1 a1, a2⟩
theorem dw_and {a b : Expr} {rest : List Expr} {f g : Rho → M Bool} (ha : DT X T EX a f) (hb : DW X T EX (.BoolOp .And (b :: rest) pos) g) : DW X T EX (.BoolOp .And (a :: b :: rest) pos) (fAndT f g) := by
  obtain ⟨_, a1, a2⟩ := ha
  obtain ⟨_, b1, b2⟩ := hb
  refine ⟨_, pw_and a1 b1, fun R p => a2 R (p.bind.mono fun c s1 k F1 H1 g1 => ?_)⟩
  cases c with
  | true =>
    rw [if_pos rfl]
    rw [if_pos rfl] at k
    exact b2 (R.grow g1) (k.mono fun b s2 k2 F2 H2 g2 => k2 F2 H2 (g1.trans g2))
  | false =>
    rw [if_neg Bool.false_ne_true]
    rw [if_neg Bool.false_ne_true] at k
    exact k.ret F1 H1 g1
theorem dw_or {a b : Expr} {rest : List Expr} {f g : Rho → M Bool} (ha : DT X T EX a f) (hb : DW X T EX (.BoolOp .Or (b :: rest) pos) g) : DW X T EX (.BoolOp .Or (a :: b :: rest) pos) (fOrT f g) := by
  obtain ⟨_, a1, a2⟩ := ha
  obtain ⟨_, b1, b2⟩ := hb
  refine ⟨_, pw_or a1 b1, fun R p => a2 R (p.bind.mono fun c s1 k F1 H1 g1 => ?_)⟩
  cases c with
  | true =>
    rw [if_pos rfl]
    rw [if_pos rfl] at k
    exact k.ret F1 H1 g1
  | false =>
    rw [if_neg Bool.false_ne_true]
    rw [if_neg Bool.false_ne_true] at k
    exact b2 (R.grow g1) (k.mono fun b s2 k2 F2 H2 g2 => k2 F2 H2 (g1.trans g2))
/-! ### and, or, not as values; the conditional expression -/
@[simp] def fAndV (fa fb : Rho → M D) : Rho → M D := fun ρ => do
  let a ← fa ρ
  match a with
  | .bool true => fb ρ
  | .bool false => pure (.bool false)
  | _ => M.bad
@[simp] def fOrV (fa fb : Rho → M D) : Rho → M D := fun ρ => do
  let a ← fa ρ
  match a with
  | .bool true => pure (.bool true)
  | .bool false => fb ρ
  | _ => M.bad
@[simp] def dNot : D → Option D
  | .bool b => some (.bool (!b))
  | _ => none
theorem de_one {a : Expr} {op : BoolOp} {fa : Rho → M D} (h : DE X T EX a fa) : DE X T EX (.BoolOp op [a] pos) fa := let ⟨_, a1, a2⟩ := h; ⟨_, pe_one a1, a2⟩
theorem de_and {a b : Expr} {rest : List Expr} {fa fb : Rho → M D} (ha : DB X T EX a fa) (hb : DE X T EX (.BoolOp .And (b :: rest) pos) fb) : DE X T EX (.BoolOp .And (a :: b :: rest) pos) (fAndV fa fb) := by
  obtain ⟨_, a1, a2⟩ := ha
  obtain ⟨_, b1, b2⟩ := hb
  refine ⟨_, pe_and a1 b1, fun R p => a2 R (p.bind.mono fun d s1 k F1 H1 v g1 w1 => ?_)⟩
  cases d with
  | bool c =>
    refine ⟨c, w1.bool, ?_⟩
    cases c with
    | true =>
      rw [if_pos rfl]
      exact b2 (R.grow g1) (k.mono fun b s2 k2 F2 H2 u g2 r2 => k2 F2 H2 u (g1.trans g2) r2)
    | false =>
      rw [if_neg Bool.false_ne_true]
      exact k.ret F1 H1 _ g1 (.bl false)
  | none => exact k.elim
  | int _ => exact k.elim
  | str _ => exact k.elim
  | list _ => exact k.elim
  | tuple _ => exact k.elim
  | dict _ => exact k.elim
theorem de_or {a b : Expr} {rest : List Expr} {fa fb : Rho → M D} (ha : DB X T EX a fa) (hb : DE X T EX (.BoolOp .Or (b :: rest) pos) fb) : DE X T EX (.BoolOp .Or (a :: b :: rest) pos) (fOrV fa fb) := by
  obtain ⟨_, a1, a2⟩ := ha
  obtain ⟨_, b1, b2⟩ := hb
  refine ⟨_, pe_or a1 b1, fun R p => a2 R (p.bind.mono fun d s1 k F1 H1 v g1 w1 => ?_)⟩
  cases d with
  | bool c =>
    refine ⟨c, w1.bool, ?_⟩
    cases c with
    | true =>
      rw [if_pos rfl]
      exact k.ret F1 H1 _ g1 (.bl true)
    | false =>
      rw [if_neg Bool.false_ne_true]
      exact b2 (R.grow g1) (k.mono fun b s2 k2 F2 H2 u g2 r2 => k2 F2 H2 u (g1.trans g2) r2)
  | none => exact k.elim
  | int _ => exact k.elim
  | str _ => exact k.elim
  | list _ => exact k.elim
  | tuple _ => exact k.elim
  | dict _ => exact k.elim
theorem de_not {a : Expr} {fa : Rho → M D} (ha : DB X T EX a fa) : DE X T EX (.UnaryOp .Not a pos) (f1 dNot fa) := by
  obtain ⟨_, a1, a2⟩ := ha
  refine ⟨_, pe_not a1, fun R p => a2 R (p.bind.mono fun d s1 k F1 H1 v g1 w1 => ?_)⟩
  obtain ⟨d', e, k2⟩ := k.lift
  cases d with
  | bool c => cases e; exact ⟨c, w1.bool, k2 F1 H1 _ g1 (.bl _)⟩
  | _ => cases e
@[simp] def fIf (t : Rho → M Bool) (fa fb : Rho → M D) : Rho → M D := fun ρ => do
  let c ← t ρ
  if c then fa ρ else fb ρ
theorem de_if {c a b : Expr} {t : Rho → M Bool} {fa fb : Rho → M D} (hc : DT X T EX c t) (ha : DE X T EX a fa) (hb : DE X T EX b fb) : DE X T EX (.IfExp c a b pos) (fIf t fa fb) := by
  obtain ⟨_, c1, c2⟩ := hc
  obtain ⟨_, a1, a2⟩ := ha
  obtain ⟨_, b1, b2⟩ := hb
  refine ⟨_, pe_ifExp c1 a1 b1, fun R p => c2 R (p.bind.mono fun c s1 k F1 H1 g1 => ?_)⟩
  cases c with
  | true =>
    rw [if_pos rfl]
    rw [if_pos rfl] at k
    exact a2 (R.grow g1) (k.mono fun b s2 k2 F2 H2 u g2 r2 => k2 F2 H2 u (g1.trans g2) r2)
  | false =>
    rw [if_neg Bool.false_ne_true]
    rw [if_neg Bool.false_ne_true] at k
    exact b2 (R.grow g1) (k.mono fun b s2 k2 F2 H2 u g2 r2 => k2 F2 H2 u (g1.trans g2) r2)
/-! ### displays, arguments -/
@[simp] def dNil : Rho → M (List D) := fun _ => pure []
@[simp] def dCons (fa : Rho → M D) (fr : Rho → M (List D)) : Rho → M (List D) := fun ρ => do
  let x ← fa ρ
  let xs ← fr ρ
  pure (x :: xs)
theorem dd_nil : DD X T EX 0 [] dNil := ⟨_, pa_nil, fun R p => p.ret _ _ [] R.g.refl .nil rfl⟩
theorem dd_cons {e : Expr} {es : List Expr} {n : Nat} {fa : Rho → M D} {fr : Rho → M (List D)} (ha : DE X T EX e fa) (hr : DD X T EX n es fr) (he : starEach (e :: es) X.env = (false, eval e X.env) :: starEach es X.env := by rfl) : DD X T EX (n + 1) (e :: es) (dCons fa fr) := by
  obtain ⟨_, a1, a2⟩ := ha
  obtain ⟨_, b1, b2⟩ := hr
  refine ⟨_, pa_cons a1 b1 he, fun R p => a2 R (p.bind.mono fun d s1 k F1 H1 v g1 w1 => ?_)⟩
  exact b2 (R.grow g1) (k.bind.mono fun ds s2 k2 F2 H2 vs g2 r2 hn => k2.ret F2 H2 (v :: vs) (g1.trans g2) (.cons (Rp.up g2.ff w1) r2) (congrArg Nat.succ hn))
@[simp] def fTup (f : Rho → M (List D)) : Rho → M D := fun ρ => do
  let xs ← f ρ
  pure (.tuple xs)
theorem de_tup {es : List Expr} {n x1 : Nat} {f : Rho → M (List D)} (h : DD X T EX n es f) (hn : n ≤ 16777216 := by decide) : DE X T EX (.Tuple es x1 pos) (fTup f) := by
  obtain ⟨_, a1, a2⟩ := h
  refine ⟨_, pe_tup a1, fun R p => a2 R (p.bind.mono fun ds s1 k F1 H1 vs g1 r1 hl => ⟨by rw [hl, sizeLine_eq]; exact hn, fun q hq => ?_⟩)⟩
  refine k.ret _ _ _ (g1.trans ((R.grow g1).g.new hq)) (.tup (.inl (.inl upd_same)) (RpAll.up (fun x u z => ?_) r1))
  rw [upd_ne (ne_of_none (g1.sub _ _ z) hq)]
  exact z
theorem dl_lst {es : List Expr} {n : Nat} {f : Rho → M (List D)} (h : DD X T EX n es f) (hn : n ≤ 16777216 := by decide) : DL X T EX (.List es pos) f := by
  obtain ⟨_, a1, a2⟩ := h
  refine ⟨_, pe_lst a1, fun R p => a2 R (p.mono fun ds s1 k F1 H1 vs g1 r1 hl => ⟨by rw [hl, sizeLine_eq]; exact hn, fun q hq => ?_⟩)⟩
  exact k _ _ _ (g1.trans ((R.grow g1).g.newOwn hq)) (g1.newL (NewL.of (R.grow g1).g hq r1))
@[simp] def aNil : Rho → M (List Sl) := fun _ => pure []
@[simp] def aCons (fa : Rho → M D) (fr : Rho → M (List Sl)) : Rho → M (List Sl) := fun ρ => do
  let x ← fa ρ
  let xs ← fr ρ
  pure (.dat x :: xs)
@[simp] def aHand (i : Nat) (fr : Rho → M (List Sl)) : Rho → M (List Sl) := fun ρ => match ρ[i]? with
  | some .hand => do
    let xs ← fr ρ
    pure (.hand :: xs)
  | _ => M.bad
theorem da_nil : DA X T EX 0 [] aNil := ⟨_, pa_nil, fun R p => p.ret _ _ [] R.g.refl .nil rfl⟩
theorem da_cons {e : Expr} {es : List Expr} {n : Nat} {fa : Rho → M D} {fr : Rho → M (List Sl)} (ha : DE X T EX e fa) (hr : DA X T EX n es fr) (he : starEach (e :: es) X.env = (false, eval e X.env) :: starEach es X.env := by rfl) : DA X T EX (n + 1) (e :: es) (aCons fa fr) := by
  obtain ⟨_, a1, a2⟩ := ha
  obtain ⟨_, b1, b2⟩ := hr
  refine ⟨_, pa_cons a1 b1 he, fun R p => a2 R (p.bind.mono fun d s1 k F1 H1 v g1 w1 => ?_)⟩
  exact b2 (R.grow g1) (k.bind.mono fun ds s2 k2 F2 H2 vs g2 r2 hn => k2.ret F2 H2 (v :: vs) (g1.trans g2) (.cons (Rp.up g2.ff w1) r2) (congrArg Nat.succ hn))
theorem da_hand (i : Nat) {x : Str} {es : List Expr} {n : Nat} {fr : Rho → M (List Sl)} (hr : DA X T EX n es fr) (hN : X.N[i]? = some x := by rfl) (hv : Vis X.env.scope x := by first | exact Or.inl rfl | exact Or.inr (Or.inl rfl) | exact Or.inr (Or.inr rfl)) (hd : (x == ("__debug__" : Str)) = false := by decide)
    (hcd : (x == ("__classdict__" : Str)) = false := by decide) (he : starEach (.Name x pos :: es) X.env = (false, eval (.Name x pos) X.env) :: starEach es X.env := by rfl) : DA X T EX (n + 1) (.Name x pos :: es) (aHand i fr) := by
  obtain ⟨_, b1, b2⟩ := hr
  refine ⟨_, pa_cons (pe_var hN hv hd hcd) b1 he, fun {hp F0 H0 F H σ ρ s Q} R p => ?_⟩
  unfold aHand at p
  cases q : ρ[i]? with
  | none => rw [q] at p; exact p.elim
  | some y =>
    rw [q] at p
    cases y with
    | hand =>
      exact ⟨.ref hp, R.sl i _ q, b2 R (p.bind.mono fun as s2 k2 F2 H2 vs g2 r2 hn => k2.ret F2 H2 _ g2 (.cons rfl r2) (congrArg Nat.succ hn))⟩
    | un => exact p.elim
    | own xs => exact p.elim
    | dat d => exact p.elim
end
end Jw
namespace Jw
open PySem PySem.Spec PyProof.Rows L2
/-! ### built-ins -/
def CallP1 (K : PySem.W.Frag) (r : List V → Hp → VK → Prop) (h : D → Option D) : Prop := ∀ {T : List (Addr × Str)} {hp : Addr} {F0 H0 F H : Hp} {s : HS} {v : V} {a d : D} {Q : VK}, Grow K T hp F0 H0 F H s → Bw K hp F H v a → h a = some d →
  (∀ F' H' u, Grow K T hp F H F' H' s → Rp K F' u d → Q u H') → r [v] H Q
def CallN1 (K : PySem.W.Frag) (r : List V → Hp → VK → Prop) (h : D → Option (List D)) : Prop := ∀ {T : List (Addr × Str)} {hp : Addr} {F0 H0 F H : Hp} {s : HS} {v : V} {a : D} {xs : List D} {Q : VK}, Grow K T hp F0 H0 F H s → Bw K hp F H v a → h a = some xs →
  (∀ F' H' p, Grow K T hp F H F' H' s → NewL K hp H F' H' p xs → Q (.ref p) H') → r [v] H Q
def CallP2 (K : PySem.W.Frag) (r : List V → Hp → VK → Prop) (h : D → D → Option D) : Prop := ∀ {T : List (Addr × Str)} {hp : Addr} {F0 H0 F H : Hp} {s : HS} {v w : V} {a b d : D} {Q : VK}, Grow K T hp F0 H0 F H s → Bw K hp F H v a → Bw K hp F H w b → h a b = some d →
  (∀ F' H' u, Grow K T hp F H F' H' s → Rp K F' u d → Q u H') → r [v, w] H Q
section
variable {X : Cx} {T : List (Addr × Str)} {EX : String → Hp → Prop} {pos p : Pos}
@[simp] def f1L (h : D → Option (List D)) (fa : Rho → M D) : Rho → M (List D) := fun ρ => do
  let a ← fa ρ
  O.lift (h a)
theorem ev_call1 {ta : TE} {fa : Rho → M D} {r : List V → Hp → VK → Prop} {h : D → Option D} (ha : EvB X.K T EX ta fa) (hr : CallP1 X.K r h) : EvE X.K T EX (tCB r (tCons ta tNil)) (f1 h fa) := fun R p =>
  ha R (p.bind.mono fun a s1 k1 F1 H1 v g1 b1 => by
    obtain ⟨d, e, k⟩ := k1.lift
    exact hr (R.grow g1).g b1 e fun F' H' u g3 r3 => k F' H' u (g1.trans g3) r3)
theorem evl_call1 {ta : TE} {fa : Rho → M D} {r : List V → Hp → VK → Prop} {h : D → Option (List D)} (ha : EvB X.K T EX ta fa) (hr : CallN1 X.K r h) : EvL X.K T EX (tCB r (tCons ta tNil)) (f1L h fa) := fun R p =>
  ha R (p.bind.mono fun a s1 k1 F1 H1 v g1 b1 => by
    obtain ⟨d, e, k⟩ := k1.lift
    exact hr (R.grow g1).g b1 e fun F' H' u g3 r3 => k F' H' u (g1.trans g3) (g1.newL r3))
theorem ev_call2 {ta tb : TE} {fa fb : Rho → M D} {r : List V → Hp → VK → Prop} {h : D → D → Option D} (ha : EvB X.K T EX ta fa) (hb : EvB X.K T EX tb fb) (hr : CallP2 X.K r h) : EvE X.K T EX (tCB r (tCons ta (tCons tb tNil))) (f2 h fa fb) := fun R p =>
  ha R (p.bind.mono fun a s1 k1 F1 H1 v g1 b1 => hb (R.grow g1) (k1.bind.mono fun b s2 k2 F2 H2 w g2 b2 => by
    obtain ⟨d, e, k⟩ := k2.lift
    exact hr ((R.grow g1).grow g2).g (b1.grow g2) b2 e fun F' H' u g3 r3 => k F' H' u ((g1.trans g2).trans g3) r3))
theorem de_b1 {x : Str} {id : String} {e : Expr} {fa : Rho → M D} {r : List V → Hp → VK → Prop} {h : D → Option D} (hc : CallR X (.builtin id) r) (hr : CallP1 X.K r h) (hv : bootBuiltins x = some (.builtin id)) (hn : x ≠ "__name__") (hd : (x == ("__debug__" : Str)) = false)
    (hg : Gl X x) (hm : X.mg x = none) (ha : DB X T EX e fa) (he : starEach [e] X.env = (false, eval e X.env) :: starEach [] X.env := by rfl) : DE X T EX (.Call (.Name x p) [e] [] pos) (f1 h fa) :=
  let ⟨_, a1, a2⟩ := ha; ⟨_, pe_callB hc hg hm hv (pa_cons a1 pa_nil he) hn hd he rfl, ev_call1 a2 hr⟩
theorem de_b2 {x : Str} {id : String} {e e2 : Expr} {fa fb : Rho → M D} {r : List V → Hp → VK → Prop} {h : D → D → Option D} (hc : CallR X (.builtin id) r) (hr : CallP2 X.K r h) (hv : bootBuiltins x = some (.builtin id)) (hn : x ≠ "__name__") (hd : (x == ("__debug__" : Str)) = false)
    (hg : Gl X x) (hm : X.mg x = none) (ha : DB X T EX e fa) (hb : DB X T EX e2 fb) (he : starEach [e, e2] X.env = (false, eval e X.env) :: starEach [e2] X.env := by rfl) (he2 : starEach [e2] X.env = (false, eval e2 X.env) :: starEach [] X.env := by rfl)
    (hpl : (backTo pos (starEach [e2] X.env)).any (·.1) = false := by rfl) : DE X T EX (.Call (.Name x p) [e, e2] [] pos) (f2 h fa fb) :=
  let ⟨_, a1, a2⟩ := ha; let ⟨_, b1, b2⟩ := hb; ⟨_, pe_callB hc hg hm hv (pa_cons a1 (pa_cons b1 pa_nil he2) he) hn hd he hpl, ev_call2 a2 b2 hr⟩
theorem de_ty1 {x : Str} {id : String} {e : Expr} {fa : Rho → M D} {r : List V → Hp → VK → Prop} {h : D → Option D} (hc : CallR X (.type id) r) (hr : CallP1 X.K r h) (hv : bootBuiltins x = some (.type id)) (hn : x ≠ "__name__") (hd : (x == ("__debug__" : Str)) = false)
    (hg : Gl X x) (hm : X.mg x = none) (ha : DB X T EX e fa) (he : starEach [e] X.env = (false, eval e X.env) :: starEach [] X.env := by rfl) : DE X T EX (.Call (.Name x p) [e] [] pos) (f1 h fa) :=
  let ⟨_, a1, a2⟩ := ha; ⟨_, pe_callTy hc hg hm hv (pa_cons a1 pa_nil he) hn hd he rfl, ev_call1 a2 hr⟩
theorem dl_ty1 {x : Str} {id : String} {e : Expr} {fa : Rho → M D} {r : List V → Hp → VK → Prop} {h : D → Option (List D)} (hc : CallR X (.type id) r) (hr : CallN1 X.K r h) (hv : bootBuiltins x = some (.type id)) (hn : x ≠ "__name__") (hd : (x == ("__debug__" : Str)) = false)
    (hg : Gl X x) (hm : X.mg x = none) (ha : DB X T EX e fa) (he : starEach [e] X.env = (false, eval e X.env) :: starEach [] X.env := by rfl) : DL X T EX (.Call (.Name x p) [e] [] pos) (f1L h fa) :=
  let ⟨_, a1, a2⟩ := ha; ⟨_, pe_callTy hc hg hm hv (pa_cons a1 pa_nil he) hn hd he rfl, evl_call1 a2 hr⟩
theorem dl_b1 {x : Str} {id : String} {e : Expr} {fa : Rho → M D} {r : List V → Hp → VK → Prop} {h : D → Option (List D)} (hc : CallR X (.builtin id) r) (hr : CallN1 X.K r h) (hv : bootBuiltins x = some (.builtin id)) (hn : x ≠ "__name__") (hd : (x == ("__debug__" : Str)) = false)
    (hg : Gl X x) (hm : X.mg x = none) (ha : DB X T EX e fa) (he : starEach [e] X.env = (false, eval e X.env) :: starEach [] X.env := by rfl) : DL X T EX (.Call (.Name x p) [e] [] pos) (f1L h fa) :=
  let ⟨_, a1, a2⟩ := ha; ⟨_, pe_callB hc hg hm hv (pa_cons a1 pa_nil he) hn hd he rfl, evl_call1 a2 hr⟩
end
/-! the functions over data -/
@[simp] def dAbs : D → Option D
  | .int i => some (.int (if i < 0 then -i else i))
  | _ => none
@[simp] def dMax2 : D → D → Option D
  | .int i, .int j => some (.int (if j > i then j else i))
  | _, _ => none
@[simp] def dMin2 : D → D → Option D
  | .int i, .int j => some (.int (if j < i then j else i))
  | _, _ => none
def dInt : D → Option D
  | .int i => some (.int i)
  | .bool b => some (.int (if b then 1 else 0))
  | _ => none
def dListL : D → Option (List D)
  | .list xs => some xs
  | .tuple xs => some xs
  | _ => none
def dTuple : D → Option D
  | .list xs => some (.tuple xs)
  | .tuple xs => some (.tuple xs)
  | _ => none
def dBools : List D → Option (List Bool)
  | [] => some []
  | .bool b :: r => (dBools r).map (b :: ·)
  | _ => none
def dInts : List D → Option (List Int)
  | [] => some []
  | .int b :: r => (dInts r).map (b :: ·)
  | _ => none
def dAll : D → Option D
  | .list xs => (dBools xs).map fun bs => .bool (bs.all id)
  | _ => none
def dAny : D → Option D
  | .list xs => (dBools xs).map fun bs => .bool (bs.any id)
  | _ => none
def dSum : D → Option D
  | .list xs => (dInts xs).map fun ns => .int ns.sum
  | _ => none
def alikeB (xs : List D) : Bool := (xs.all fun x => xs.all fun y => PySem.W.alike x y) && xs.all fun x => !isNone x
def dMinL : D → Option D
  | .list (x :: xs) => if alikeB (x :: xs) = true ∧ PyData.depthAll (x :: xs) ≤ 64 then some (PySem.W.minD x xs) else none
  | _ => none
def tyN : D → String
  | .none => "NoneType"
  | .bool _ => "bool"
  | .int _ => "int"
  | .str _ => "str"
  | .list _ => "list"
  | .tuple _ => "tuple"
  | .dict _ => "dict"
def dIsi (T : String) (d : D) : Option D := (kitB (tyN d) T).map .bool
section
variable {K : PySem.W.Frag}
theorem RpAll.boolsV {H : Hp} : ∀ {vs : List V} {ds : List D} {bs : List Bool}, RpAll K H vs ds → dBools ds = some bs → vs = bs.map V.bl
  | _, _, _, .nil, e => by cases e; rfl
  | _, _, _, .cons (d := d) (ds := ds) h a, e => by
    cases h with
    | bl b =>
      unfold Jw.dBools at e
      cases q : Jw.dBools ds with
      | none => rw [q] at e; cases e
      | some cs =>
        rw [q] at e
        cases e
        rw [RpAll.boolsV a q]
        rfl
    | _ => cases e
theorem RpAll.intsV {H : Hp} : ∀ {vs : List V} {ds : List D} {bs : List Int}, RpAll K H vs ds → dInts ds = some bs → vs = bs.map V.int
  | _, _, _, .nil, e => by cases e; rfl
  | _, _, _, .cons (d := d) (ds := ds) h a, e => by
    cases h with
    | int b =>
      unfold Jw.dInts at e
      cases q : Jw.dInts ds with
      | none => rw [q] at e; cases e
      | some cs =>
        rw [q] at e
        cases e
        rw [RpAll.intsV a q]
        rfl
    | _ => cases e
theorem c_abs : CallP1 K (fun xs H Q => ∃ i, xs = [V.int i] ∧ Q (V.int (if i < 0 then -i else i)) H) dAbs := by
  intro T hp F0 H0 F H s v a d Q G hv e q
  cases a <;> cases e
  rw [hv.int]
  exact ⟨_, rfl, q F H _ G.refl (.int _)⟩
theorem c_max2 : CallP2 K (fun xs H Q => ∃ i j, xs = [V.int i, V.int j] ∧ Q (V.int (if j > i then j else i)) H) dMax2 := by
  intro T hp F0 H0 F H s v w a b d Q G hv hw e q
  unfold dMax2 at e
  split at e
  · cases e
    rw [hv.int, hw.int]
    exact ⟨_, _, rfl, q F H _ G.refl (.int _)⟩
  · cases e
theorem c_min2 : CallP2 K (fun xs H Q => ∃ i j, xs = [V.int i, V.int j] ∧ Q (V.int (if j < i then j else i)) H) dMin2 := by
  intro T hp F0 H0 F H s v w a b d Q G hv hw e q
  unfold dMin2 at e
  split at e
  · cases e
    rw [hv.int, hw.int]
    exact ⟨_, _, rfl, q F H _ G.refl (.int _)⟩
  · cases e
theorem c_int : CallP1 K (fun xs H Q => (∃ i, xs = [V.int i] ∧ Q (V.int i) H) ∨ ∃ k, xs = [V.bl k] ∧ Q (V.int (if k = true then 1 else 0)) H) dInt := by
  intro T hp F0 H0 F H s v a d Q G hv e q
  cases a <;> cases e
  · rw [hv.bool]
    exact .inr ⟨_, rfl, q F H _ G.refl (.int _)⟩
  · rw [hv.int]
    exact .inl ⟨_, rfl, q F H _ G.refl (.int _)⟩
theorem c_len : CallP1 K (fun xs H Q => ∃ x n, xs = [x] ∧ LenV K x H n ∧ Q (V.int n) H) dLen := by
  intro T hp F0 H0 F H s v a d Q G hv e q
  unfold dLen at e
  split at e
  · cases e
    obtain ⟨p1, vs1, rfl, h1, r1⟩ := hv.list G.sub
    refine ⟨_, _, rfl, .inl ⟨vs1, .inl (.inl h1), rfl⟩, ?_⟩
    rw [r1.len]
    exact q F H _ G.refl (.int _)
  · cases e
    obtain ⟨p1, vs1, rfl, h1, r1⟩ := hv.tuple
    refine ⟨_, _, rfl, .inr ⟨vs1, St.up G.sub h1, rfl⟩, ?_⟩
    rw [r1.len]
    exact q F H _ G.refl (.int _)
  · split at e
    · cases e
      rename_i hz
      rw [hv.str]
      exact ⟨_, _, rfl, ⟨by rw [sizeLine_eq]; exact hz, rfl⟩, q F H _ G.refl (.int _)⟩
    · cases e
  · cases e
theorem c_list : CallN1 K (fun xs H Q => ∃ p ys, xs = [V.ref p] ∧ (SqL K H p ys ∨ SqT K H p ys) ∧ ∀ l, H l = none → Q (V.ref l) (upd H l (.lst ys))) dListL := by
  intro T hp F0 H0 F H s v a xs Q G hv e q
  unfold dListL at e
  split at e
  · cases e
    obtain ⟨p1, vs1, rfl, h1, r1⟩ := hv.list G.sub
    exact ⟨p1, vs1, rfl, .inl (.inl (.inl h1)), fun l hn => q _ _ _ (G.newOwn hn) (NewL.of G hn r1)⟩
  · cases e
    obtain ⟨p1, vs1, rfl, h1, r1⟩ := hv.tuple
    exact ⟨p1, vs1, rfl, .inr (St.up G.sub h1), fun l hn => q _ _ _ (G.newOwn hn) (NewL.of G hn r1)⟩
  · cases e
theorem c_tuple : CallP1 K (fun xs H Q => ∃ p ys, xs = [V.ref p] ∧ ((SqL K H p ys ∧ ∀ l, H l = none → Q (V.ref l) (upd H l (.tup ys))) ∨ SqT K H p ys ∧ Q (V.ref p) H)) dTuple := by
  intro T hp F0 H0 F H s v a xs Q G hv e q
  unfold dTuple at e
  split at e
  · cases e
    obtain ⟨p1, vs1, rfl, h1, r1⟩ := hv.list G.sub
    refine ⟨p1, vs1, rfl, .inl ⟨.inl (.inl h1), fun l hn => q _ _ _ (G.new hn) (.tup (.inl (.inl upd_same)) (RpAll.up (fun x u z => ?_) r1))⟩⟩
    rw [upd_ne (ne_of_none (G.sub _ _ z) hn)]
    exact z
  · cases e
    obtain ⟨p1, vs1, rfl, h1, r1⟩ := hv.tuple
    exact ⟨p1, vs1, rfl, .inr ⟨St.up G.sub h1, q F H _ G.refl (.tup h1 r1)⟩⟩
  · cases e
theorem map_some {α β : Type} {f : α → β} {o : Option α} {b : β} (h : o.map f = some b) : ∃ a, o = some a ∧ f a = b := by
  cases o with
  | none => cases h
  | some a => cases h; exact ⟨a, rfl, rfl⟩
theorem c_all : CallP1 K (rAll K) dAll := by
  intro T hp F0 H0 F H s v a d Q G hv e q
  cases a with
  | list xs =>
    obtain ⟨bs, e1, rfl⟩ := map_some e
    obtain ⟨p1, vs1, rfl, h1, r1⟩ := hv.list G.sub
    cases r1.boolsV e1
    exact ⟨p1, bs, rfl, .inl (.inl h1), q F H _ G.refl (.bl _)⟩
  | _ => cases e
theorem c_any : CallP1 K (rAny K) dAny := by
  intro T hp F0 H0 F H s v a d Q G hv e q
  cases a with
  | list xs =>
    obtain ⟨bs, e1, rfl⟩ := map_some e
    obtain ⟨p1, vs1, rfl, h1, r1⟩ := hv.list G.sub
    cases r1.boolsV e1
    exact ⟨p1, bs, rfl, .inl (.inl h1), q F H _ G.refl (.bl _)⟩
  | _ => cases e
theorem c_sum : CallP1 K (rSum K) dSum := by
  intro T hp F0 H0 F H s v a d Q G hv e q
  cases a with
  | list xs =>
    obtain ⟨bs, e1, rfl⟩ := map_some e
    obtain ⟨p1, vs1, rfl, h1, r1⟩ := hv.list G.sub
    cases r1.intsV e1
    exact ⟨p1, bs, rfl, .inl (.inl h1), q F H _ G.refl (.int _)⟩
  | _ => cases e
/-- isinstance(x, T) -/
theorem ty_of {hp : Addr} {F H : Hp} {v : V} {a : D} (h : Bw K hp F H v a) (e : ∀ a o, F a = some o → H a = some o) : TyX K H v (.type (tyN a)) := by
  rcases h with h | ⟨p, vs, xs, rfl, rfl, h1, _⟩
  · cases h with
    | non => exact .base .non
    | bl b => exact .base (.bl b)
    | int i => exact .base (.int i)
    | str x => exact .base (.str x)
    | lst h1 _ => exact .base (.lst (e _ _ h1))
    | tup h1 _ =>
      rcases h1 with (h1 | ⟨o, h1⟩) | ⟨o, its, n, h1, h2, h3⟩
      · exact .base (.tup (e _ _ h1))
      · exact .fTuple (e _ _ h1)
      · exact .kTuple h1 h2
  · exact .base (.lst h1)
end
end Jw
namespace Jw
open PySem PySem.Spec PyProof.Rows L2
section
variable {X : Cx} {T : List (Addr × Str)} {EX : String → Hp → Prop} {pos p p2 : Pos}
/-! ### isinstance -/
theorem de_isi {x Tx : Str} {Tn : String} {e : Expr} {fa : Rho → M D} (hx : bootBuiltins x = some (.builtin "isinstance")) (hn : x ≠ "__name__") (hd : (x == ("__debug__" : Str)) = false)
    (hT : bootBuiltins Tx = some (.type Tn)) (hTn : Tx ≠ "__name__") (hTd : (Tx == ("__debug__" : Str)) = false) (hg : Gl X x) (hm : X.mg x = none) (hgT : Gl X Tx) (hmT : X.mg Tx = none) (ha : DB X T EX e fa)
    (he : starEach [e, .Name Tx p2] X.env = (false, eval e X.env) :: starEach [.Name Tx p2] X.env := by rfl) : DE X T EX (.Call (.Name x p) [e, .Name Tx p2] [] pos) (f1 (dIsi Tn) fa) := by
  obtain ⟨_, a1, a2⟩ := ha
  refine ⟨_, pe_callB call_isi hg hm hx (pa_cons a1 (pa_cons (pe_bltn (v := .ty Tn) hgT hmT hT rfl hTn hTd) pa_nil) he) hn hd he rfl, fun R q => a2 R (q.bind.mono fun d s1 k F1 H1 v g1 w1 => ?_)⟩
  obtain ⟨d', e', k2⟩ := k.lift
  obtain ⟨b, e2, rfl⟩ := map_some e'
  exact ⟨v, .ty Tn, _, .type Tn, b, rfl, .ty Tn, ty_of w1 g1.sub, kit_ty e2, k2 F1 H1 _ g1 (.bl b)⟩
/-! ### slices -/
def cut {α : Type} (xs : List α) (lo hi : Option Int) : List α := (xs.drop (HT.sIx xs.length 0 lo)).take (HT.sIx xs.length xs.length hi - HT.sIx xs.length 0 lo)
def dSlice : D → Option Int → Option Int → Option D
  | .list xs, lo, hi => some (.list (cut xs lo hi))
  | .tuple xs, lo, hi => some (.tuple (cut xs lo hi))
  | _, _, _ => none
def dSliceL : D → Option Int → Option Int → Option (List D)
  | .list xs, lo, hi => some (cut xs lo hi)
  | _, _, _ => none
theorem RpAll.cut {K : PySem.W.Frag} {H : Hp} {vs : List V} {ds : List D} (h : RpAll K H vs ds) (lo hi : Option Int) : RpAll K H (cutV vs lo hi) (Jw.cut ds lo hi) := by
  unfold cutV Jw.cut
  rw [h.len]
  exact (h.drop _).take _
def rSlD (K : PySem.W.Frag) : V → Option Int → Option Int → Hp → VK → Prop := fun x lo hi H Q => rSlL K x lo hi H Q ∨ rSlA K x lo hi H Q
theorem sl_data : SlR X (rSlD X.K) := fun pins s σ H x v vl vu lo hi sl Q I r h1 h2 h3 h => h.elim (fun h => sl_list pins s σ H x v vl vu lo hi sl Q I r h1 h2 h3 h) fun h => sl_tupA pins s σ H x v vl vu lo hi sl Q I r h1 h2 h3 h
theorem whole_cut {α : Type} {xs : List α} {lo hi : Option Int} (h : HT.sIx xs.length 0 lo = 0 ∧ HT.sIx xs.length xs.length hi = xs.length) : cut xs lo hi = xs := by
  unfold cut
  rw [h.1, h.2]
  simp
theorem s_slice {K : PySem.W.Frag} {T : List (Addr × Str)} {hp : Addr} {F0 H0 F H : Hp} {s : HS} {v : V} {a d : D} {lo hi : Option Int} {Q : VK} (G : Grow K T hp F0 H0 F H s) (hv : Bw K hp F H v a) (e : dSlice a lo hi = some d)
    (q : ∀ F' H' u, Grow K T hp F H F' H' s → Rp K F' u d → Q u H') : rSlD K v lo hi H Q := by
  unfold dSlice at e
  split at e
  · cases e
    obtain ⟨p1, vs1, rfl, h1, r1⟩ := hv.list G.sub
    refine .inl ⟨p1, vs1, rfl, .inl (.inl h1), fun l hn => q _ _ _ (G.new hn) (.lst upd_same (RpAll.up (fun x u z => ?_) (r1.cut _ _)))⟩
    rw [upd_ne (ne_of_none (G.sub _ _ z) hn)]
    exact z
  · cases e
    obtain ⟨p1, vs1, rfl, h1, r1⟩ := hv.tuple
    refine .inr ⟨p1, vs1, rfl, St.up G.sub h1, fun hw => ?_, fun _ l hn => q _ _ _ (G.new hn) (.tup (.inl (.inl upd_same)) (RpAll.up (fun x u z => ?_) (r1.cut _ _)))⟩
    · rw [r1.len] at hw
      rw [whole_cut hw] at q
      exact q F H _ G.refl (.tup h1 r1)
    · rw [upd_ne (ne_of_none (G.sub _ _ z) hn)]
      exact z
  · cases e
theorem s_sliceL {K : PySem.W.Frag} {T : List (Addr × Str)} {hp : Addr} {F0 H0 F H : Hp} {s : HS} {v : V} {a : D} {xs : List D} {lo hi : Option Int} {Q : VK} (G : Grow K T hp F0 H0 F H s) (hv : Bw K hp F H v a) (e : dSliceL a lo hi = some xs)
    (q : ∀ F' H' p, Grow K T hp F H F' H' s → NewL K hp H F' H' p xs → Q (.ref p) H') : rSlD K v lo hi H Q := by
  unfold dSliceL at e
  split at e
  · cases e
    obtain ⟨p1, vs1, rfl, h1, r1⟩ := hv.list G.sub
    exact .inl ⟨p1, vs1, rfl, .inl (.inl h1), fun l hn => q _ _ _ (G.newOwn hn) (NewL.of G hn (r1.cut _ _))⟩
  · cases e
/-- a part of a slice -/
def DO (X : Cx) (T : List (Addr × Str)) (EX : String → Hp → Prop) (e : Option Expr) (f : Rho → M (Option Int)) : Prop := ∃ to, PO X e to ∧ ∀ {hp : Addr} {F0 H0 F H : Hp} {σ : L2.St} {ρ : Rho} {s : HS} {Q : Option Int → Hp → Prop}, Rel X.K T hp F0 H0 F H σ ρ s →
  Post (f ρ s) (fun b s' => ∀ F' H', Grow X.K T hp F H F' H' s' → Q b H') (WX X.K T hp F0 H0 EX) → to σ H Q
def dI : D → Option Int
  | .int i => some i
  | _ => none
theorem dI_is {d : D} {i : Int} (h : dI d = some i) : d = .int i := by
  cases d with
  | int k => cases h; rfl
  | _ => cases h
def oNone : Rho → M (Option Int) := fun _ => pure none
def oSome (fa : Rho → M D) : Rho → M (Option Int) := fun ρ => do
  let a ← fa ρ
  let i ← O.lift (dI a)
  pure (some i)
theorem do_none : DO X T EX none oNone := ⟨_, po_none, fun R q => q.ret _ _ R.g.refl⟩
theorem do_some {e : Expr} {fa : Rho → M D} (ha : DB X T EX e fa) : DO X T EX (some e) (oSome fa) := by
  obtain ⟨_, a1, a2⟩ := ha
  refine ⟨_, po_some a1, fun R q => a2 R (q.bind.mono fun d s1 k F1 H1 v g1 w1 => ?_)⟩
  obtain ⟨i, e1, k2⟩ := k.bind.lift
  cases dI_is e1
  exact ⟨i, w1.int, k2.ret F1 H1 g1⟩
def fSlice (fa : Rho → M D) (fl fh : Rho → M (Option Int)) : Rho → M D := fun ρ => do
  let a ← fa ρ
  let l ← fl ρ
  let h ← fh ρ
  O.lift (dSlice a l h)
def fSliceL (fa : Rho → M D) (fl fh : Rho → M (Option Int)) : Rho → M (List D) := fun ρ => do
  let a ← fa ρ
  let l ← fl ρ
  let h ← fh ρ
  O.lift (dSliceL a l h)
theorem de_slice {e : Expr} {lo hi : Option Expr} {fa : Rho → M D} {fl fh : Rho → M (Option Int)} (ha : DB X T EX e fa) (hl : DO X T EX lo fl) (hh : DO X T EX hi fh) : DE X T EX (.Subscript e (.Slice lo hi none p2) pos) (fSlice fa fl fh) := by
  obtain ⟨_, a1, a2⟩ := ha
  obtain ⟨_, l1, l2⟩ := hl
  obtain ⟨_, h1, h2⟩ := hh
  refine ⟨_, pe_slice sl_data a1 l1 h1, fun R q => a2 R (q.bind.mono fun d s1 k1 F1 H1 v g1 w1 => l2 (R.grow g1) (k1.bind.mono fun l s2 k2 F2 H2 g2 => h2 ((R.grow g1).grow g2) (k2.bind.mono fun h s3 k3 F3 H3 g3 => ?_)))⟩
  obtain ⟨d', e', k4⟩ := k3.lift
  exact s_slice (((R.grow g1).grow g2).grow g3).g ((w1.grow g2).grow g3) e' fun F' H' u g4 r4 => k4 F' H' u (((g1.trans g2).trans g3).trans g4) r4
theorem dl_slice {e : Expr} {lo hi : Option Expr} {fa : Rho → M D} {fl fh : Rho → M (Option Int)} (ha : DB X T EX e fa) (hl : DO X T EX lo fl) (hh : DO X T EX hi fh) : DL X T EX (.Subscript e (.Slice lo hi none p2) pos) (fSliceL fa fl fh) := by
  obtain ⟨_, a1, a2⟩ := ha
  obtain ⟨_, l1, l2⟩ := hl
  obtain ⟨_, h1, h2⟩ := hh
  refine ⟨_, pe_slice sl_data a1 l1 h1, fun R q => a2 R (q.bind.mono fun d s1 k1 F1 H1 v g1 w1 => l2 (R.grow g1) (k1.bind.mono fun l s2 k2 F2 H2 g2 => h2 ((R.grow g1).grow g2) (k2.bind.mono fun h s3 k3 F3 H3 g3 => ?_)))⟩
  obtain ⟨d', e', k4⟩ := k3.lift
  exact s_sliceL (((R.grow g1).grow g2).grow g3).g ((w1.grow g2).grow g3) e' fun F' H' u g4 r4 => k4 F' H' u (((g1.trans g2).trans g3).trans g4) (((g1.trans g2).trans g3).newL r4)
/-! ### calls of defs -/
/-- a def's promise, from its worth F: n parameters; WE: what is wanted of its exceptions -/
def spOf (K : PySem.W.Frag) (T : List (Addr × Str)) (WE : XK → String → Hp → Prop) (n : Nat) (F : List Sl → M D) : Sp := fun vs H Q E => vs.length = n ∧ ∃ (hp : Addr) (Fz : Hp) (as : List Sl) (s : HS), Grow K T hp Fz H Fz H s ∧ ArgsOk K hp Fz vs as ∧
  Post (F as s) (fun d s' => ∀ F' H' v, Grow K T hp Fz H F' H' s' → Rp K F' v d → Q v H') (fun c s' => ∀ F' H', Grow K T hp Fz H F' H' s' → WE E c H')
abbrev noEX : String → Hp → Prop := fun _ _ => False
abbrev noWE : XK → String → Hp → Prop := fun _ _ _ => False
@[simp] def fCall (F : List Sl → M D) (fas : Rho → M (List Sl)) : Rho → M D := fun ρ => do
  let as ← fas ρ
  F as
theorem de_callW {k n : Nat} {f : Addr} {fd : FuncData} {ps : List Str} {x : Str} {e : Expr} {es : List Expr} {F : List Sl → M D} {fas : Rho → M (List Sl)} {CX : CXT} {WE : XK → String → Hp → Prop} {E : XK} (G : FnOk X.prog X.w X.K X.mg X.base CX k f fd ps (spOf X.K T WE n F))
    (hr : Room k X.A) (hm : X.mg x = some (.ref f)) (hk : PySem.W.keepIn X.K (.ref f) = true) (hb : Binds X.K fd ps []) (hx : Passes CX X E) (hE : ∀ c H, EX c H → WE E c H) (hg : Gl X x) (ha : DA X T EX n (e :: es) fas)
    (hdb : (x == ("__debug__" : Str)) = false := by decide) (he : starEach (e :: es) X.env = (false, eval e X.env) :: starEach es X.env := by rfl) (hpl : (backTo pos (starEach es X.env)).any (·.1) = false := by rfl) :
    DE X T EX (.Call (.Name x p) (e :: es) [] pos) (fCall F fas) := by
  obtain ⟨_, a1, a2⟩ := ha
  refine ⟨_, pe_call G hr hg hm hk hb .nil hx a1 hdb he hpl, fun {hp F0 H0 Fz H σ ρ s Q} R q => a2 R (q.bind.mono fun as s1 q2 F1 H1 vs g1 w1 hn => ?_)⟩
  rw [List.append_nil]
  have R1 := R.grow g1
  exact ⟨hn, hp, F1, as, s1, R1.g.refl, w1, Post.imp q2 (fun d s2 k F' H' v g2 r2 => k F' H' v (g1.trans g2) r2) fun c s2 k F' H' g2 => hE c H' (k F' H' (R1.g.trans g2))⟩
/-- nothing is raised -/
theorem de_call {k n : Nat} {f : Addr} {fd : FuncData} {ps : List Str} {x : Str} {e : Expr} {es : List Expr} {F : List Sl → M D} {fas : Rho → M (List Sl)} (G : FnOk X.prog X.w X.K X.mg X.base CX0 k f fd ps (spOf X.K T noWE n F))
    (hr : Room k X.A) (hm : X.mg x = some (.ref f)) (hk : PySem.W.keepIn X.K (.ref f) = true) (hb : Binds X.K fd ps []) (hg : Gl X x) (ha : DA X T noEX n (e :: es) fas)
    (hdb : (x == ("__debug__" : Str)) = false := by decide) (he : starEach (e :: es) X.env = (false, eval e X.env) :: starEach es X.env := by rfl) (hpl : (backTo pos (starEach es X.env)).any (·.1) = false := by rfl) :
    DE X T noEX (.Call (.Name x p) (e :: es) [] pos) (fCall F fas) := de_callW G hr hm hk hb pass0 (fun _ _ h => h) hg ha hdb he hpl
end
end Jw
namespace Jw
open PySem PySem.Spec PyProof.Rows L2
/-! ### targets -/
mutual
inductive Pat where
  | nm (i : Nat)
  | tp (ps : Pats)
inductive Pats where
  | nil
  | cons (p : Pat) (ps : Pats)
end
mutual
def Pat.g (K : PySem.W.Frag) : Pat → TG
  | .nm i => gName i
  | .tp ps => gTup K ps.size (ps.gs K)
def Pats.gs (K : PySem.W.Frag) : Pats → TGs
  | .nil => gNil
  | .cons p ps => gCons (p.g K) (ps.gs K)
def Pats.size : Pats → Nat
  | .nil => 0
  | .cons _ ps => ps.size + 1
end
mutual
def Pat.bind : Pat → D → Rho → Option Rho
  | .nm i, d, ρ => if i < ρ.length then some (ρ.set i (.dat d)) else none
  | .tp ps, .tuple ds, ρ => ps.binds ds ρ
  | .tp _, _, _ => none
def Pats.binds : Pats → List D → Rho → Option Rho
  | .nil, [], ρ => some ρ
  | .cons p ps, d :: ds, ρ => (p.bind d ρ).bind (ps.binds ds)
  | _, _, _ => none
def Pat.slots : Pat → List Nat
  | .nm i => [i]
  | .tp ps => ps.slotss
def Pats.slotss : Pats → List Nat
  | .nil => []
  | .cons p ps => p.slots ++ ps.slotss
end
mutual
theorem Pats.binds_len : ∀ {ps : Pats} {ds : List D} {ρ ρ' : Rho}, ps.binds ds ρ = some ρ' → ds.length = ps.size
  | .nil, [], _, _, _ => rfl
  | .nil, _ :: _, _, _, h => by cases h
  | .cons p ps, [], _, _, h => by cases h
  | .cons p ps, d :: ds, ρ, ρ', h => by
    unfold Pats.binds at h
    cases q : p.bind d ρ with
    | none => rw [q] at h; cases h
    | some ρ1 =>
      rw [q] at h
      exact congrArg Nat.succ (Pats.binds_len (ps := ps) h)
end
/-- outside of vs nothing is bound -/
def Out (vs : List Nat) (σ σ' : L2.St) : Prop := σ'.length = σ.length ∧ ∀ j, j ∉ vs → σ'[j]? = σ[j]?
theorem Out.refl (vs : List Nat) (σ : L2.St) : Out vs σ σ := ⟨rfl, fun _ _ => rfl⟩
theorem Out.trans {vs : List Nat} {σ σ1 σ2 : L2.St} (a : Out vs σ σ1) (b : Out vs σ1 σ2) : Out vs σ σ2 := ⟨b.1.trans a.1, fun j h => (b.2 j h).trans (a.2 j h)⟩
theorem Out.mono {vs ws : List Nat} {σ σ1 : L2.St} (a : Out vs σ σ1) (h : ∀ j ∈ vs, j ∈ ws) : Out ws σ σ1 := ⟨a.1, fun j n => a.2 j fun z => n (h j z)⟩
section
variable {K : PySem.W.Frag} {T : List (Addr × Str)} {hp : Addr} {F0 H0 F H : Hp} {s : HS}
mutual
theorem Pat.ok : ∀ (pt : Pat) {σ : L2.St} {ρ ρ' : Rho} {v : V} {d : D} {Q : L2.St → Hp → Prop}, Rel K T hp F0 H0 F H σ ρ s → Rp K F v d → pt.bind d ρ = some ρ' → (∀ σ', Rel K T hp F0 H0 F H σ' ρ' s → Out pt.slots σ σ' → Q σ' H) → pt.g K v σ H Q
  | .nm i, σ, ρ, ρ', v, d, Q, R, r, e, q => by
    unfold Pat.bind at e
    split at e
    · rename_i hi
      cases e
      unfold Pat.g
      refine q _ (R.setD hi r) ⟨List.length_set, fun j hj => ?_⟩
      have n : i ≠ j := fun z => hj (by unfold Pat.slots; rw [z]; exact List.mem_singleton_self j)
      exact List.getElem?_set_ne n
    · cases e
  | .tp ps, σ, ρ, ρ', v, d, Q, R, r, e, q => by
    cases r with
    | tup h1 h2 =>
      unfold Pat.bind at e
      unfold Pat.g
      have hl := Pats.binds_len e
      exact ⟨_, _, rfl, St.up R.g.sub h1, h2.len.trans hl, Pats.ok ps R h2 e fun σ' R' o => q σ' R' (by unfold Pat.slots; exact o)⟩
    | _ => cases e
theorem Pats.ok : ∀ (ps : Pats) {σ : L2.St} {ρ ρ' : Rho} {vs : List V} {ds : List D} {Q : L2.St → Hp → Prop}, Rel K T hp F0 H0 F H σ ρ s → RpAll K F vs ds → ps.binds ds ρ = some ρ' → (∀ σ', Rel K T hp F0 H0 F H σ' ρ' s → Out ps.slotss σ σ' → Q σ' H) → ps.gs K vs σ H Q
  | .nil, σ, ρ, ρ', vs, ds, Q, R, r, e, q => by
    cases r with
    | nil =>
      unfold Pats.binds at e
      cases e
      unfold Pats.gs
      exact ⟨rfl, q σ R (Out.refl _ _)⟩
    | cons _ _ => cases e
  | .cons p ps, σ, ρ, ρ', vs, ds, Q, R, r, e, q => by
    cases r with
    | nil => cases e
    | cons h a =>
      unfold Pats.binds at e
      unfold Pats.gs
      cases e1 : p.bind _ ρ with
      | none => rw [e1] at e; cases e
      | some ρ1 =>
        rw [e1] at e
        refine ⟨_, _, rfl, Pat.ok p R h e1 fun σ1 R1 o1 => Pats.ok ps R1 a e fun σ2 R2 o2 => q σ2 R2 ?_⟩
        unfold Pats.slotss
        exact (o1.mono fun j hj => List.mem_append_left _ hj).trans (o2.mono fun j hj => List.mem_append_right _ hj)
end
end
/-! ### what is walked -/
/-- J walks the data ds, while F stands -/
def Wk (K : PySem.W.Frag) (T : List (Addr × Str)) (hp : Addr) (F : Hp) (J : It) (ds : List D) : Prop := ∀ F0 H0 F' H' s', (∀ a o, F a = some o → F' a = some o) → Grow K T hp F0 H0 F' H' s' →
  (∀ i, i < ds.length → J.go i H') ∧ J.stop ds.length H' ∧ ∀ (i : Nat) d x H'', ds[i]? = some d → J.yld i H' x H'' → ∃ F'', Grow K T hp F' H' F'' H'' s' ∧ Rp K F'' x d
/-- while nothing but the loose things changes -/
def WkB (K : PySem.W.Frag) (T : List (Addr × Str)) (hp : Addr) (F H : Hp) (J : It) (ds : List D) : Prop := ∀ F' H' s', Grow K T hp F H F' H' s' →
  (∀ i, i < ds.length → J.go i H') ∧ J.stop ds.length H' ∧ ∀ (i : Nat) d x H'', ds[i]? = some d → J.yld i H' x H'' → ∃ F'', Grow K T hp F' H' F'' H'' s' ∧ Rp K F'' x d
def DI (X : Cx) (T : List (Addr × Str)) (EX : String → Hp → Prop) (tg iter : Expr) (f : Rho → M (List D)) : Prop := ∃ wi, PI X tg iter wi ∧ ∀ {hp : Addr} {F0 H0 F H : Hp} {σ : L2.St} {ρ : Rho} {s : HS} {R' : It → Hp → Prop}, Rel X.K T hp F0 H0 F H σ ρ s →
  Post (f ρ s) (fun ds s' => ∀ F' H' J, Grow X.K T hp F H F' H' s' → Wk X.K T hp F' J ds → R' J H') (WX X.K T hp F0 H0 EX) → wi σ H R'
def DIB (X : Cx) (T : List (Addr × Str)) (EX : String → Hp → Prop) (tg iter : Expr) (f : Rho → M (List D)) : Prop := ∃ wi, PI X tg iter wi ∧ ∀ {hp : Addr} {F0 H0 F H : Hp} {σ : L2.St} {ρ : Rho} {s : HS} {R' : It → Hp → Prop}, Rel X.K T hp F0 H0 F H σ ρ s →
  Post (f ρ s) (fun ds s' => ∀ F' H' J, Grow X.K T hp F H F' H' s' → WkB X.K T hp F' H' J ds → R' J H') (WX X.K T hp F0 H0 EX) → wi σ H R'
def iSeqD (K : PySem.W.Frag) (tl : TE) : TI := fun σ H R => tl σ H fun x H1 => ∃ a, x = .ref a ∧ (((∃ xs, SqL K H1 a xs) ∧ R (Itl K a) H1) ∨ (∃ xs, SqT K H1 a xs) ∧ R (Itt K a) H1)
section
variable {X : Cx} {T : List (Addr × Str)} {EX : String → Hp → Prop} {pos p : Pos} {tg : Expr}
theorem DI.b {iter : Expr} {f : Rho → M (List D)} (h : DI X T EX tg iter f) : DIB X T EX tg iter f := by
  obtain ⟨wi, h1, h2⟩ := h
  exact ⟨wi, h1, fun R p => h2 R (p.mono fun ds s1 k F1 H1 J g w => k F1 H1 J g fun F' H' s' g' => w _ _ F' H' s' g'.ff g')⟩
/-- a list or a tuple -/
theorem pi_seqD {l : Expr} {tl : TE} (hl : PE X l tl) : PI X tg l (iSeqD X.K tl) := by
  constructor
  intro pins s σ H R I h
  refine thn (hl.run pins s σ H _ I h) ?_
  rintro v t ⟨x, G, J, rv, a, rfl, q⟩
  cases rv
  have fresh : ∀ b ∈ [t.heap.objs.size], FpOk X pins G b := by
    intro b hb
    rw [List.mem_singleton.mp hb]
    exact J.fpOk (Nat.le_refl _) (J.hok.fresh (Nat.le_refl _))
  have kept : ∀ o : Obj, L2.Inv X pins σ G { t with heap := t.heap.push o } := fun o => J.kept (t' := t.toks) fun b u e => Heap.get?_push_of_some _ e
  rcases q with ⟨⟨xs, hx⟩, q⟩ | ⟨⟨xs, hx⟩, q⟩
  · obtain ⟨its, _, pl, _⟩ := J.list hx
    exact wpAny_pyIter_list pl.isList ⟨_, [t.heap.objs.size], _, _, G, rfl, kept _, turn_list a _, ⟨_, Heap.get?_push_size _ rfl, rfl, rfl⟩, fresh, q⟩
  · obtain ⟨its, _, pl, _⟩ := J.tuple hx
    exact wpAny_pyIter_tuple pl ⟨_, [t.heap.objs.size], _, _, G, rfl, kept _, turn_tuple a _, ⟨_, Heap.get?_push_size _ rfl, rfl, rfl⟩, fresh, q⟩
end
end Jw
namespace Jw
open PySem PySem.Spec PyProof.Rows L2
def dItems : D → Option (List D)
  | .list xs => some xs
  | .tuple xs => some xs
  | _ => none
def fItems (fa : Rho → M D) : Rho → M (List D) := fun ρ => do
  let a ← fa ρ
  O.lift (dItems a)
/-- lo, lo + 1, .., n of them -/
def rng (lo : Int) (n : Nat) : List D := (List.range n).map fun (i : Nat) => PyData.int (lo + (i : Int))
theorem rng_len (lo : Int) (n : Nat) : (rng lo n).length = n := by unfold rng; rw [List.length_map, List.length_range]
theorem rng_at {lo : Int} {n i : Nat} {d : D} (h : (rng lo n)[i]? = some d) : d = .int (lo + i) := by
  unfold rng at h
  rw [List.getElem?_map] at h
  cases q : (List.range n)[i]? with
  | none => rw [q] at h; cases h
  | some j =>
    rw [q] at h
    cases h
    have hj := (List.getElem?_eq_some_iff.mp q).2
    rw [List.getElem_range] at hj
    rw [← hj]
section
variable {X : Cx} {T : List (Addr × Str)} {EX : String → Hp → Prop} {pos p : Pos} {tg : Expr}
theorem wk_list {K : PySem.W.Frag} {hp a : Addr} {F : Hp} {vs : List V} {ds : List D} (h : F a = some (.lst vs)) (r : RpAll K F vs ds) : Wk K T hp F (Itl K a) ds := fun F0 H0 F' H' s' ff G => by
  have hs : SqL K H' a vs := .inl (.inl (G.sub _ _ (ff _ _ h)))
  refine ⟨fun i hi => ⟨vs, vs[i]'(by rw [r.len]; exact hi), hs, List.getElem?_eq_getElem _⟩, ⟨vs, hs, Nat.le_of_eq r.len⟩, fun i d x H'' e y => ?_⟩
  obtain ⟨rfl, y⟩ := y
  obtain ⟨v, h1, h2⟩ := r.at e
  have q := y vs hs
  rw [h1] at q
  cases q
  exact ⟨F', G.refl, Rp.up ff h2⟩
theorem wk_tup {K : PySem.W.Frag} {hp a : Addr} {F : Hp} {vs : List V} {ds : List D} (h : SqT K F a vs) (r : RpAll K F vs ds) : Wk K T hp F (Itt K a) ds := fun F0 H0 F' H' s' ff G => by
  have hs : SqT K H' a vs := St.up G.sub (St.up ff h)
  refine ⟨fun i hi => ⟨vs, vs[i]'(by rw [r.len]; exact hi), hs, List.getElem?_eq_getElem _⟩, ⟨vs, hs, Nat.le_of_eq r.len⟩, fun i d x H'' e y => ?_⟩
  obtain ⟨rfl, y⟩ := y
  obtain ⟨v, h1, h2⟩ := r.at e
  have q := y vs hs
  rw [h1] at q
  cases q
  exact ⟨F', G.refl, Rp.up ff h2⟩
theorem wkb_own {K : PySem.W.Frag} {hp a : Addr} {F H : Hp} {vs : List V} {ds : List D} (h : H a = some (.lst vs)) (r : RpAll K F vs ds) (nh : a ≠ hp) : WkB K T hp F H (Itl K a) ds := fun F' H' s' G => by
  have hs : SqL K H' a vs := .inl (.inl (G.st _ _ h (not_loose_lst nh)))
  refine ⟨fun i hi => ⟨vs, vs[i]'(by rw [r.len]; exact hi), hs, List.getElem?_eq_getElem _⟩, ⟨vs, hs, Nat.le_of_eq r.len⟩, fun i d x H'' e y => ?_⟩
  obtain ⟨rfl, y⟩ := y
  obtain ⟨v, h1, h2⟩ := r.at e
  have q := y vs hs
  rw [h1] at q
  cases q
  exact ⟨F', G.refl, Rp.up G.ff h2⟩
theorem wk_rng {K : PySem.W.Frag} {hp : Addr} {F : Hp} (lo : Int) (n : Nat) : Wk K T hp F (Itr lo n) (rng lo n) := fun F0 H0 F' H' s' ff G => by
  refine ⟨fun i hi => by rw [rng_len] at hi; exact hi, Nat.le_of_eq (rng_len lo n).symm, fun i d x H'' e y => ?_⟩
  obtain ⟨rfl, rfl⟩ := y
  rw [rng_at e]
  exact ⟨F', G.refl, .int _⟩
theorem di_seq {e : Expr} {fa : Rho → M D} (h : DE X T EX e fa) : DI X T EX tg e (fItems fa) := by
  obtain ⟨_, a1, a2⟩ := h
  refine ⟨_, pi_seqD a1, fun R q => a2 R (q.bind.mono fun d s1 k F1 H1 v g1 w1 => ?_)⟩
  obtain ⟨ds, e1, k2⟩ := k.lift
  have R1 := R.grow g1
  cases w1 with
  | lst h1 h2 =>
    cases e1
    exact ⟨_, rfl, .inl ⟨⟨_, .inl (.inl (R1.g.sub _ _ h1))⟩, k2 F1 H1 _ g1 (wk_list h1 h2)⟩⟩
  | tup h1 h2 =>
    cases e1
    exact ⟨_, rfl, .inr ⟨⟨_, St.up R1.g.sub h1⟩, k2 F1 H1 _ g1 (wk_tup h1 h2)⟩⟩
  | _ => cases e1
theorem dib_seq {e : Expr} {fa : Rho → M D} (h : DB X T EX e fa) : DIB X T EX tg e (fItems fa) := by
  obtain ⟨_, a1, a2⟩ := h
  refine ⟨_, pi_seqD a1, fun {hp F0 H0 F H σ ρ s R'} R q => a2 R (q.bind.mono fun d s1 k F1 H1 v g1 w1 => ?_)⟩
  obtain ⟨ds, e1, k2⟩ := k.lift
  have R1 := R.grow g1
  have toB : ∀ {J : It} {ds : List D}, Wk X.K T hp F1 J ds → WkB X.K T hp F1 H1 J ds := fun w F' H' s' g' => w _ _ F' H' s' g'.ff g'
  rcases w1 with w1 | ⟨a, vs, xs, rfl, rfl, h1, h2, h3⟩
  · cases w1 with
    | lst h1 h2 =>
      cases e1
      exact ⟨_, rfl, .inl ⟨⟨_, .inl (.inl (R1.g.sub _ _ h1))⟩, k2 F1 H1 _ g1 (toB (wk_list h1 h2))⟩⟩
    | tup h1 h2 =>
      cases e1
      exact ⟨_, rfl, .inr ⟨⟨_, St.up R1.g.sub h1⟩, k2 F1 H1 _ g1 (toB (wk_tup h1 h2))⟩⟩
    | _ => cases e1
  · cases e1
    exact ⟨_, rfl, .inl ⟨⟨_, .inl (.inl h1)⟩, k2 F1 H1 _ g1 (wkb_own h1 h2 h3)⟩⟩
def dRng1 : D → Option (List D)
  | .int n => if -(2 ^ 62) ≤ n ∧ n < 2 ^ 62 then some (rng 0 n.toNat) else none
  | _ => none
def dRng2 : D → D → Option (List D)
  | .int a, .int b => if -(2 ^ 62) ≤ a ∧ a < 2 ^ 62 ∧ -(2 ^ 62) ≤ b ∧ b < 2 ^ 62 then some (rng a (b - a).toNat) else none
  | _, _ => none
def fRng1 (fa : Rho → M D) : Rho → M (List D) := fun ρ => do
  let a ← fa ρ
  O.lift (dRng1 a)
def fRng2 (fa fb : Rho → M D) : Rho → M (List D) := fun ρ => do
  let a ← fa ρ
  let b ← fb ρ
  O.lift (dRng2 a b)
theorem di_rng1 {e : Expr} {fa : Rho → M D} (hm : X.mg "range" = none) (hg : Gl X "range") (h : DB X T EX e fa) (he : starEach [e] X.env = (false, eval e X.env) :: starEach [] X.env := by rfl) : DI X T EX tg (.Call (.Name "range" p) [e] [] pos) (fRng1 fa) := by
  obtain ⟨_, a1, a2⟩ := h
  refine ⟨_, pi_range1 hg hm (pa_cons a1 pa_nil he) he, fun R q => a2 R (q.bind.mono fun d s1 k F1 H1 v g1 w1 => ?_)⟩
  obtain ⟨ds, e1, k2⟩ := k.lift
  cases d with
  | int n =>
    simp only [dRng1] at e1
    split at e1
    · rename_i hz
      cases e1
      rw [w1.int]
      exact ⟨n, rfl, hz.1, hz.2, k2 F1 H1 _ g1 (wk_rng 0 n.toNat)⟩
    · cases e1
  | _ => cases e1
theorem di_rng2 {e e2 : Expr} {fa fb : Rho → M D} (hm : X.mg "range" = none) (hg : Gl X "range") (h : DB X T EX e fa) (h2 : DB X T EX e2 fb) (he : starEach [e, e2] X.env = [(false, eval e X.env), (false, eval e2 X.env)] := by rfl) (he2 : starEach [e2] X.env = [(false, eval e2 X.env)] := by rfl) :
    DI X T EX tg (.Call (.Name "range" p) [e, e2] [] pos) (fRng2 fa fb) := by
  obtain ⟨_, a1, a2⟩ := h
  obtain ⟨_, b1, b2⟩ := h2
  refine ⟨_, pi_range2 hg hm (pa_cons a1 (pa_cons b1 pa_nil (by rw [he2]; rfl)) (by rw [he, he2])) he he2, fun R q => a2 R (q.bind.mono fun d s1 k F1 H1 v g1 w1 => b2 (R.grow g1) (k.bind.mono fun d2 s2 k1 F2 H2 w g2 w2 => ?_))⟩
  obtain ⟨ds, e1, k2⟩ := k1.lift
  cases d with
  | int n =>
    cases d2 with
    | int m =>
      simp only [dRng2] at e1
      split at e1
      · rename_i hz
        cases e1
        rw [w1.int, w2.int]
        exact ⟨n, m, rfl, hz, k2 F2 H2 _ (g1.trans g2) (wk_rng n (m - n).toNat)⟩
      · cases e1
    | _ => cases e1
  | _ => cases e1
end
/-! ### list comprehensions -/
def M.noexc {α : Type} (m : M α) : M α := fun s => match m s with
  | .ok a s' => .ok a s'
  | _ => .bad
theorem Post.noexc {α : Type} {m : M α} {s : HS} {P : α → HS → Prop} {W W' : String → HS → Prop} (h : Post (M.noexc m s) P W) : Post (m s) P W' := by
  unfold M.noexc at h
  cases q : m s with
  | ok a s' => rw [q] at h; exact h
  | exc c s' => rw [q] at h; exact h.elim
  | bad => rw [q] at h; exact h.elim
/-- the slots vs forgotten -/
def wipeR (ρ : Rho) : List Nat → Rho
  | [] => ρ
  | v :: vs => (wipeR ρ vs).set v .un
def lcL (bp : D → Rho → Option Rho) (cond : Rho → M Bool) (elt : Rho → M D) (ρ : Rho) : List D → M (List D)
  | [] => pure []
  | x :: xs => do
    let ρ1 ← O.lift (bp x ρ)
    let b ← M.noexc (cond ρ1)
    if b then do
      let y ← M.noexc (elt ρ1)
      let ys ← lcL bp cond elt ρ xs
      pure (y :: ys)
    else lcL bp cond elt ρ xs
def fLc (vs : List Nat) (fi : Rho → M (List D)) (bp : D → Rho → Option Rho) (cond : Rho → M Bool) (elt : Rho → M D) : Rho → M (List D) := fun ρ => do
  let ds ← fi ρ
  if ds.length < 16777216 then lcL bp cond elt (wipeR ρ vs) ds else M.bad
theorem wipeR_len (ρ : Rho) : ∀ vs : List Nat, (wipeR ρ vs).length = ρ.length
  | [] => rfl
  | v :: vs => by unfold wipeR; rw [List.length_set, wipeR_len ρ vs]
section
variable {K : PySem.W.Frag} {T : List (Addr × Str)} {hp : Addr} {F0 H0 F H : Hp} {s : HS} {σ : L2.St} {ρ : Rho}
/-- a name forgotten -/
theorem Rel.forget (R : Rel K T hp F0 H0 F H σ ρ s) (i : Nat) : Rel K T hp F0 H0 F H (σ.set i none) (ρ.set i .un) s := by
  refine ⟨R.g, fun j y e => ?_, fun j k xs ys e1 e2 n => ?_, by rw [List.length_set, List.length_set, R.len]⟩
  · by_cases q : i = j
    · subst q
      by_cases hi : i < ρ.length
      · rw [List.getElem?_set_self hi] at e
        cases e
        trivial
      · rw [List.getElem?_eq_none (by simpa using hi)] at e
        cases e
    · rw [List.getElem?_set_ne q] at e
      rw [List.getElem?_set_ne q]
      exact R.sl j y e
  · have ne : ∀ {m : Nat} {zs : List D}, (ρ.set i .un)[m]? = some (.own zs) → i ≠ m ∧ ρ[m]? = some (.own zs) := fun {m zs} e => by
      by_cases q : i = m
      · subst q
        by_cases hi : i < ρ.length
        · rw [List.getElem?_set_self hi] at e; cases e
        · rw [List.getElem?_eq_none (by simpa using hi)] at e; cases e
      · rw [List.getElem?_set_ne q] at e
        exact ⟨q, e⟩
    obtain ⟨n1, f1⟩ := ne e1
    obtain ⟨n2, f2⟩ := ne e2
    rw [List.getElem?_set_ne n1, List.getElem?_set_ne n2]
    exact R.ne j k xs ys f1 f2 n
theorem Rel.wipe (R : Rel K T hp F0 H0 F H σ ρ s) : ∀ vs : List Nat, Rel K T hp F0 H0 F H (L2.wipe σ vs) (wipeR ρ vs) s
  | [] => R
  | v :: vs => (Rel.wipe R vs).forget v
end
theorem wipe_out {σ σ' : L2.St} : ∀ {vs : List Nat}, Out vs (L2.wipe σ vs) σ' → L2.wipe σ' vs = L2.wipe σ vs := fun {vs} o => by
  have key : ∀ (ws : List Nat) (τ : L2.St) (j : Nat), (L2.wipe τ ws)[j]? = if j ∈ ws then (if j < τ.length then some none else none) else τ[j]? := by
    intro ws τ
    induction ws with
    | nil => intro j; rfl
    | cons w ws ih =>
      intro j
      unfold L2.wipe
      by_cases q : w = j
      · subst q
        rw [if_pos List.mem_cons_self]
        by_cases hl : w < τ.length
        · rw [if_pos hl, List.getElem?_set_self (by rw [wipe_length]; exact hl)]
        · rw [if_neg hl, List.getElem?_eq_none (by rw [List.length_set, wipe_length]; omega)]
      · rw [List.getElem?_set_ne q, ih j]
        by_cases hj : j ∈ ws
        · rw [if_pos hj, if_pos (List.mem_cons_of_mem _ hj)]
        · rw [if_neg hj, if_neg (by simp [hj, Ne.symm q])]
  have hl : σ'.length = σ.length := by rw [o.1, wipe_length]
  refine List.ext_getElem? fun j => ?_
  rw [key vs σ' j, key vs σ j, hl]
  by_cases hj : j ∈ vs
  · rw [if_pos hj, if_pos hj]
  · rw [if_neg hj, if_neg hj, o.2 j hj, key vs σ j, if_neg hj]
/-- what an expression's worth f asks, as one reading -/
def tOf (K : PySem.W.Frag) (T : List (Addr × Str)) (EX : String → Hp → Prop) (f : Rho → M D) : TE := fun σ H Q => ∃ (hp : Addr) (F0 H0 F : Hp) (ρ : Rho) (s : HS), Rel K T hp F0 H0 F H σ ρ s ∧
  Post (f ρ s) (fun d s' => ∀ F' H' v, Grow K T hp F H F' H' s' → Rp K F' v d → Q v H') (WX K T hp F0 H0 EX)
def ttOf (K : PySem.W.Frag) (T : List (Addr × Str)) (EX : String → Hp → Prop) (f : Rho → M Bool) : TT := fun σ H Q => ∃ (hp : Addr) (F0 H0 F : Hp) (ρ : Rho) (s : HS), Rel K T hp F0 H0 F H σ ρ s ∧
  Post (f ρ s) (fun b s' => ∀ F' H', Grow K T hp F H F' H' s' → Q b H') (WX K T hp F0 H0 EX)
theorem DE.pe {X : Cx} {T : List (Addr × Str)} {EX : String → Hp → Prop} {e : Expr} {f : Rho → M D} (h : DE X T EX e f) : PE X e (tOf X.K T EX f) := by
  obtain ⟨te, h1, h2⟩ := h
  exact ⟨fun pins s σ H Q I ⟨hp, F0, H0, F, ρ, t, R, p⟩ => h1.run pins s σ H Q I (h2 R p)⟩
/-- the tests of a comprehension -/
def DTs (X : Cx) (T : List (Addr × Str)) (EX : String → Hp → Prop) (es : List Expr) (f : Rho → M Bool) : Prop := PTs X es (ttOf X.K T EX f)
theorem dts_nil {X : Cx} {T : List (Addr × Str)} {EX : String → Hp → Prop} : DTs X T EX [] (fun _ => pure true) := by
  obtain ⟨h⟩ := (pts_nil : PTs X [] tYes)
  exact ⟨fun pins s σ H Q I ⟨hp, F0, H0, F, ρ, t, R, p⟩ => h pins s σ H Q I (p.ret F H R.g.refl)⟩
theorem dts_one {X : Cx} {T : List (Addr × Str)} {EX : String → Hp → Prop} {e : Expr} {f : Rho → M Bool} (h : DT X T EX e f) : DTs X T EX [e] f := by
  obtain ⟨tt, h1, h2⟩ := h
  obtain ⟨g⟩ := pts_one h1
  exact ⟨fun pins s σ H Q I ⟨hp, F0, H0, F, ρ, t, R, p⟩ => g pins s σ H Q I (h2 R p)⟩
section
variable {X : Cx} {T : List (Addr × Str)} {EX : String → Hp → Prop} {pos : Pos}
/-- what a comprehension's reading gives -/
theorem evl_lc {pt : Pat} {wi : TI} {fi : Rho → M (List D)} {cond : Rho → M Bool} {fe : Rho → M D} {vs : List Nat} (hsl : ∀ j ∈ pt.slots, j ∈ vs)
    (i2 : ∀ {hp : Addr} {F0 H0 F H : Hp} {σ : L2.St} {ρ : Rho} {s : HS} {R' : It → Hp → Prop}, Rel X.K T hp F0 H0 F H σ ρ s →
      Post (fi ρ s) (fun ds s' => ∀ F' H' J, Grow X.K T hp F H F' H' s' → WkB X.K T hp F' H' J ds → R' J H') (WX X.K T hp F0 H0 EX) → wi σ H R') :
    EvL X.K T EX (tLc wi (pt.g X.K) (ttOf X.K T noEX cond) (tOf X.K T noEX fe) vs) (fLc vs fi pt.bind cond fe) := fun {hp F0 H0 F H σ ρ s Q} R q => i2 R (q.bind.mono fun ds s1 k F1 H1 J g1 w1 => by
  split at k
  case isFalse => exact k.elim
  rename_i hlen
  intro Dd hD
  have R1 := R.grow g1
  have nh : Dd ≠ hp := R1.g.noHp hD
  have lo : ∀ u, H1 Dd = some u → Loose hp Dd u := fun u e => by rw [hD] at e; cases e
  have nF1 : F1 Dd = none := by
    cases z : F1 Dd with
    | none => rfl
    | some u => have := R1.g.sub _ _ z; rw [hD] at this; cases this
  have G1 : Grow X.K T hp F1 H1 F1 (upd H1 Dd (.lst [])) s1 := R1.g.newOwn hD
  refine ⟨fun i m Hi => m = ds.length - i ∧ i ≤ ds.length ∧ ∃ (Fi : Hp) (acc : List V) (done : List D) (si : HS), Grow X.K T hp F1 H1 Fi Hi si ∧ Fi Dd = none ∧ Hi Dd = some (.lst acc) ∧ RpAll X.K Fi acc done ∧ done.length ≤ i ∧
      Post (lcL pt.bind cond fe (wipeR ρ vs) (ds.drop i) si) (fun rest s' => ∀ F' H' p, Grow X.K T hp F H F' H' s' → NewL X.K hp H F' H' p (done ++ rest) → Q (.ref p) H') (WX X.K T hp F0 H0 EX),
    ⟨_, rfl, Nat.zero_le _, F1, [], [], s1, G1, nF1, upd_same, .nil, Nat.le_refl _, by rw [List.drop_zero]; exact k⟩, ?_⟩
  rintro i m Hi ⟨rfl, hi, Fi, acc, done, si, Gi, nFi, hDi, ra, hdl, pi⟩
  obtain ⟨wgo, wst, wyl⟩ := w1 Fi Hi si Gi
  by_cases hlt : i < ds.length
  · refine .inr ⟨wgo i hlt, fun H' => ∃ m', m' < ds.length - i ∧ (m' = ds.length - (i + 1) ∧ i + 1 ≤ ds.length ∧ ∃ (Fi : Hp) (acc : List V) (done : List D) (si : HS), Grow X.K T hp F1 H1 Fi H' si ∧ Fi Dd = none ∧ H' Dd = some (.lst acc) ∧ RpAll X.K Fi acc done ∧ done.length ≤ i + 1 ∧
      Post (lcL pt.bind cond fe (wipeR ρ vs) (ds.drop (i + 1)) si) (fun rest s' => ∀ F' H' p, Grow X.K T hp F H F' H' s' → NewL X.K hp H F' H' p (done ++ rest) → Q (.ref p) H') (WX X.K T hp F0 H0 EX)), fun H' h => h, fun x H' y => ?_⟩
    have hx : ds[i]? = some ds[i] := List.getElem?_eq_getElem hlt
    obtain ⟨F2, g2, r2⟩ := wyl i _ x H' hx y
    have ed : ds.drop i = ds[i] :: ds.drop (i + 1) := List.drop_eq_getElem_cons hlt
    rw [ed] at pi
    unfold lcL at pi
    obtain ⟨ρ1, eb, p1⟩ := pi.bind.lift
    have Rw : Rel X.K T hp F0 H0 F2 H' (wipe σ vs) (wipeR ρ vs) si := ((R1.grow Gi).grow g2).wipe _
    have keepD : ∀ {F' H' Fa Ha : Hp} {sa : HS}, Grow X.K T hp F' H' Fa Ha sa → F' Dd = none → H' Dd = some (.lst acc) → Fa Dd = none ∧ Ha Dd = some (.lst acc) := fun {F' H' Fa Ha sa} g e1 e2 => by
      refine ⟨?_, g.st _ _ e2 (not_loose_lst nh)⟩
      cases z : Fa Dd with
      | none => rfl
      | some u =>
        rcases g.nw _ _ z with z1 | z1
        · rw [e1] at z1; cases z1
        · exact absurd (z1 _ e2) (not_loose_lst nh)
    refine Pat.ok pt Rw r2 eb fun σ2 R2 o2 => ⟨wipe_out (o2.mono hsl), hp, F0, H0, F2, ρ1, si, R2, ?_⟩
    refine Post.mono (Post.noexc p1.bind) fun b s3 k3 F3 H3 g3 => ?_
    have G3 := (Gi.trans g2).trans g3
    have D3 := keepD (g2.trans g3) nFi hDi
    cases b with
    | true =>
      dsimp only
      rw [if_pos rfl]
      rw [if_pos rfl] at k3
      refine ⟨hp, F0, H0, F3, ρ1, s3, R2.grow g3, Post.mono (Post.noexc k3.bind) fun d s4 k4 F4 H4 v g4 r4 => ?_⟩
      have D4 := keepD g4 D3.1 D3.2
      have up4 : ∀ a o, Fi a = some o → F4 a = some o := fun a o e => g4.ff _ _ (g3.ff _ _ (g2.ff _ _ e))
      refine ⟨acc, D4.2, by rw [ra.len, sizeLine_eq]; omega, _, by omega, rfl, hlt, F4, acc ++ [v], done ++ [d], s4, (G3.trans g4).write lo D4.1 nh D4.2, D4.1, upd_same, (RpAll.up up4 ra).app (.cons r4 .nil), by rw [List.length_append, List.length_singleton]; omega, ?_⟩
      refine k4.bind.mono fun rest s5 k5 => ?_
      have k6 := k5.ret
      rw [List.append_assoc]
      exact k6
    | false =>
      dsimp only
      rw [if_neg Bool.false_ne_true]
      rw [if_neg Bool.false_ne_true] at k3
      exact ⟨_, by omega, rfl, hlt, F3, acc, done, s3, G3, D3.1, D3.2, RpAll.up (fun a o e => g3.ff _ _ (g2.ff _ _ e)) ra, by omega, k3⟩
  · have e : i = ds.length := by omega
    subst e
    rw [List.drop_length] at pi
    unfold lcL at pi
    have p2 := pi.ret
    rw [List.append_nil] at p2
    refine .inl ⟨wst, p2 Fi Hi Dd (g1.trans Gi) (g1.newL ⟨⟨acc, hDi, ra⟩, nFi, nh, lo⟩)⟩)
theorem dl_lc {elt tg iter : Expr} {ifs : List Expr} {scope : Scope} {own : List (Str × Nat)} {pt : Pat} {fi : Rho → M (List D)} {cond : Rho → M Bool} {fe : Rho → M D} (hc : X.calm = true) (hN : X.N.Nodup) (ok : BlkOk X.N X.env.scope scope own)
    (hsl : ∀ j ∈ pt.slots, j ∈ own.map (·.2)) (hi : DIB X T EX tg iter fi)
    (hg : ∀ (s : Shared) (H : Hp) (C : Addr) (cl : List (Str × Addr)) (fp : List Addr), PG (X.blk s H scope (compEnvC scope cl C X.env) fp) tg (pt.g X.K))
    (ht : ∀ (s : Shared) (H : Hp) (C : Addr) (cl : List (Str × Addr)) (fp : List Addr), DTs (X.blk s H scope (compEnvC scope cl C X.env) fp) T noEX ifs cond)
    (he : ∀ (s : Shared) (H : Hp) (C : Addr) (cl : List (Str × Addr)) (fp : List Addr), DE (X.blk s H scope (compEnvC scope cl C X.env) fp) T noEX elt fe) (hs : ∀ x, foldedSetIterable iter X.env x = pure x := by intro _; rfl) :
    DL X T EX (.ListComp elt [⟨tg, iter, ifs, 0⟩] scope pos) (fLc (own.map (·.2)) fi pt.bind cond fe) :=
  let ⟨_, i1, i2⟩ := hi
  ⟨_, pe_lc (tt := ttOf X.K T noEX cond) (te := tOf X.K T noEX fe) hc hN i1 ok hg ht (fun s H C cl fp => (he s H C cl fp).pe) hs, evl_lc hsl i2⟩
end
end Jw
namespace Jw
open PySem PySem.Spec PyProof.Rows L2
inductive Ctl where
  | nx (ρ : Rho)
  | rt (d : D)
  | bk (ρ : Rho)
  | ct (ρ : Rho)
/-- what stands behind a statement that began over F -/
def CtlQ (K : PySem.W.Frag) (T : List (Addr × Str)) (hp : Addr) (F0 H0 F : Hp) (E : Ends) : Ctl → HS → Prop
  | .nx ρ, s => ∀ F' H' σ', (∀ a o, F a = some o → F' a = some o) → Rel K T hp F0 H0 F' H' σ' ρ s → E.nx σ' H'
  | .bk ρ, s => ∀ F' H' σ', (∀ a o, F a = some o → F' a = some o) → Rel K T hp F0 H0 F' H' σ' ρ s → E.bk σ' H'
  | .ct ρ, s => ∀ F' H' σ', (∀ a o, F a = some o → F' a = some o) → Rel K T hp F0 H0 F' H' σ' ρ s → E.ct σ' H'
  | .rt d, s => ∀ F' H' v, Grow K T hp F0 H0 F' H' s → Rp K F' v d → E.rt v H'
theorem CtlQ.up {K : PySem.W.Frag} {T : List (Addr × Str)} {hp : Addr} {F0 H0 F F1 : Hp} {E : Ends} {c : Ctl} {s : HS} (h : CtlQ K T hp F0 H0 F E c s) (e : ∀ a o, F a = some o → F1 a = some o) : CtlQ K T hp F0 H0 F1 E c s := by
  cases c with
  | nx ρ => exact fun F' H' σ' e' R => h F' H' σ' (fun a o q => e' a o (e a o q)) R
  | bk ρ => exact fun F' H' σ' e' R => h F' H' σ' (fun a o q => e' a o (e a o q)) R
  | ct ρ => exact fun F' H' σ' e' R => h F' H' σ' (fun a o q => e' a o (e a o q)) R
  | rt d => exact h
section
variable (X : Cx) (T : List (Addr × Str)) (EX : String → Hp → Prop)
def EvS (K : PySem.W.Frag) (ts : TS) (f : Rho → M Ctl) : Prop := ∀ {hp : Addr} {F0 H0 F H : Hp} {σ : L2.St} {ρ : Rho} {s : HS} {E : Ends}, Rel K T hp F0 H0 F H σ ρ s →
  Post (f ρ s) (CtlQ K T hp F0 H0 F E) (WX K T hp F0 H0 EX) → ts E σ H
def DS (st : Stmt) (f : Rho → M Ctl) : Prop := ∃ ts, PS X st ts ∧ EvS T EX X.K ts f
def DSs (st : List Stmt) (f : Rho → M Ctl) : Prop := ∃ ts, PSs X st ts ∧ EvS T EX X.K ts f
end
section
variable {X : Cx} {T : List (Addr × Str)} {EX : String → Hp → Prop} {pos p p2 : Pos}
/-! ### blocks -/
@[simp] def fSkip : Rho → M Ctl := fun ρ => pure (.nx ρ)
@[simp] def fSeq (f g : Rho → M Ctl) : Rho → M Ctl := fun ρ => do
  let c ← f ρ
  match c with
  | .nx ρ' => g ρ'
  | c => pure c
theorem dss_nil : DSs X T EX [] fSkip := ⟨_, pss_nil, fun R q => q.ret _ _ _ (fun _ _ h => h) R⟩
theorem dss_one {st : Stmt} {f : Rho → M Ctl} (h : DS X T EX st f) : DSs X T EX [st] f := let ⟨_, a, b⟩ := h; ⟨_, pss_one a, b⟩
theorem dss_cons {st : Stmt} {r : List Stmt} {f g : Rho → M Ctl} (h : DS X T EX st f) (hr : DSs X T EX r g) : DSs X T EX (st :: r) (fSeq f g) := by
  obtain ⟨_, a1, a2⟩ := h
  obtain ⟨_, b1, b2⟩ := hr
  refine ⟨_, pss_cons a1 b1, fun {hp F0 H0 F H σ ρ s E} R q => a2 R (q.bind.mono fun c s1 k => ?_)⟩
  cases c with
  | nx ρ' => exact fun F' H' σ' e R' => b2 R' (Post.mono k fun c s2 k2 => k2.up e)
  | rt d => exact k
  | bk ρ' => exact k
  | ct ρ' => exact k
/-- a list of the def's own stands still from here on -/
def freeze (i : Nat) (ρ : Rho) : Rho := match ρ[i]? with
  | some (.own xs) => ρ.set i (.dat (.list xs))
  | _ => ρ
theorem Rel.freeze {K : PySem.W.Frag} {hp : Addr} {F0 H0 F H : Hp} {σ : L2.St} {ρ : Rho} {s : HS} (R : Rel K T hp F0 H0 F H σ ρ s) (i : Nat) : ∃ F', (∀ a o, F a = some o → F' a = some o) ∧ Rel K T hp F0 H0 F' H σ (Jw.freeze i ρ) s := by
  unfold Jw.freeze
  cases q : ρ[i]? with
  | none => exact ⟨F, fun _ _ h => h, R⟩
  | some x =>
    cases x with
    | un => exact ⟨F, fun _ _ h => h, R⟩
    | dat d => exact ⟨F, fun _ _ h => h, R⟩
    | hand => exact ⟨F, fun _ _ h => h, R⟩
    | own xs =>
      obtain ⟨a, vs, h1, h2, h3, h4, h5, h6⟩ := R.sl i _ q
      have up : ∀ x u, F x = some u → upd F a (.lst vs) x = some u := fun x u e => by rw [upd_ne (ne_of_none e h4)]; exact e
      have hi : i < ρ.length := (List.getElem?_eq_some_iff.mp q).1
      refine ⟨upd F a (.lst vs), up, ⟨⟨fun x u e => up _ _ (R.g.ff x u e), fun x u e => ?_, R.g.st, fun x u e => ?_, R.g.tabs, R.g.hand.up up ?_ rfl⟩, fun j y e => ?_, fun j k ys zs e1 e2 n => ?_, by rw [List.length_set]; exact R.len⟩⟩
      · by_cases z : x = a
        · rw [z]; exact .inr h6
        · rw [upd_ne z] at e; exact R.g.nw x u e
      · by_cases z : x = a
        · rw [z, upd_same] at e; cases e; rw [z]; exact h2
        · rw [upd_ne z] at e; exact R.g.sub x u e
      · obtain ⟨c, z, _⟩ := R.g.hand
        rw [upd_ne h5.symm]; exact z
      · by_cases z : i = j
        · subst z
          rw [List.getElem?_set_self hi] at e
          cases e
          exact ⟨.ref a, h1, .lst upd_same (RpAll.up up h3)⟩
        · rw [List.getElem?_set_ne z] at e
          have hy := R.sl j y e
          cases y with
          | un => trivial
          | dat d =>
            obtain ⟨v, g1, g2⟩ := hy
            exact ⟨v, g1, Rp.up up g2⟩
          | hand => exact hy
          | own ys =>
            obtain ⟨b, ws, g1, g2, g3, g4, g5, g6⟩ := hy
            refine ⟨b, ws, g1, g2, RpAll.up up g3, ?_, g5, g6⟩
            rw [upd_ne]
            · exact g4
            · exact fun w => R.ne i j xs ys q e z (by rw [h1, g1, w])
      · have ne : ∀ {m : Nat} {ws : List D}, (ρ.set i (.dat (.list xs)))[m]? = some (.own ws) → ρ[m]? = some (.own ws) := fun {m ws} e => by
          by_cases z : i = m
          · subst z
            rw [List.getElem?_set_self hi] at e
            cases e
          · rw [List.getElem?_set_ne z] at e
            exact e
        exact R.ne j k ys zs (ne e1) (ne e2) n
@[simp] def fFreeze (i : Nat) (f : Rho → M Ctl) : Rho → M Ctl := fun ρ => f (freeze i ρ)
theorem ds_freeze (i : Nat) {st : Stmt} {f : Rho → M Ctl} (h : DS X T EX st f) : DS X T EX st (fFreeze i f) := by
  obtain ⟨_, a1, a2⟩ := h
  refine ⟨_, a1, fun R q => ?_⟩
  obtain ⟨F', e, R'⟩ := R.freeze i
  exact a2 R' (Post.mono q fun c s1 k => k.up e)
/-! ### what is stored in a name: data, or a new list -/
def NewSl (K : PySem.W.Frag) (hp : Addr) (H F' H' : Hp) (v : V) : Sl → Prop
  | .dat d => Rp K F' v d
  | .own xs => ∃ p, v = .ref p ∧ NewL K hp H F' H' p xs
  | _ => False
def EvN (K : PySem.W.Frag) (T : List (Addr × Str)) (EX : String → Hp → Prop) (te : TE) (f : Rho → M Sl) : Prop := ∀ {hp : Addr} {F0 H0 F H : Hp} {σ : L2.St} {ρ : Rho} {s : HS} {Q : VK}, Rel K T hp F0 H0 F H σ ρ s →
  Post (f ρ s) (fun x s' => ∀ F' H' v, Grow K T hp F H F' H' s' → NewSl K hp H F' H' v x → Q v H') (WX K T hp F0 H0 EX) → te σ H Q
def DN (X : Cx) (T : List (Addr × Str)) (EX : String → Hp → Prop) (e : Expr) (f : Rho → M Sl) : Prop := ∃ te, PE X e te ∧ EvN X.K T EX te f
@[simp] def nDat (f : Rho → M D) : Rho → M Sl := fun ρ => do
  let d ← f ρ
  pure (.dat d)
@[simp] def nOwn (f : Rho → M (List D)) : Rho → M Sl := fun ρ => do
  let xs ← f ρ
  pure (.own xs)
theorem EvE.n {K : PySem.W.Frag} {te : TE} {f : Rho → M D} (h : EvE K T EX te f) : EvN K T EX te (nDat f) := fun R q => h R (q.bind.mono fun d s1 k F' H' v g r => k.ret F' H' v g r)
theorem EvL.n {K : PySem.W.Frag} {te : TE} {f : Rho → M (List D)} (h : EvL K T EX te f) : EvN K T EX te (nOwn f) := fun R q => h R (q.bind.mono fun d s1 k F' H' p g r => k.ret F' H' (.ref p) g ⟨p, rfl, r⟩)
theorem DE.n {e : Expr} {f : Rho → M D} (h : DE X T EX e f) : DN X T EX e (nDat f) := let ⟨_, a, b⟩ := h; ⟨_, a, b.n⟩
theorem DL.n {e : Expr} {f : Rho → M (List D)} (h : DL X T EX e f) : DN X T EX e (nOwn f) := let ⟨_, a, b⟩ := h; ⟨_, a, b.n⟩
@[simp] def putSl (i : Nat) (x : Sl) (ρ : Rho) : M Rho := if i < ρ.length then pure (ρ.set i x) else M.bad
@[simp] def fSet (i : Nat) (f : Rho → M Sl) : Rho → M Ctl := fun ρ => do
  let x ← f ρ
  let ρ' ← putSl i x ρ
  pure (.nx ρ')
theorem Post.putSl {i : Nat} {x : Sl} {ρ : Rho} {s : HS} {P : Rho → HS → Prop} {W : String → HS → Prop} (h : Post (Jw.putSl i x ρ s) P W) : i < ρ.length ∧ P (ρ.set i x) s := by
  unfold Jw.putSl at h
  split at h
  · rename_i z
    exact ⟨z, h⟩
  · exact h.elim
theorem Rel.put {K : PySem.W.Frag} {hp : Addr} {F0 H0 F H F' H' : Hp} {σ : L2.St} {ρ : Rho} {s s' : HS} {i : Nat} {v : V} {x : Sl} (R : Rel K T hp F0 H0 F H σ ρ s) (g : Grow K T hp F H F' H' s') (n : NewSl K hp H F' H' v x) (hi : i < ρ.length) :
    Rel K T hp F0 H0 F' H' (σ.set i (some v)) (ρ.set i x) s' := by
  cases x with
  | dat d => exact (R.grow g).setD hi n
  | own xs =>
    obtain ⟨a, rfl, n⟩ := n
    obtain ⟨vs, h1, h2⟩ := n.ex
    refine (R.grow g).set hi ⟨a, vs, rfl, h1, h2, n.nF, n.nh, fun o e => ?_⟩ fun ys e j zs hj hz w => ?_
    · exact Classical.byContradiction fun l => l (n.lo o (R.g.st _ _ e l))
    · obtain ⟨b, ws, g1, g2, g3, g4, g5, g6⟩ := R.sl j _ hz
      rw [g1] at w
      cases w
      exact absurd (n.lo _ g2) (not_loose_lst n.nh)
  | un => exact n.elim
  | hand => exact n.elim
theorem evs_set {K : PySem.W.Frag} {te : TE} {i : Nat} {f : Rho → M Sl} (h : EvN K T EX te f) : EvS T EX K (tAsg te (gName i)) (fSet i f) := fun R q =>
  h R (q.bind.mono fun x s1 k F' H' v g n => by
    obtain ⟨hi, k2⟩ := k.bind.putSl
    exact k2.ret F' H' _ g.ff (R.put g n hi))
/-- x = e -/
theorem ds_set (i : Nat) {x : Str} {e : Expr} {f : Rho → M Sl} (hN : X.N.Nodup) (h : DN X T EX e f) (hi : X.N[i]? = some x := by rfl) (hx : Loc X.env.scope x := by first | exact Or.inl rfl | exact Or.inr rfl) (hs : swapsWith e (some (.Name x p)) pos.line X.env = pure false := by rfl)
    (hf : X.fn x = true ∨ X.env.scope.names.lookup x = some .local := by first | exact Or.inl rfl | exact Or.inr rfl) : DS X T EX (.Assign [.Name x p] e pos) (fSet i f) := let ⟨_, a, b⟩ := h; ⟨_, ps_set hN hi hx a hs hf, evs_set b⟩
/-- x = [e for ..] on one line, x a local -/
theorem ds_setLcO (i : Nat) {y : Str} {py spos : Pos} {elt tg iter : Expr} {ifs : List Expr} {scope : Scope} {own : List (Str × Nat)} {pt : Pat} {fi : Rho → M (List D)} {cond : Rho → M Bool} {fe : Rho → M D} (hc : X.calm = true) (hN : X.N.Nodup)
    (hsw : swapsWith (.ListComp elt [⟨tg, iter, ifs, 0⟩] scope pos) (some (.Name y py)) spos.line X.env = pure true) (ok : BlkOk X.N X.env.scope scope own)
    (hsl : ∀ j ∈ pt.slots, j ∈ own.map (·.2)) (hi : DIB X T EX tg iter fi)
    (hg : ∀ (s : Shared) (H : Hp) (C : Addr) (cl : List (Str × Addr)) (fp : List Addr), PG (X.blk s H scope (compEnvC scope cl C X.env) fp) tg (pt.g X.K))
    (ht : ∀ (s : Shared) (H : Hp) (C : Addr) (cl : List (Str × Addr)) (fp : List Addr), DTs (X.blk s H scope (compEnvC scope cl C X.env) fp) T noEX ifs cond)
    (he : ∀ (s : Shared) (H : Hp) (C : Addr) (cl : List (Str × Addr)) (fp : List Addr), DE (X.blk s H scope (compEnvC scope cl C X.env) fp) T noEX elt fe) (hs : ∀ x, foldedSetIterable iter X.env x = pure x := by intro _; rfl)
    (hy : X.N[i]? = some y := by rfl) (hyl : X.env.scope.names.lookup y = some .local := by rfl) :
    DS X T EX (.Assign [.Name y py] (.ListComp elt [⟨tg, iter, ifs, 0⟩] scope pos) spos) (fSet i (nOwn (fLc (own.map (·.2)) fi pt.bind cond fe))) := by
  obtain ⟨wi, i1, i2⟩ := hi
  have ev : EvL X.K T EX (tLc wi (pt.g X.K) (ttOf X.K T noEX cond) (tOf X.K T noEX fe) (own.map (·.2))) (fLc (own.map (·.2)) fi pt.bind cond fe) := evl_lc hsl i2
  exact ⟨_, ps_setLc (tt := ttOf X.K T noEX cond) (te := tOf X.K T noEX fe) hc hN hy hyl hsw i1 ok hg ht (fun s H C cl fp => (he s H C cl fp).pe) hs, evs_set ev.n⟩
theorem ds_setLcD (i : Nat) {y : Str} {py spos : Pos} {elt tg iter : Expr} {ifs : List Expr} {scope : Scope} {own : List (Str × Nat)} {pt : Pat} {fi : Rho → M (List D)} {cond : Rho → M Bool} {fe : Rho → M D} (hc : X.calm = true) (hN : X.N.Nodup)
    (hsw : swapsWith (.ListComp elt [⟨tg, iter, ifs, 0⟩] scope pos) (some (.Name y py)) spos.line X.env = pure true) (ok : BlkOk X.N X.env.scope scope own)
    (hsl : ∀ j ∈ pt.slots, j ∈ own.map (·.2)) (hi : DIB X T EX tg iter fi)
    (hg : ∀ (s : Shared) (H : Hp) (C : Addr) (cl : List (Str × Addr)) (fp : List Addr), PG (X.blk s H scope (compEnvC scope cl C X.env) fp) tg (pt.g X.K))
    (ht : ∀ (s : Shared) (H : Hp) (C : Addr) (cl : List (Str × Addr)) (fp : List Addr), DTs (X.blk s H scope (compEnvC scope cl C X.env) fp) T noEX ifs cond)
    (he : ∀ (s : Shared) (H : Hp) (C : Addr) (cl : List (Str × Addr)) (fp : List Addr), DE (X.blk s H scope (compEnvC scope cl C X.env) fp) T noEX elt fe) (hs : ∀ x, foldedSetIterable iter X.env x = pure x := by intro _; rfl)
    (hy : X.N[i]? = some y := by rfl) (hyl : X.env.scope.names.lookup y = some .local := by rfl) :
    DS X T EX (.Assign [.Name y py] (.ListComp elt [⟨tg, iter, ifs, 0⟩] scope pos) spos) (fSet i (nDat (fList (fLc (own.map (·.2)) fi pt.bind cond fe)))) := by
  obtain ⟨wi, i1, i2⟩ := hi
  have ev : EvL X.K T EX (tLc wi (pt.g X.K) (ttOf X.K T noEX cond) (tOf X.K T noEX fe) (own.map (·.2))) (fLc (own.map (·.2)) fi pt.bind cond fe) := evl_lc hsl i2
  exact ⟨_, ps_setLc (tt := ttOf X.K T noEX cond) (te := tOf X.K T noEX fe) hc hN hy hyl hsw i1 ok hg ht (fun s H C cl fp => (he s H C cl fp).pe) hs, evs_set (EvE.n ev.toE)⟩
/-- a, b = e -/
@[simp] def fUnpack (pt : Pat) (f : Rho → M D) : Rho → M Ctl := fun ρ => do
  let d ← f ρ
  let ρ' ← O.lift (pt.bind d ρ)
  pure (.nx ρ')
theorem ds_unpack {pt : Pat} {tg e : Expr} {f : Rho → M D} (hg : PG X tg (pt.g X.K)) (h : DE X T EX e f) (hs : swapsWithSole [tg] e pos.line X.env = pure false := by rfl) (hw : swappedStores [tg] e X.env = pure none := by rfl)
    (hh : (assignEach [tg] X.env).map (·.2) = [assign tg X.env] := by rfl) : DS X T EX (.Assign [tg] e pos) (fUnpack pt f) := by
  obtain ⟨_, a1, a2⟩ := h
  refine ⟨_, ps_asg a1 hg hs hw hh, fun R q => a2 R (q.bind.mono fun d s1 k F' H' v g r => ?_)⟩
  obtain ⟨ρ', e1, k2⟩ := k.bind.lift
  exact Pat.ok pt (R.grow g) r e1 fun σ' R' _ => k2.ret F' H' σ' g.ff R'
/-- a, b = e1, e2: two locals -/
@[simp] def fPar (i j : Nat) (f g : Rho → M Sl) : Rho → M Ctl := fun ρ => do
  let x ← f ρ
  let y ← g ρ
  let ρ1 ← putSl i x ρ
  let ρ2 ← putSl j y ρ1
  pure (.nx ρ2)
theorem NewSl.grow {K : PySem.W.Frag} {hp : Addr} {H F1 H1 F2 H2 : Hp} {s2 : HS} {v : V} {x : Sl} (n : NewSl K hp H F1 H1 v x) (g : Grow K T hp F1 H1 F2 H2 s2) : NewSl K hp H F2 H2 v x := by
  cases x with
  | dat d => exact Rp.up g.ff (show Rp K F1 v d from n)
  | own xs =>
    obtain ⟨a, e, n⟩ := n
    obtain ⟨vs, h1, h2⟩ := n.ex
    refine ⟨a, e, ⟨vs, g.st _ _ h1 (not_loose_lst n.nh), RpAll.up g.ff h2⟩, ?_, n.nh, n.lo⟩
    cases z : F2 a with
    | none => rfl
    | some u =>
      rcases g.nw _ _ z with z1 | z1
      · rw [n.nF] at z1; cases z1
      · exact absurd (z1 _ h1) (not_loose_lst n.nh)
  | un => exact n.elim
  | hand => exact n.elim
theorem Rel.put2 {K : PySem.W.Frag} {hp : Addr} {F0 H0 F H F1 H1 F2 H2 : Hp} {σ : L2.St} {ρ : Rho} {s s1 s2 : HS} {i j : Nat} {v w : V} {x y : Sl} (R : Rel K T hp F0 H0 F H σ ρ s) (g1 : Grow K T hp F H F1 H1 s1) (g2 : Grow K T hp F1 H1 F2 H2 s2)
    (n1 : NewSl K hp H F1 H1 v x) (n2 : NewSl K hp H1 F2 H2 w y) (hi : i < ρ.length) (hj : j < ρ.length) : Rel K T hp F0 H0 F2 H2 ((σ.set i (some v)).set j (some w)) ((ρ.set i x).set j y) s2 :=
  Rel.put (R.put g1 n1 hi) g2 n2 (by rw [List.length_set]; exact hj)
theorem ds_par (i j : Nat) {x y : Str} {a b : Expr} {px py pt : Pos} {kt k2 : Nat} {pt2 : Pos} {f g : Rho → M Sl} (hc : X.calm = true) (hN : X.N.Nodup) (ha : DN X T EX a f) (hb : DN X T EX b g) (hij : i ≠ j := by decide) (hi : X.N[i]? = some x := by rfl) (hj : X.N[j]? = some y := by rfl)
    (hx : X.env.scope.names.lookup x = some .local := by rfl) (hy : X.env.scope.names.lookup y = some .local := by rfl)
    (hw : swappedStores [.Tuple [.Name x px, .Name y py] kt pt] (.Tuple [a, b] k2 pt2) X.env = pure (some [x, y]) := by rfl)
    (hs : swapsWithSole [.Tuple [.Name x px, .Name y py] kt pt] (.Tuple [a, b] k2 pt2) pos.line X.env = pure false := by rfl)
    (he : starEach [a, b] X.env = (false, eval a X.env) :: starEach [b] X.env := by rfl) (he2 : starEach [b] X.env = (false, eval b X.env) :: starEach [] X.env := by rfl) :
    DS X T EX (.Assign [.Tuple [.Name x px, .Name y py] kt pt] (.Tuple [a, b] k2 pt2) pos) (fPar i j f g) := by
  obtain ⟨_, a1, a2⟩ := ha
  obtain ⟨_, b1, b2⟩ := hb
  refine ⟨_, ps_par hc hN hi hj hij hx hy (pa_cons a1 (pa_cons b1 pa_nil he2) he) hw hs, fun R q => a2 R (q.bind.mono fun u s1 k F1 H1 v g1 n1 => b2 (R.grow g1) (k.bind.mono fun z s2 k2 F2 H2 w g2 n2 => ?_))⟩
  obtain ⟨hi', k3⟩ := k2.bind.putSl
  obtain ⟨hj', k4⟩ := k3.bind.putSl
  rw [List.length_set] at hj'
  exact ⟨v, w, rfl, k4.ret F2 H2 _ (fun a o e => g2.ff _ _ (g1.ff _ _ e)) (R.put2 g1 g2 n1 n2 hi' hj')⟩
/-! ### lists of the def's own, changed -/
def ownAt (i : Nat) (ρ : Rho) : M (List D) := match ρ[i]? with
  | some (.own xs) => pure xs
  | _ => M.bad
theorem Post.ownAt {i : Nat} {ρ : Rho} {s : HS} {P : List D → HS → Prop} {W : String → HS → Prop} (h : Post (Jw.ownAt i ρ s) P W) : ∃ xs, ρ[i]? = some (.own xs) ∧ P xs s := by
  unfold Jw.ownAt at h
  cases q : ρ[i]? with
  | none => rw [q] at h; exact h.elim
  | some x =>
    rw [q] at h
    cases x with
    | own xs => exact ⟨xs, rfl, h⟩
    | un => exact h.elim
    | dat d => exact h.elim
    | hand => exact h.elim
theorem Rel.write {K : PySem.W.Frag} {hp : Addr} {F0 H0 F H : Hp} {σ : L2.St} {ρ : Rho} {s : HS} {i : Nat} {xs ys : List D} {a : Addr} {vs ws : List V} (R : Rel K T hp F0 H0 F H σ ρ s) (h : ρ[i]? = some (.own xs)) (ha : σ[i]? = some (some (.ref a))) (hv : H a = some (.lst vs)) (hw : RpAll K F ws ys) :
    Rel K T hp F0 H0 F (upd H a (.lst ws)) σ (ρ.set i (.own ys)) s := by
  have hi : i < ρ.length := (List.getElem?_eq_some_iff.mp h).1
  obtain ⟨a', vs', h1, h2, h3, h4, h5, h6⟩ := R.sl i _ h
  rw [ha] at h1
  cases h1
  refine ⟨R.g.write h6 h4 h5 hv, fun j y e => ?_, fun j k zs us e1 e2 n => ?_, by rw [List.length_set]; exact R.len⟩
  · by_cases z : i = j
    · subst z
      rw [List.getElem?_set_self hi] at e
      cases e
      exact ⟨a, ws, ha, upd_same, hw, h4, h5, h6⟩
    · rw [List.getElem?_set_ne z] at e
      have hy := R.sl j y e
      cases y with
      | un => trivial
      | dat d => exact hy
      | hand => exact hy
      | own zs =>
        obtain ⟨b, us, g1, g2, g3, g4, g5, g6⟩ := hy
        refine ⟨b, us, g1, ?_, g3, g4, g5, g6⟩
        rw [upd_ne]
        · exact g2
        · exact fun w => R.ne i j xs zs h e z (by rw [ha, g1, w])
  · have ne : ∀ {m : Nat} {us : List D}, (ρ.set i (.own ys))[m]? = some (.own us) → ∃ us', ρ[m]? = some (.own us') := fun {m us} e => by
      by_cases z : i = m
      · subst z; exact ⟨xs, h⟩
      · rw [List.getElem?_set_ne z] at e
        exact ⟨us, e⟩
    obtain ⟨_, f1⟩ := ne e1
    obtain ⟨_, f2⟩ := ne e2
    exact R.ne j k _ _ f1 f2 n
def fAppend (i : Nat) (f : Rho → M D) : Rho → M Ctl := fun ρ => do
  let xs ← ownAt i ρ
  let d ← f ρ
  if xs.length < 16777216 then pure (.nx (ρ.set i (.own (xs ++ [d])))) else M.bad
theorem ds_append (i : Nat) {x : Str} {e : Expr} {f : Rho → M D} {px apos cpos : Pos} (h : DE X T EX e f) (hN : X.N[i]? = some x := by rfl) (hv : Vis X.env.scope x := by first | exact Or.inl rfl | exact Or.inr (Or.inl rfl) | exact Or.inr (Or.inr rfl)) (hd : (x == ("__debug__" : Str)) = false := by decide)
    (hcd : (x == ("__classdict__" : Str)) = false := by decide) (hb : attributeBase (.Name x px) "append" X.env (eval (.Name x px) X.env) = eval (.Name x px) X.env := by rfl)
    (hpl : ((backTo cpos (starEach [e] X.env)).all (fun x => !x.fst) && (backToKw cpos (keywordEach [] X.env)).all (fun x => x.fst.isSome) && decide ([e].length + ([] : List Keyword).length + (if ([] : List Keyword).isEmpty = true then 0 else 1) < 30)) = true := by rfl)
    (hl : (apos.endLine == cpos.line) = true := by rfl) (he : starEach [e] X.env = (false, eval e X.env) :: starEach [] X.env := by rfl) (hs : swapsWith (.Call (.Attribute (.Name x px) "append" apos) [e] [] cpos) none pos.line X.env = pure false := by rfl) :
    DS X T EX (.Expr (.Call (.Attribute (.Name x px) "append" apos) [e] [] cpos) pos) (fAppend i f) := by
  obtain ⟨_, a1, a2⟩ := h
  refine ⟨_, ps_expr (pe_bm PySem.F.plainAttrs_list PySem.F.slot_list_append PySem.F.type_list_append mt_append (pe_var hN hv hd hcd) (pa_cons a1 pa_nil he) hb hpl hl he rfl) hs, fun {hp F0 H0 F H σ ρ s E} R q => ?_⟩
  obtain ⟨xs, hx, q2⟩ := q.bind.ownAt
  obtain ⟨a, vs, h1, h2, h3, h4, h5, h6⟩ := R.sl i _ hx
  refine ⟨.ref a, h1, .inl ⟨rfl, _, .inl (.inl h2)⟩, a2 R (q2.bind.mono fun d s1 k F1 H1 v g r => ?_)⟩
  split at k
  case isFalse => exact k.elim
  rename_i hz
  have h2' := g.st _ _ h2 (not_loose_lst h5)
  exact ⟨a, vs, v, rfl, rfl, h2', by rw [h3.len, sizeLine_eq]; exact hz, k.ret F1 _ σ g.ff ((R.grow g).write hx h1 h2' ((RpAll.up g.ff h3).app (.cons r .nil)))⟩
def fExtend (i : Nat) (f : Rho → M D) : Rho → M Ctl := fun ρ => do
  let xs ← ownAt i ρ
  let d ← f ρ
  match d with
  | .list ys => if xs.length + ys.length ≤ 16777216 then pure (.nx (ρ.set i (.own (xs ++ ys)))) else M.bad
  | _ => M.bad
theorem ds_extend (i : Nat) {x : Str} {e : Expr} {f : Rho → M D} {px apos cpos : Pos} (h : DB X T EX e f) (hN : X.N[i]? = some x := by rfl) (hv : Vis X.env.scope x := by first | exact Or.inl rfl | exact Or.inr (Or.inl rfl) | exact Or.inr (Or.inr rfl)) (hd : (x == ("__debug__" : Str)) = false := by decide)
    (hcd : (x == ("__classdict__" : Str)) = false := by decide) (hb : attributeBase (.Name x px) "extend" X.env (eval (.Name x px) X.env) = eval (.Name x px) X.env := by rfl)
    (hpl : ((backTo cpos (starEach [e] X.env)).all (fun x => !x.fst) && (backToKw cpos (keywordEach [] X.env)).all (fun x => x.fst.isSome) && decide ([e].length + ([] : List Keyword).length + (if ([] : List Keyword).isEmpty = true then 0 else 1) < 30)) = true := by rfl)
    (hl : (apos.endLine == cpos.line) = true := by rfl) (he : starEach [e] X.env = (false, eval e X.env) :: starEach [] X.env := by rfl) (hs : swapsWith (.Call (.Attribute (.Name x px) "extend" apos) [e] [] cpos) none pos.line X.env = pure false := by rfl) :
    DS X T EX (.Expr (.Call (.Attribute (.Name x px) "extend" apos) [e] [] cpos) pos) (fExtend i f) := by
  obtain ⟨_, a1, a2⟩ := h
  refine ⟨_, ps_expr (pe_bm PySem.F.plainAttrs_list PySem.F.slot_list_extend PySem.F.type_list_extend mt_extend (pe_var hN hv hd hcd) (pa_cons a1 pa_nil he) hb hpl hl he rfl) hs, fun {hp F0 H0 F H σ ρ s E} R q => ?_⟩
  obtain ⟨xs, hx, q2⟩ := q.bind.ownAt
  obtain ⟨a, vs, h1, h2, h3, h4, h5, h6⟩ := R.sl i _ hx
  refine ⟨.ref a, h1, .inl ⟨rfl, _, .inl (.inl h2)⟩, a2 R (q2.bind.mono fun d s1 k F1 H1 v g r => ?_)⟩
  cases d with
  | list ys =>
    dsimp only at k
    split at k
    case isFalse => exact k.elim
    rename_i hz
    have h2' := g.st _ _ h2 (not_loose_lst h5)
    obtain ⟨b, ws, rfl, g1, g2⟩ := r.list g.sub
    exact ⟨a, b, vs, ws, rfl, rfl, h2', g1, by rw [h3.len, g2.len, sizeLine_eq]; exact hz, k.ret F1 _ σ g.ff ((R.grow g).write hx h1 h2' ((RpAll.up g.ff h3).app g2))⟩
  | none => exact k.elim
  | bool _ => exact k.elim
  | int _ => exact k.elim
  | str _ => exact k.elim
  | tuple _ => exact k.elim
  | dict _ => exact k.elim
/-! ### the rest of the statements -/
@[simp] def fRet (f : Rho → M D) : Rho → M Ctl := fun ρ => do
  let d ← f ρ
  pure (.rt d)
theorem ds_ret {e : Expr} {f : Rho → M D} (h : DE X T EX e f) : DS X T EX (.Return (some e) pos) (fRet f) := let ⟨_, a, b⟩ := h; ⟨_, ps_ret a, fun R q => b R (q.bind.mono fun d s1 k F' H' v g r => k.ret F' H' v (R.g.trans g) r)⟩
@[simp] def fDrop (f : Rho → M D) : Rho → M Ctl := fun ρ => do
  let _ ← f ρ
  pure (.nx ρ)
theorem ds_expr {e : Expr} {f : Rho → M D} (h : DE X T EX e f) (hs : swapsWith e none pos.line X.env = pure false := by rfl) : DS X T EX (.Expr e pos) (fDrop f) := let ⟨_, a, b⟩ := h; ⟨_, ps_expr a hs, fun R q => b R (q.bind.mono fun d s1 k F' H' v g r => k.ret F' H' _ g.ff (R.grow g))⟩
@[simp] def fIfS (t : Rho → M Bool) (f g : Rho → M Ctl) : Rho → M Ctl := fun ρ => do
  let c ← t ρ
  if c then f ρ else g ρ
theorem ds_if {c : Expr} {a b : List Stmt} {t : Rho → M Bool} {f g : Rho → M Ctl} (hc : DT X T EX c t) (ha : DSs X T EX a f) (hb : DSs X T EX b g) : DS X T EX (.If c a b pos) (fIfS t f g) := by
  obtain ⟨_, c1, c2⟩ := hc
  obtain ⟨_, a1, a2⟩ := ha
  obtain ⟨_, b1, b2⟩ := hb
  refine ⟨_, ps_if c1 a1 b1, fun R q => c2 R (q.bind.mono fun c s1 k F1 H1 g1 => ?_)⟩
  cases c with
  | true =>
    rw [if_pos rfl]
    rw [if_pos rfl] at k
    exact a2 (R.grow g1) (Post.mono k fun c s2 k2 => k2.up g1.ff)
  | false =>
    rw [if_neg Bool.false_ne_true]
    rw [if_neg Bool.false_ne_true] at k
    exact b2 (R.grow g1) (Post.mono k fun c s2 k2 => k2.up g1.ff)
def fBreak : Rho → M Ctl := fun ρ => pure (.bk ρ)
def fCont : Rho → M Ctl := fun ρ => pure (.ct ρ)
theorem ds_break : DS X T EX (.Break pos) fBreak := ⟨_, ps_break, fun R q => q.ret _ _ _ (fun _ _ h => h) R⟩
theorem ds_continue : DS X T EX (.Continue pos) fCont := ⟨_, ps_continue, fun R q => q.ret _ _ _ (fun _ _ h => h) R⟩
theorem ds_pass : DS X T EX (.Pass pos) fSkip := ⟨_, ps_pass, fun R q => q.ret _ _ _ (fun _ _ h => h) R⟩
/-- where no exception may be: such a statement is not reached -/
@[simp] def fRaise (c : String) : Rho → M Ctl := fun _ => M.raise c
theorem ds_raise0 (c : String) {st : Stmt} : DS X T noEX st (fRaise c) := ⟨_, ps_never, fun R q => (show WX _ _ _ _ _ noEX c _ from q) _ _ R.g⟩
def forL (bp : D → Rho → Option Rho) (body : Rho → M Ctl) : List D → Rho → M Ctl
  | [], ρ => pure (.nx ρ)
  | x :: xs, ρ => do
    let ρ1 ← O.lift (bp x ρ)
    let c ← body ρ1
    match c with
    | .nx ρ2 => forL bp body xs ρ2
    | .ct ρ2 => forL bp body xs ρ2
    | .bk ρ2 => pure (.nx ρ2)
    | .rt d => pure (.rt d)
def fFor (fi : Rho → M (List D)) (bp : D → Rho → Option Rho) (body : Rho → M Ctl) : Rho → M Ctl := fun ρ => do
  let ds ← fi ρ
  forL bp body ds ρ
theorem ds_for {tg iter : Expr} {body : List Stmt} {pt : Pat} {fi : Rho → M (List D)} {fb : Rho → M Ctl} (hp : PassesOwn (model X.prog X.w) X.A X.env X.xe) (hc : X.calm = true) (hi : DI X T EX tg iter fi) (hg : PG X tg (pt.g X.K)) (hb : DSs X T EX body fb)
    (hs : ∀ x, foldedSetIterable iter X.env x = pure x := by intro _; rfl) : DS X T EX (.For tg iter body [] pos) (fFor fi pt.bind fb) := by
  obtain ⟨_, i1, i2⟩ := hi
  obtain ⟨_, b1, b2⟩ := hb
  refine ⟨_, ps_for hp hc i1 hg b1 hs, fun {hp F0 H0 F H σ ρ s E} R q => i2 R (q.bind.mono fun ds s1 k F1 H1 J g1 w1 => ?_)⟩
  refine ⟨fun i m σ' H' => m = ds.length - i ∧ i ≤ ds.length ∧ ∃ (F' : Hp) (ρ' : Rho) (s' : HS), (∀ a o, F1 a = some o → F' a = some o) ∧ Rel X.K T hp F0 H0 F' H' σ' ρ' s' ∧ Post (forL pt.bind fb (ds.drop i) ρ' s') (CtlQ X.K T hp F0 H0 F E) (WX X.K T hp F0 H0 EX),
    ⟨_, rfl, Nat.zero_le _, F1, ρ, s1, fun _ _ h => h, R.grow g1, by rw [List.drop_zero]; exact k⟩, ?_⟩
  rintro i m σ' H' ⟨rfl, hi, F', ρ', s', e', R', p'⟩
  obtain ⟨wgo, wst, wyl⟩ := w1 F0 H0 F' H' s' e' R'.g
  by_cases hlt : i < ds.length
  · refine .inr ⟨wgo i hlt, fun σ2 H2 => ∃ m', m' < ds.length - i ∧ (m' = ds.length - (i + 1) ∧ i + 1 ≤ ds.length ∧ ∃ (F' : Hp) (ρ' : Rho) (s' : HS), (∀ a o, F1 a = some o → F' a = some o) ∧ Rel X.K T hp F0 H0 F' H2 σ2 ρ' s' ∧
      Post (forL pt.bind fb (ds.drop (i + 1)) ρ' s') (CtlQ X.K T hp F0 H0 F E) (WX X.K T hp F0 H0 EX)), fun σ2 H2 h => h, fun x H2 y => ?_⟩
    have hx : ds[i]? = some ds[i] := List.getElem?_eq_getElem hlt
    obtain ⟨F2, g2, r2⟩ := wyl i _ x H2 hx y
    rw [List.drop_eq_getElem_cons hlt] at p'
    unfold forL at p'
    obtain ⟨ρ1, eb, p1⟩ := p'.bind.lift
    refine Pat.ok pt (R'.grow g2) r2 eb fun σ3 R3 _ => b2 R3 (p1.bind.mono fun c s3 k3 => ?_)
    have up2 : ∀ a o, F1 a = some o → F2 a = some o := fun a o h => g2.ff _ _ (e' a o h)
    have nxt : ∀ (ρ4 : Rho), Post (forL pt.bind fb (ds.drop (i + 1)) ρ4 s3) (CtlQ X.K T hp F0 H0 F E) (WX X.K T hp F0 H0 EX) → ∀ F4 H4 σ4, (∀ a o, F2 a = some o → F4 a = some o) → Rel X.K T hp F0 H0 F4 H4 σ4 ρ4 s3 →
        ∃ m', m' < ds.length - i ∧ (m' = ds.length - (i + 1) ∧ i + 1 ≤ ds.length ∧ ∃ (F' : Hp) (ρ' : Rho) (s' : HS), (∀ a o, F1 a = some o → F' a = some o) ∧ Rel X.K T hp F0 H0 F' H4 σ4 ρ' s' ∧ Post (forL pt.bind fb (ds.drop (i + 1)) ρ' s') (CtlQ X.K T hp F0 H0 F E) (WX X.K T hp F0 H0 EX)) :=
      fun ρ4 k4 F4 H4 σ4 e4 R4 => ⟨_, by omega, rfl, hlt, F4, ρ4, s3, fun a o h => e4 a o (up2 a o h), R4, k4⟩
    cases c with
    | nx ρ4 => exact nxt ρ4 k3
    | ct ρ4 => exact nxt ρ4 k3
    | bk ρ4 => exact fun F4 H4 σ4 e4 R4 => k3.ret F4 H4 σ4 (fun a o h => e4 a o (up2 a o (g1.ff _ _ h))) R4
    | rt d => exact k3.ret
  · have e : i = ds.length := by omega
    subst e
    rw [List.drop_length] at p'
    exact .inl ⟨wst, p'.ret F' H' σ' (fun a o h => e' a o (g1.ff _ _ h)) R'⟩
def whileL (t : Rho → M Bool) (body : Rho → M Ctl) : Nat → Rho → M Ctl
  | 0, _ => M.bad
  | n + 1, ρ => do
    let b ← t ρ
    if b then do
      let c ← body ρ
      match c with
      | .nx ρ2 => whileL t body n ρ2
      | .ct ρ2 => whileL t body n ρ2
      | .bk ρ2 => pure (.nx ρ2)
      | .rt d => pure (.rt d)
    else pure (.nx ρ)
theorem evs_while {K : PySem.W.Frag} (n : Nat) {tc : TT} {tb : TS} {t : Rho → M Bool} {fb : Rho → M Ctl} (c2 : EvT K T EX tc t) (b2 : EvS T EX K tb fb) : EvS T EX K (tWhile tc tb) (whileL t fb n) := fun {hp F0 H0 F H σ ρ s E} R q => by
  refine ⟨fun m σ' H' => ∃ (F' : Hp) (ρ' : Rho) (s' : HS), (∀ a o, F a = some o → F' a = some o) ∧ Rel K T hp F0 H0 F' H' σ' ρ' s' ∧ Post (whileL t fb m ρ' s') (CtlQ K T hp F0 H0 F E) (WX K T hp F0 H0 EX), ⟨n, F, ρ, s, fun _ _ h => h, R, q⟩, ?_⟩
  rintro m σ' H' ⟨F', ρ', s', e', R', p'⟩
  cases m with
  | zero => exact p'.elim
  | succ m =>
    unfold whileL at p'
    refine c2 R' (p'.bind.mono fun b s1 k F1 H1 g1 => ?_)
    cases b with
    | false =>
      rw [if_neg Bool.false_ne_true]
      rw [if_neg Bool.false_ne_true] at k
      exact k.ret F1 H1 σ' (fun a o h => g1.ff _ _ (e' a o h)) (R'.grow g1)
    | true =>
      rw [if_pos rfl]
      rw [if_pos rfl] at k
      refine ⟨fun σ2 H2 => ∃ m', m' < m + 1 ∧ ∃ (F' : Hp) (ρ' : Rho) (s' : HS), (∀ a o, F a = some o → F' a = some o) ∧ Rel K T hp F0 H0 F' H2 σ2 ρ' s' ∧ Post (whileL t fb m' ρ' s') (CtlQ K T hp F0 H0 F E) (WX K T hp F0 H0 EX), fun σ2 H2 h => h, ?_⟩
      refine b2 (R'.grow g1) (k.bind.mono fun c s2 k2 => ?_)
      cases c with
      | nx ρ4 => exact fun F4 H4 σ4 e4 R4 => ⟨m, Nat.lt_succ_self m, F4, ρ4, s2, fun a o h => e4 a o (g1.ff _ _ (e' a o h)), R4, k2⟩
      | ct ρ4 => exact fun F4 H4 σ4 e4 R4 => ⟨m, Nat.lt_succ_self m, F4, ρ4, s2, fun a o h => e4 a o (g1.ff _ _ (e' a o h)), R4, k2⟩
      | bk ρ4 => exact fun F4 H4 σ4 e4 R4 => k2.ret F4 H4 σ4 (fun a o h => e4 a o (g1.ff _ _ (e' a o h))) R4
      | rt d => exact k2.ret

theorem ds_while (n : Nat) {c : Expr} {body : List Stmt} {t : Rho → M Bool} {fb : Rho → M Ctl} (hp : PassesOwn (model X.prog X.w) X.A X.env X.xe) (hc : DT X T EX c t) (hb : DSs X T EX body fb) : DS X T EX (.While c body [] pos) (whileL t fb n) :=
  let ⟨_, c1, c2⟩ := hc
  let ⟨_, b1, b2⟩ := hb
  ⟨_, ps_while hp c1 b1, evs_while n c2 b2⟩
end
end Jw
namespace Jw
open PySem PySem.Spec PyProof.Rows L2
/-! ### the drawing object, read and written by place -/
def hIx (k : Nat) (s : HS) : Option D := match k with
  | 0 => some (.list (s.cells.map PyData.int))
  | 1 => some (.int s.nxt)
  | 2 => some (.int s.rest)
  | 3 => some (.int s.mix)
  | 4 => some (.int s.cnt)
  | _ => none
def hPut (k : Nat) (n : Int) (s : HS) : Option HS := match k with
  | 1 => some { s with nxt := n }
  | 2 => some { s with rest := n }
  | 3 => some { s with mix := n }
  | 4 => some { s with cnt := n }
  | _ => none
def hGet (k : Nat) : M D := fun s => match hIx k s with
  | some d => .ok d s
  | none => .bad
def hSet (k : Nat) (n : Int) (ρ : Rho) : M Ctl := fun s => match hPut k n s with
  | some s' => .ok (.nx ρ) s'
  | none => .bad
@[simp] def fHix (i k : Nat) : Rho → M D := fun ρ => match ρ[i]? with
  | some .hand => hGet k
  | _ => M.bad
@[simp] def fHput (i k : Nat) (f : Rho → M D) : Rho → M Ctl := fun ρ => do
  let d ← f ρ
  match ρ[i]?, d with
  | some .hand, .int n => hSet k n ρ
  | _, _ => M.bad
section
variable {K : PySem.W.Frag} {T : List (Addr × Str)} {hp : Addr} {F0 H0 F H : Hp} {σ : L2.St} {ρ : Rho} {s s' : HS}
theorem Grow.putHand (a : Grow K T hp F0 H0 F H s) {c : Addr} (hc : F c = some (.lst (s.cells.map V.int))) (e : s'.cells = s.cells) : Grow K T hp F0 H0 F (upd H hp (.lst [.ref c, .int s'.nxt, .int s'.rest, .int s'.mix, .int s'.cnt])) s' := by
  obtain ⟨c0, z1, z2, _⟩ := a.hand
  have up : ∀ x u, H x = some u → (∀ zs, u ≠ .lst zs) → upd H hp (.lst [.ref c, .int s'.nxt, .int s'.rest, .int s'.mix, .int s'.cnt]) x = some u := fun x u q n => by
    rw [upd_ne (fun z => by rw [z, z2] at q; exact n _ (Option.some.inj q).symm)]
    exact q
  refine ⟨a.ff, a.nw, fun x u q l => ?_, fun x u q => ?_, fun q hq => ?_, ⟨c, z1, upd_same, by rw [e]; exact hc⟩⟩
  · rw [upd_ne (fun z => l (.inl z))]
    exact a.st x u q l
  · rw [upd_ne (fun z => by rw [z, z1] at q; cases q)]
    exact a.sub x u q
  · obtain ⟨ps, h1, h2, h3⟩ := a.tabs q hq
    refine ⟨ps, up _ _ h1 (fun zs e => by cases e), h2, fun po cv hc => ?_⟩
    obtain ⟨c, e1, e2⟩ := h3 po cv hc
    exact ⟨c, e1, up _ _ e2 fun zs e => by unfold LamX.CodeO at e; cases e⟩
theorem Rel.putHand (R : Rel K T hp F0 H0 F H σ ρ s) {c : Addr} (hc : F c = some (.lst (s.cells.map V.int))) (e : s'.cells = s.cells) : Rel K T hp F0 H0 F (upd H hp (.lst [.ref c, .int s'.nxt, .int s'.rest, .int s'.mix, .int s'.cnt])) σ ρ s' := by
  refine ⟨R.g.putHand hc e, fun i x q => ?_, R.ne, R.len⟩
  have h := R.sl i x q
  cases x with
  | un => trivial
  | dat d => exact h
  | own xs =>
    obtain ⟨p, vs, h1, h2, h3, h4, h5, h6⟩ := h
    exact ⟨p, vs, h1, by rw [upd_ne h5]; exact h2, h3, h4, h5, h6⟩
  | hand => exact h
theorem Rp.intsOf {c : Addr} {ns : List Int} (h : F c = some (.lst (ns.map V.int))) : Rp K F (.ref c) (.list (ns.map PyData.int)) := .lst h (RpAll.ints ns)
end
section
variable {X : Cx} {T : List (Addr × Str)} {EX : String → Hp → Prop} {pos p p2 p3 : Pos}
theorem de_hix (i k : Nat) {x : Str} {kk : Nat} (hN : X.N[i]? = some x := by rfl) (hv : Vis X.env.scope x := by first | exact Or.inl rfl | exact Or.inr (Or.inl rfl) | exact Or.inr (Or.inr rfl)) (hd : (x == ("__debug__" : Str)) = false := by decide)
    (hcd : (x == ("__classdict__" : Str)) = false := by decide) : DE X T EX (.Subscript (.Name x p) (.Constant (.int k) kk p2) pos) (fHix i k) := by
  refine ⟨_, pe_ix ix_seq (pe_var hN hv hd hcd) pe_int (fun _ _ => rfl), fun {hp F0 H0 F H σ ρ s Q} R q => ?_⟩
  unfold fHix at q
  cases e : ρ[i]? with
  | none => rw [e] at q; exact q.elim
  | some y =>
    rw [e] at q
    cases y with
    | hand =>
      obtain ⟨c, h1, h2, h3⟩ := R.g.hand
      refine ⟨.ref hp, R.sl i _ e, ?_⟩
      have go : ∀ v d, atI [.ref c, .int s.nxt, .int s.rest, .int s.mix, .int s.cnt] (k : Int) = some v → hIx k s = some d → Rp X.K F v d → rIx X.K (.ref hp) (.int k) H Q := fun v d a b r => by
        have q2 : Post (match hIx k s with | some d => Res.ok d s | none => Res.bad) (fun d s' => ∀ F' H' v, Grow X.K T hp F H F' H' s' → Rp X.K F' v d → Q v H') (WX X.K T hp F0 H0 EX) := q
        rw [b] at q2
        exact .inl ⟨hp, _, _, v, rfl, rfl, .inl (.inl h2), a, q2 F H v R.g.refl r⟩
      show rIx X.K (.ref hp) (.int k) H Q
      rcases k with _ | _ | _ | _ | _ | k
      · exact go _ _ rfl rfl (Rp.intsOf h3)
      · exact go _ _ rfl rfl (.int _)
      · exact go _ _ rfl rfl (.int _)
      · exact go _ _ rfl rfl (.int _)
      · exact go _ _ rfl rfl (.int _)
      · exact q.elim
    | un => exact q.elim
    | own xs => exact q.elim
    | dat d => exact q.elim
theorem ds_hput (i k : Nat) {x : Str} {kk : Nat} {e : Expr} {f : Rho → M D} (h : DE X T EX e f) (hN : X.N[i]? = some x := by rfl) (hv : Vis X.env.scope x := by first | exact Or.inl rfl | exact Or.inr (Or.inl rfl) | exact Or.inr (Or.inr rfl)) (hd : (x == ("__debug__" : Str)) = false := by decide)
    (hcd : (x == ("__classdict__" : Str)) = false := by decide) (hs : swapsWithSole [.Subscript (.Name x p) (.Constant (.int k) kk p2) p3] e pos.line X.env = pure false := by rfl) (hw : swappedStores [.Subscript (.Name x p) (.Constant (.int k) kk p2) p3] e X.env = pure none := by rfl) :
    DS X T EX (.Assign [.Subscript (.Name x p) (.Constant (.int k) kk p2) p3] e pos) (fHput i k f) := by
  obtain ⟨_, a1, a2⟩ := h
  refine ⟨_, ps_asg a1 (pg_sub (pe_var hN hv hd hcd) pe_int set_list) hs hw rfl, fun {hp F0 H0 F H σ ρ s E} R q => a2 R (q.bind.mono fun d s1 k1 F1 H1 v g1 r1 => ?_)⟩
  have R1 := R.grow g1
  cases e0 : ρ[i]? with
  | none => rw [e0] at k1; exact k1.elim
  | some y =>
    rw [e0] at k1
    cases y with
    | hand =>
      cases d with
      | int n =>
        cases r1
        obtain ⟨c, h1, h2, h3⟩ := R1.g.hand
        refine ⟨.ref hp, R1.sl i _ e0, ?_⟩
        have go : ∀ (j : Nat) (s' : HS), ixN 5 (k : Int) = some j → hPut k n s1 = some s' → [V.ref c, .int s1.nxt, .int s1.rest, .int s1.mix, .int s1.cnt].set j (.int n) = [V.ref c, .int s'.nxt, .int s'.rest, .int s'.mix, .int s'.cnt] → s'.cells = s1.cells →
            rSetL (.ref hp) (.int k) (.int n) H1 (fun H3 => E.nx σ H3) := fun j s' a b z ec => by
          have k2 : Post (match hPut k n s1 with | some s' => Res.ok (Ctl.nx ρ) s' | none => Res.bad) (CtlQ X.K T hp F0 H0 F E) (WX X.K T hp F0 H0 EX) := k1
          rw [b] at k2
          refine ⟨hp, _, _, j, rfl, rfl, h2, a, ?_⟩
          rw [z]
          exact k2 F1 _ σ (fun a o h => g1.ff a o h) (R1.putHand h3 ec)
        show rSetL (.ref hp) (.int k) (.int n) H1 (fun H3 => E.nx σ H3)
        rcases k with _ | _ | _ | _ | _ | k
        · exact k1.elim
        · exact go _ _ rfl rfl rfl rfl
        · exact go _ _ rfl rfl rfl rfl
        · exact go _ _ rfl rfl rfl rfl
        · exact go _ _ rfl rfl rfl rfl
        · exact k1.elim
      | _ => exact k1.elim
    | un => exact k1.elim
    | own xs => exact k1.elim
    | dat d => exact k1.elim
end
end Jw
namespace Jw
open PySem PySem.Spec PyProof.Rows L2
/-! ### sum of a tuple of ints -/
def rSumT (K : PySem.W.Frag) : List V → Hp → VK → Prop := fun vs H Q => ∃ (a : Addr) (ns : List Int), vs = [V.ref a] ∧ SqT K H a (ns.map V.int) ∧ Q (.int ns.sum) H
def rSumD (K : PySem.W.Frag) : List V → Hp → VK → Prop := fun vs H Q => rSum K vs H Q ∨ rSumT K vs H Q
section
variable {prog : Program} {w : World} {A : Around} {E : Value → Shared → Prop} {s : Shared} {t : Addr} {its : List Value} {ns : List Int} {Q : Value → Shared → Prop}
theorem sumT_raw (hh : A.handled = none) (hl : s.heap.IsTuple t its.toArray) (hi : IntsAre its ns)
    (h : ∀ h' tk u, (∀ b o, s.heap.get? b = some o → h'.get? b = some o) → Q (.int ns.sum u) { s with heap := h', toks := tk }) : wpAny (model prog w) A (call (.builtin "sum") [.ref t]) Q E s := by
  obtain ⟨xs, e⟩ := hi.allInts.items
  have hn : numsOf (intItems xs).toList = ns := e ▸ hi.numsOf
  rw [nums_intItems] at hn
  rw [e] at hl
  refine PySem.W.ktm_sumG hh hl fun h' tk u hk => ?_
  have z := h h' tk u hk
  rw [preSum_eq, List.take_of_length_le (by simp), hn]
  exact z
end
section
variable {X : Cx} {T : List (Addr × Str)} {EX : String → Hp → Prop} {pos p p2 p3 : Pos}
theorem cr_sumD (hc : X.calm = true) : CallR X (.builtin "sum") (rSumD X.K) := by
  intro pins s σ H vs us Q I r h
  rcases h with h | ⟨a, ns, rfl, hs, q⟩
  · exact cr_sum hc pins s σ H vs us Q I r h
  · obtain ⟨its, rv, hl, _⟩ := I.tuple hs
    rw [Vals.ref1 r]
    exact sumT_raw (I.ok.hd hc) hl rv.ints fun h' tk t' hk => ⟨.int _, H, I.kept hk, ⟨_, rfl⟩, q⟩
def dSumD : D → Option D
  | .list xs => (dInts xs).map fun ns => .int ns.sum
  | .tuple xs => (dInts xs).map fun ns => .int ns.sum
  | _ => none
end
section
variable {K : PySem.W.Frag}
theorem c_sumD : CallP1 K (rSumD K) dSumD := by
  intro T hp F0 H0 F H s v a d Q G hv e q
  cases a with
  | list xs => exact .inl (c_sum (d := d) G hv e q)
  | tuple xs =>
    obtain ⟨bs, e1, rfl⟩ := map_some e
    obtain ⟨p1, vs1, rfl, h1, r1⟩ := hv.tuple
    cases r1.intsV e1
    exact .inr ⟨p1, bs, rfl, St.up G.sub h1, q F H _ G.refl (.int _)⟩
  | _ => cases e
/-! ### min, max of a list of data -/
theorem alikeB_all {xs : List D} (h : alikeB xs = true) : PySem.W.AlikeAll xs := by
  unfold alikeB at h
  rw [Bool.and_eq_true] at h
  refine ⟨fun x hx y hy => List.all_eq_true.mp (List.all_eq_true.mp h.1 x hx) y hy, fun x hx e => ?_⟩
  have z := List.all_eq_true.mp h.2 x hx
  subst e
  cases z
def dBestL (best : D → List D → D) : D → Option D
  | .list (x :: xs) => if alikeB (x :: xs) = true ∧ PyData.depthAll (x :: xs) ≤ 64 then some (best x xs) else none
  | _ => none
theorem c_bestL (best : D → List D → D) : CallP1 K (rBestD K best) (dBestL best) := by
  intro T hp F0 H0 F H s v a d Q G hv e q
  cases a with
  | list ds =>
    cases ds with
    | nil => cases e
    | cons x xs =>
      simp only [dBestL] at e
      split at e
      · rename_i hz
        cases e
        obtain ⟨p1, vs1, rfl, h1, r1⟩ := hv.list G.sub
        refine ⟨p1, vs1, x, xs, rfl, .inl (.inl h1), (RpAll.up G.sub r1).dp, alikeB_all hz.1, hz.2, fun i v hv hb => ?_⟩
        obtain ⟨v2, h2, r2⟩ := r1.at hb
        rw [hv] at h2
        cases h2
        exact q F H v G.refl r2
      · cases e
  | _ => cases e
end
/-! ### from behind -/
def dBackT : D → Option D
  | .tuple xs => some (.tuple xs.reverse)
  | _ => none
def dBackL : D → Option D
  | .list xs => some (.list xs.reverse)
  | _ => none
section
variable {X : Cx} {T : List (Addr × Str)} {EX : String → Hp → Prop} {pos p p1 p2 p3 : Pos}
theorem RpAll.rev {K : PySem.W.Frag} {H : Hp} {vs : List V} {ds : List D} (h : RpAll K H vs ds) : RpAll K H vs.reverse ds.reverse := by
  induction vs generalizing ds with
  | nil => cases h; exact .nil
  | cons v vs ih =>
    cases h with
    | cons a b =>
      rw [List.reverse_cons, List.reverse_cons]
      exact (ih b).app (.cons a .nil)
theorem de_backT {e : Expr} {fa : Rho → M D} {k : Nat} (ha : DB X T EX e fa) : DE X T EX (.Subscript e (.Slice none none (some (.UnaryOp .USub (.Constant (.int 1) k p1) p2)) p3) pos) (f1 dBackT fa) := by
  obtain ⟨_, a1, a2⟩ := ha
  refine ⟨_, pe_backT a1, fun R q => a2 R (q.bind.mono fun d s1 k F1 H1 v g1 w1 => ?_)⟩
  obtain ⟨d', e', k2⟩ := k.lift
  have R1 := R.grow g1
  cases d with
  | tuple xs =>
    cases e'
    obtain ⟨a, vs, rfl, h1, r1⟩ := w1.tuple
    refine ⟨a, vs, rfl, St.up R1.g.sub h1, fun b hn => k2 _ _ _ (g1.trans (R1.g.new hn)) (.tup (.inl (.inl upd_same)) (RpAll.up (fun x u z => ?_) r1.rev))⟩
    rw [upd_ne (ne_of_none (R1.g.sub _ _ z) hn)]
    exact z
  | _ => cases e'
theorem de_backL {e : Expr} {fa : Rho → M D} {k : Nat} (ha : DB X T EX e fa) : DE X T EX (.Subscript e (.Slice none none (some (.UnaryOp .USub (.Constant (.int 1) k p1) p2)) p3) pos) (f1 dBackL fa) := by
  obtain ⟨_, a1, a2⟩ := ha
  refine ⟨_, pe_revL a1, fun R q => a2 R (q.bind.mono fun d s1 k F1 H1 v g1 w1 => ?_)⟩
  obtain ⟨d', e', k2⟩ := k.lift
  have R1 := R.grow g1
  cases d with
  | list xs =>
    cases e'
    obtain ⟨a, vs, rfl, h1, r1⟩ := w1.list R1.g.sub
    refine ⟨a, vs, rfl, .inl (.inl h1), fun b hn => k2 _ _ _ (g1.trans (R1.g.new hn)) (.lst upd_same (RpAll.up (fun x u z => ?_) r1.rev))⟩
    rw [upd_ne (ne_of_none (R1.g.sub _ _ z) hn)]
    exact z
  | _ => cases e'
/-! ### enumerate -/
def enumD : Nat → List D → List D
  | _, [] => []
  | i, d :: ds => .tuple [.int i, d] :: enumD (i + 1) ds
theorem enumD_len : ∀ (ds : List D) (i : Nat), (enumD i ds).length = ds.length
  | [], _ => rfl
  | _ :: ds, i => congrArg Nat.succ (enumD_len ds (i + 1))
theorem enumD_at : ∀ (ds : List D) (i j : Nat) {x : D}, (enumD i ds)[j]? = some x → ∃ d, ds[j]? = some d ∧ x = .tuple [.int ((i + j : Nat) : Int), d]
  | [], _, _, _, h => by cases h
  | d :: ds, i, 0, _, h => by cases h; exact ⟨d, rfl, rfl⟩
  | d :: ds, i, j + 1, _, h => by
    obtain ⟨d', h1, h2⟩ := enumD_at ds (i + 1) j (by simpa [enumD] using h)
    refine ⟨d', by simpa using h1, ?_⟩
    rw [h2]
    have : i + 1 + j = i + (j + 1) := by omega
    rw [this]
theorem wk_enumT {K : PySem.W.Frag} {hp a : Addr} {F : Hp} {vs : List V} {ds : List D} (h : SqT K F a vs) (r : RpAll K F vs ds) : Wk K T hp F (ItEt K a) (enumD 0 ds) := fun F0 H0 F' H' s' ff G => by
  have hs : SqT K H' a vs := St.up G.sub (St.up ff h)
  refine ⟨fun i hi => ⟨vs, vs[i]'(by rw [enumD_len] at hi; rw [r.len]; exact hi), hs, List.getElem?_eq_getElem _⟩, ⟨vs, hs, by rw [enumD_len]; exact r.len⟩, fun i d x H'' e y => ?_⟩
  obtain ⟨P, u, rfl, hn, rfl, y⟩ := y
  obtain ⟨d', e1, rfl⟩ := enumD_at ds 0 i e
  obtain ⟨v, h1, h2⟩ := r.at e1
  have q := y vs hs
  rw [h1] at q
  cases q
  rw [Nat.zero_add]
  refine ⟨_, G.new hn, .tup (.inl (.inl upd_same)) (.cons (.int _) (.cons (Rp.up (fun x u z => ?_) h2) .nil))⟩
  rw [upd_ne (ne_of_none (G.sub _ _ (ff _ _ z)) hn)]
  exact ff _ _ z
theorem wk_enumL {K : PySem.W.Frag} {hp a : Addr} {F : Hp} {vs : List V} {ds : List D} (h : F a = some (.lst vs)) (r : RpAll K F vs ds) : Wk K T hp F (Ite K a) (enumD 0 ds) := fun F0 H0 F' H' s' ff G => by
  have hs : SqL K H' a vs := .inl (.inl (G.sub _ _ (ff _ _ h)))
  refine ⟨fun i hi => ⟨vs, vs[i]'(by rw [enumD_len] at hi; rw [r.len]; exact hi), hs, List.getElem?_eq_getElem _⟩, ⟨vs, hs, by rw [enumD_len]; exact Nat.le_of_eq r.len⟩, fun i d x H'' e y => ?_⟩
  obtain ⟨P, u, rfl, hn, rfl, y⟩ := y
  obtain ⟨d', e1, rfl⟩ := enumD_at ds 0 i e
  obtain ⟨v, h1, h2⟩ := r.at e1
  have q := y vs hs
  rw [h1] at q
  cases q
  rw [Nat.zero_add]
  refine ⟨_, G.new hn, .tup (.inl (.inl upd_same)) (.cons (.int _) (.cons (Rp.up (fun x u z => ?_) h2) .nil))⟩
  rw [upd_ne (ne_of_none (G.sub _ _ (ff _ _ z)) hn)]
  exact ff _ _ z
def dEnumT : D → Option (List D)
  | .tuple xs => some (enumD 0 xs)
  | _ => none
def dEnumL : D → Option (List D)
  | .list xs => some (enumD 0 xs)
  | _ => none
def fIt (h : D → Option (List D)) (fa : Rho → M D) : Rho → M (List D) := fun ρ => do
  let a ← fa ρ
  O.lift (h a)
theorem di_enumT {e : Expr} {es : List Expr} {k0 : Nat} {fa : Rho → M D} (hm : X.mg "enumerate" = none) (hg : Gl X "enumerate") (h : DE X T EX e fa) (he : starEach [e] X.env = [(false, eval e X.env)] := by rfl) : DI X T EX (.Tuple es k0 p2) (.Call (.Name "enumerate" p) [e] [] pos) (fIt dEnumT fa) := by
  obtain ⟨_, a1, a2⟩ := h
  refine ⟨_, pi_enumT hg hm (pa_cons a1 pa_nil he) he, fun R q => a2 R (q.bind.mono fun d s1 k F1 H1 v g1 w1 => ?_)⟩
  obtain ⟨ds, e1, k2⟩ := k.lift
  have R1 := R.grow g1
  cases w1 with
  | tup h1 h2 =>
    cases e1
    exact ⟨_, _, rfl, St.up R1.g.sub h1, k2 F1 H1 _ g1 (wk_enumT h1 h2)⟩
  | _ => cases e1
theorem di_enumL {e : Expr} {es : List Expr} {k0 : Nat} {fa : Rho → M D} (hm : X.mg "enumerate" = none) (hg : Gl X "enumerate") (h : DE X T EX e fa) (he : starEach [e] X.env = [(false, eval e X.env)] := by rfl) : DI X T EX (.Tuple es k0 p2) (.Call (.Name "enumerate" p) [e] [] pos) (fIt dEnumL fa) := by
  obtain ⟨_, a1, a2⟩ := h
  refine ⟨_, pi_enum hg hm (pa_cons a1 pa_nil he) he, fun R q => a2 R (q.bind.mono fun d s1 k F1 H1 v g1 w1 => ?_)⟩
  obtain ⟨ds, e1, k2⟩ := k.lift
  have R1 := R.grow g1
  cases w1 with
  | lst h1 h2 =>
    cases e1
    exact ⟨_, _, rfl, .inl (.inl (R1.g.sub _ _ h1)), k2 F1 H1 _ g1 (wk_enumL h1 h2)⟩
  | _ => cases e1
/-! ### ** -/
def dPow : D → D → Option D
  | .int a, .int b => if 0 ≤ b ∧ b ≤ 1000000 ∧ a.natAbs < 2 ^ 64 then some (.int (a ^ b.toNat)) else none
  | _, _ => none
theorem p_pow {K : PySem.W.Frag} : OpP K (rI CPow fun i j => .int (i ^ j.toNat)) dPow := p_int (C := CPow) (g := fun i j => .int (i ^ j.toNat)) (fun a b d e => by
  unfold dPow at e
  split at e
  · split at e
    · cases e; rename_i hz; exact ⟨_, _, rfl, rfl, hz, rfl⟩
    · cases e
  · cases e) fun i j H Q hc q => ⟨i, j, rfl, rfl, hc, q _ (.int _)⟩
theorem de_pow {a b : Expr} {fa fb : Rho → M D} (ha : DB X T EX a fa) (hb : DB X T EX b fb) : DE X T EX (.BinOp a .Pow b pos) (f2 dPow fa fb) := de_op op_pow p_pow ha hb
end
end Jw
namespace Jw
open PySem PySem.Spec PyProof.Rows L2
/-! ### defs -/
/-- what a def gives, from its body -/
@[simp] def run (f : Rho → M Ctl) (ρ : Rho) : M D := do
  let c ← f ρ
  match c with
  | .rt d => pure d
  | .nx _ => pure .none
  | _ => M.bad
/-- m slots beyond the parameters -/
@[simp] def fDef (m : Nat) (f : Rho → M Ctl) (as : List Sl) : M D := run f (as ++ List.replicate m .un)
/-- a def that may be called by its name: n parameters, worth F -/
structure Cal (P : Program) (w : World) (K : PySem.W.Frag) (mg : Str → Option Value) (base : Heap) (T : List (Addr × Str)) (k n : Nat) (x : Str) (F : List Sl → M D) : Prop where
  ex : ∃ (f : Addr) (fd : FuncData) (ps : List Str), FnOk P w K mg base L2.CX0 k f fd ps (spOf K T noWE n F) ∧ mg x = some (.ref f) ∧ PySem.W.keepIn K (.ref f) = true ∧ Binds K fd ps []
/-- a def of the module as the top has made it -/
structure Df (K : PySem.W.Frag) (mg : Str → Option Value) (x : Str) (st : Stmt) : Prop where
  ex : ∃ (f : Addr) (fd : FuncData), L2.Fun K x x st f fd ∧ mg x = some (.ref f)
theorem df_mk {K : PySem.W.Frag} {mg : Str → Option Value} {h : Heap} {x : Str} {st : Stmt} {f : Addr} {oc : Value} {od an : Option Addr} {osl : Array (Option Value)} {kV doc pm cdv ct : Value} (Y : K.In h) (G : h.Ns mainGlobals mg) (a : PySem.W.nsIn K mainGlobals x = some (some (.ref f)))
    (l : K.lookup f = some ⟨oc, od, .func (PySem.W.fnOf x x (defArgs st) (defBody st) (defScope st) .none kV doc pm an cdv ct), osl⟩) (c : PySem.W.codeIn K cdv x = true) (k : PySem.W.keepIn K (.ref f) = true) : Df K mg x st :=
  ⟨f, _, fun_mk l c k, PySem.W.mg_of Y G a⟩
theorem argsOk_at {K : PySem.W.Frag} {hp : Addr} {F : Hp} : ∀ {vs : List V} {as : List Sl}, ArgsOk K hp F vs as → ∀ (i : Nat) (x : Sl), as[i]? = some x → ∃ v, vs[i]? = some v ∧ ArgOk K hp F v x
  | _, _, .nil, _, _, e => by cases e
  | _, _, .cons h _, 0, _, e => by cases e; exact ⟨_, rfl, h⟩
  | _, _, .cons _ a, i + 1, x, e => by
    obtain ⟨v, h1, h2⟩ := argsOk_at a i x (by simpa using e)
    exact ⟨v, by simpa using h1, h2⟩
theorem argsOk_len {K : PySem.W.Frag} {hp : Addr} {F : Hp} : ∀ {vs : List V} {as : List Sl}, ArgsOk K hp F vs as → vs.length = as.length
  | _, _, .nil => rfl
  | _, _, .cons _ a => congrArg Nat.succ (argsOk_len a)
section
variable {P : Program} {w : World} {K : PySem.W.Frag} {mg : Str → Option Value} {base : Heap} {T : List (Addr × Str)}
/-- the entry of a def -/
theorem rel_start {hp : Addr} {F H : Hp} {N : List Str} {vs : List V} {as : List Sl} {s : HS} {m : Nat} (G : Grow K T hp F H F H s) (a : ArgsOk K hp F vs as) (hN : N.length = vs.length + m) : Rel K T hp F H F H (L2.start N vs) (as ++ List.replicate m .un) s := by
  have hl := argsOk_len a
  have hm : N.length - vs.length = m := by omega
  refine ⟨G, fun i x e => ?_, fun i j xs ys e1 e2 n => ?_, ?_⟩
  · by_cases hi : i < as.length
    · rw [List.getElem?_append_left hi] at e
      obtain ⟨v, h1, h2⟩ := argsOk_at a i x e
      have hs : (L2.start N vs)[i]? = some (some v) := by
        unfold L2.start
        rw [List.getElem?_append_left (by rw [List.length_map, hl]; exact hi), List.getElem?_map, h1]
        rfl
      rw [hs]
      cases x with
      | un => trivial
      | dat d => exact ⟨v, rfl, h2⟩
      | own xs => exact h2.elim
      | hand =>
        have h3 : v = .ref hp := h2
        rw [h3]
        rfl
    · rw [List.getElem?_append_right (by omega), List.getElem?_replicate] at e
      split at e
      · cases e
        trivial
      · cases e
  · by_cases hi : i < as.length
    · rw [List.getElem?_append_left hi] at e1
      obtain ⟨v, _, h2⟩ := argsOk_at a i _ e1
      exact h2.elim
    · rw [List.getElem?_append_right (by omega), List.getElem?_replicate] at e1
      split at e1 <;> cases e1
  · unfold L2.start
    rw [List.length_append, List.length_append, List.length_map, List.length_replicate, List.length_replicate, hl, ← hl, hm]
theorem fn_def {x : Str} {st : Stmt} {f : Addr} {fd : FuncData} {N ps : List Str} {k n m : Nat} {fb : Rho → M Ctl} (Fu : L2.Fun K x x st f fd) (S : FnScope N ps (defScope st)) (hn : ps.length = n) (hm : N.length = n + m)
    (body : ∀ (cdv : Value) (A : Around) (outer : List Env) (s : Shared) (H : Hp) (E : XK), Room k (A.deeper (envOfC x (defScope st) s.heap.objs.size f cdv)) → DSs (cxOf L2.CX0 P w K mg base N x (defScope st) f cdv A outer s H E).nox T noEX (defBody st) fb) :
    FnOk P w K mg base L2.CX0 (k + 1) f fd ps (spOf K T noWE n (fDef m fb)) := by
  refine Fu.ok S (fun vs H Q E h => by rw [h.1, hn]) fun cdv A outer s H vs Q E hr h => ?_
  obtain ⟨t, a, b⟩ := body cdv A outer s H E hr
  refine ⟨t, a, ?_⟩
  obtain ⟨hl, hp, F, as, s1, G, w1, p⟩ := h
  refine b (rel_start G w1 (by rw [hl]; exact hm)) ?_
  refine Post.imp (Post.bind p) (fun c s2 k2 => ?_) fun c s2 z F' H' g => z F' H' g
  cases c with
  | nx ρ => exact fun F' H' σ' _ R => Post.ret k2 F' H' _ R.g .non
  | rt d => exact fun F' H' v g r => Post.ret k2 F' H' v g r
  | bk ρ => exact k2.elim
  | ct ρ => exact k2.elim
theorem cal_mk {x : Str} {st : Stmt} {N ps : List Str} {k n m : Nat} {fb : Rho → M Ctl} (d : Df K mg x st) (S : FnScope N ps (defScope st)) (hn : ps.length = n) (hm : N.length = n + m)
    (hb : ∀ (kV doc pm : Value) (an : Option Addr) (cdv ct : Value) (us : List Value), us.length = ps.length → bindArgs (PySem.W.fnOf x x (defArgs st) (defBody st) (defScope st) .none kV doc pm an cdv ct) ⟨us, []⟩ = pure (ps.zip us))
    (body : ∀ (f : Addr) (cdv : Value) (A : Around) (outer : List Env) (s : Shared) (H : Hp) (E : XK), Room k (A.deeper (envOfC x (defScope st) s.heap.objs.size f cdv)) → DSs (cxOf L2.CX0 P w K mg base N x (defScope st) f cdv A outer s H E).nox T noEX (defBody st) fb) :
    Cal P w K mg base T (k + 1) n x (fDef m fb) := by
  obtain ⟨f, fd, Fu, hm1⟩ := d.ex
  exact ⟨f, fd, ps, fn_def Fu S hn hm fun cdv A outer s H E hr => body f cdv A outer s H E hr, hm1, Fu.kp, Fu.binds hb⟩
end
section
variable {X : Cx} {T : List (Addr × Str)} {pos p : Pos}
theorem de_cal {k j n : Nat} {x : Str} {e : Expr} {es : List Expr} {F : List Sl → M D} {fas : Rho → M (List Sl)} (c : Cal X.prog X.w X.K X.mg X.base T k n x F) (hr : Room j X.A) (hk : k ≤ j) (hg : Gl X x) (ha : DA X T noEX n (e :: es) fas)
    (hdb : (x == ("__debug__" : Str)) = false := by decide) (he : starEach (e :: es) X.env = (false, eval e X.env) :: starEach es X.env := by rfl) (hpl : (backTo pos (starEach es X.env)).any (·.1) = false := by rfl) :
    DE X T noEX (.Call (.Name x p) (e :: es) [] pos) (fCall F fas) := by
  obtain ⟨f, fd, ps, h1, h2, h3, h4⟩ := c.ex
  exact de_call h1 (hr.mono hk) h2 h3 h4 hg ha hdb he hpl
theorem hu64 {A : Around} {k : Nat} (hr : Room k A) : A.units + 64 < cLine := by have := hr.un; omega
theorem hu65 {A : Around} {k : Nat} (hr : Room k A) : A.units + 65 < cLine := by have := hr.un; omega
end
/-! ### targets -/
section
variable {X : Cx} {pos : Pos}
theorem pn (i : Nat) {x : Str} (hN : X.N.Nodup) (hi : X.N[i]? = some x := by rfl) (hx : Loc X.env.scope x := by first | exact Or.inl rfl | exact Or.inr rfl) (hf : X.fn x = true ∨ X.env.scope.names.lookup x = some .local := by first | exact .inl rfl | exact .inr rfl) : PG X (.Name x pos) ((Pat.nm i).g X.K) := by
  unfold Pat.g
  exact pg_name hN hi hx hf
theorem ptn : PGs X [] (Pats.nil.gs X.K) := by
  unfold Pats.gs
  exact pgs_nil
theorem ptc {e : Expr} {es : List Expr} {a : Pat} {as : Pats} (h1 : PG X e (a.g X.K)) (h2 : PGs X es (as.gs X.K)) (hs : (assignEach (e :: es) X.env).map (·.2) = assign e X.env :: (assignEach es X.env).map (·.2) := by rfl) : PGs X (e :: es) ((Pats.cons a as).gs X.K) := by
  unfold Pats.gs
  exact pgs_cons h1 h2 hs
theorem pt {es : List Expr} {k : Nat} {as : Pats} (hc : X.calm = true) (h : PGs X es (as.gs X.K)) (hn : (assignEach es X.env).length = as.size := by rfl) (hst : (assignEach es X.env).findIdx? (·.1) = none := by rfl) : PG X (.Tuple es k pos) ((Pat.tp as).g X.K) := by
  unfold Pat.g
  exact pg_tup hc h hn hst
end
end Jw
namespace Jw
open PySem PySem.Spec PyProof.Rows L2
/-! ### the drawing object is made -/
def absI (i : Int) : Int := if i < 0 then -i else i
def spHand (K : PySem.W.Frag) (c0 : Int) : Sp := fun vs H Q _ => ∃ (a : Addr) (ns : List Int), vs = [.ref a] ∧ SqL K H a (ns.map V.int) ∧ ns.length ≤ 63 ∧
  ∀ (H' : Hp) (c hp : Addr), c ≠ hp → H' c = some (.lst ((ns.map absI).map V.int)) → H' hp = some (.lst [.ref c, .int 0, .int 0, .int (c0 + 7 * (ns.length : Int)), .int 0]) → Q (.ref hp) H'
abbrev rAbsI : List V → Hp → VK → Prop := fun xs H Q => ∃ i, xs = [V.int i] ∧ Q (V.int (if i < 0 then -i else i)) H
abbrev rIntI : List V → Hp → VK → Prop := fun xs H Q => (∃ i, xs = [V.int i] ∧ Q (V.int i) H) ∨ ∃ k, xs = [V.bl k] ∧ Q (V.int (if k = true then 1 else 0)) H
abbrev rLenJ (K : PySem.W.Frag) : List V → Hp → VK → Prop := fun xs H Q => ∃ x n, xs = [x] ∧ LenV K x H n ∧ Q (.int n) H
def tHand (K : PySem.W.Frag) (c0 : Int) : TS :=
  tSeq (tAsg (tLc (iSeqD K (tSl (rSlD K) (tVar 0) tNoPart (tPart (tC (.int 63))))) (gName 2) tYes (tCB rAbsI (tCons (tCB rIntI (tCons (tVar 2) tNil)) tNil)) [2]) (gName 1))
    (tRet (tLst (tCons (tVar 1) (tCons (tC (.int 0)) (tCons (tC (.int 0)) (tCons (tOp (rI0 fun i j => .int (i + j)) (tC (.int c0)) (tOp (rI CMulX fun i j => .int (i * j)) (tC (.int 7)) (tCB (rLenJ K) (tCons (tVar 1) tNil)))) (tCons (tC (.int 0)) tNil)))))))
theorem hand_run {K : PySem.W.Frag} {c0 : Int} {D : Ends} {H : Hp} {vs : List V} {E : XK} (h : spHand K c0 vs H D.rt E) : tHand K c0 D (L2.start ["script", "cells", "cell"] vs) H := by
  obtain ⟨a, ns, rfl, hs, hl, q⟩ := h
  have e0 : L2.start ["script", "cells", "cell"] [V.ref a] = [some (V.ref a), none, none] := rfl
  rw [e0]
  have hcut : cutV (ns.map V.int) none (some 63) = ns.map V.int := by
    have e1 : HT.sIx (ns.map V.int).length (ns.map V.int).length (some 63) = (ns.map V.int).length := by
      rw [show (63 : Int) = ((63 : Nat) : Int) from rfl, HT.sIx_nat, List.length_map]
      omega
    unfold cutV
    rw [e1, HT.sIx_none, List.drop_zero, Nat.sub_zero, List.take_length]
  refine ⟨.ref a, rfl, 63, rfl, .inl ⟨a, ns.map V.int, rfl, hs, fun l hn => ?_⟩⟩
  rw [hcut]
  refine ⟨l, rfl, .inl ⟨⟨_, .inl (.inl upd_same)⟩, fun Dd hD => ?_⟩⟩
  have nl : l ≠ Dd := fun z => by rw [z, upd_same] at hD; cases hD
  refine ⟨fun i m Hi => m = ns.length - i ∧ i ≤ ns.length ∧ Hi l = some (.lst (ns.map V.int)) ∧ Hi Dd = some (.lst ((ns.take i).map fun z => V.int (absI z))), ⟨ns.length, rfl, Nat.zero_le _, by rw [upd_ne nl, upd_same], upd_same⟩, ?_⟩
  rintro i m Hi ⟨rfl, hi, hL, hD2⟩
  by_cases hlt : i < ns.length
  · refine .inr ⟨⟨ns.map V.int, V.int ns[i], .inl (.inl hL), by rw [List.getElem?_map, List.getElem?_eq_getElem hlt]; rfl⟩, fun H' => H' l = some (.lst (ns.map V.int)) ∧ H' Dd = some (.lst ((ns.take (i + 1)).map fun z => V.int (absI z))), fun H' h => ⟨_, by omega, rfl, hlt, h.1, h.2⟩, ?_⟩
    rintro x H' ⟨rfl, hx⟩
    have hx2 := hx _ (.inl (.inl hL))
    rw [List.getElem?_map, List.getElem?_eq_getElem hlt] at hx2
    cases hx2
    refine ⟨rfl, ?_⟩
    unfold tYes
    dsimp only
    rw [if_pos rfl]
    refine ⟨V.int ns[i], rfl, .inl ⟨_, rfl, ⟨_, rfl, _, hD2, ?_, by rw [upd_ne nl]; exact hL, ?_⟩⟩⟩
    · rw [List.length_map, List.length_take, sizeLine_eq]
      omega
    · rw [upd_same, List.take_succ, List.getElem?_eq_getElem hlt, List.map_append]
      rfl
  · have e : i = ns.length := by omega
    subst e
    refine .inl ⟨⟨_, .inl (.inl hL), by rw [List.length_map]; exact Nat.le_refl _⟩, ?_⟩
    rw [List.take_length] at hD2
    have hC : Hi Dd = some (.lst ((ns.map absI).map V.int)) := by
      rw [hD2, List.map_map]
      rfl
    have hlen : (((ns.map absI).map V.int).length : Int) = (ns.length : Int) := by rw [List.length_map, List.length_map]
    refine ⟨V.ref Dd, rfl, V.ref Dd, rfl, V.ref Dd, ((ns.map absI).map V.int).length, rfl, .inl ⟨_, .inl (.inl hC), rfl⟩, 7, _, rfl, rfl, ?_, c0, _, rfl, rfl, by rw [sizeLine_eq]; exact (by decide : (5 : Nat) ≤ 16777216), fun p hn => ?_⟩
    · rw [hlen]
      refine mulX_of ?_
      have h7 : (7 : Int).natAbs.log2 = 2 := by decide
      have h8 : (ns.length : Int).natAbs.log2 ≤ ns.length := by
        rw [Int.natAbs_natCast]
        exact Nat.log2_le_self _
      omega
    · rw [hlen]
      have ne : Dd ≠ p := fun z => by rw [← z, hC] at hn; cases hn
      exact q _ Dd p ne (by rw [upd_ne ne]; exact hC) upd_same
theorem hand_ok {P : Program} {w : World} {K : PySem.W.Frag} {mg : Str → Option Value} {base : Heap} {x : Str} {st : Stmt} {f : Addr} {fd : FuncData} {k : Nat} {c0 : Int} (Fu : L2.Fun K x x st f fd) (S : FnScope ["script", "cells", "cell"] ["script"] (defScope st))
    (body : ∀ (cdv : Value) (A : Around) (outer : List Env) (s : Shared) (H : Hp) (E : XK), Room k (A.deeper (envOfC x (defScope st) s.heap.objs.size f cdv)) → PSs (cxOf L2.CX0 P w K mg base ["script", "cells", "cell"] x (defScope st) f cdv A outer s H E).nox (defBody st) (tHand K c0)) :
    FnOk P w K mg base L2.CX0 (k + 1) f fd ["script"] (spHand K c0) :=
  Fu.ok S (fun vs H Q E h => by obtain ⟨a, ns, rfl, _⟩ := h; rfl) fun cdv A outer s H vs Q E hr h => ⟨_, body cdv A outer s H E hr, hand_run (D := { nx := fun _ H' => Q .non H', rt := Q }) h⟩
/-- a def whose promise is not the layer's -/
structure CalH (P : Program) (w : World) (K : PySem.W.Frag) (mg : Str → Option Value) (base : Heap) (k : Nat) (x : Str) (c0 : Int) : Prop where
  ex : ∃ (f : Addr) (fd : FuncData) (ps : List Str), FnOk P w K mg base L2.CX0 k f fd ps (spHand K c0) ∧ mg x = some (.ref f) ∧ PySem.W.keepIn K (.ref f) = true ∧ Binds K fd ps []
theorem CalH.mono {P : Program} {w : World} {K : PySem.W.Frag} {mg : Str → Option Value} {base : Heap} {j k : Nat} {x : Str} {c0 : Int} (c : CalH P w K mg base j x c0) (h : j ≤ k) : CalH P w K mg base k x c0 :=
  let ⟨f, fd, ps, h1, h2⟩ := c.ex; ⟨f, fd, ps, h1.mono h, h2⟩
/-! ### the law itself -/
def spLaw (K : PySem.W.Frag) (c0 : Int) (m : Nat) (fb : Rho → M Ctl) : Sp := fun vs H Q _ => ∃ (a : Addr) (ns : List Int), vs = [.ref a] ∧ SqL K H a (ns.map V.int) ∧ ns.length ≤ 63 ∧
  Post (fDef m fb [.un, .hand] ⟨ns.map absI, 0, 0, c0 + 7 * (ns.length : Int), 0⟩) (fun d _ => d = .bool true) (fun _ _ => False) ∧ ∀ H', Q (.bl true) H'
section
variable {P : Program} {w : World} {K : PySem.W.Frag} {mg : Str → Option Value} {base : Heap}
theorem law_ok {x xh : Str} {st s1 : Stmt} {rest : List Stmt} {p0 p1 p2 : Pos} {f : Addr} {fd : FuncData} {N : List Str} {k m : Nat} {c0 : Int} {fb : Rho → M Ctl} (Fu : L2.Fun K x x st f fd) (S : FnScope N ["script"] (defScope st)) (hm : N.length = 2 + m)
    (c : CalH P w K mg base k xh c0) (hb : defBody st = s1 :: rest)
    (first : ∀ (cdv : Value) (A : Around) (outer : List Env) (s : Shared) (H : Hp) (E : XK) (te : TE), PE (cxOf L2.CX0 P w K mg base N x (defScope st) f cdv A outer s H E).nox (.Call (.Name xh p0) [.Name "script" p1] [] p2) te →
      PS (cxOf L2.CX0 P w K mg base N x (defScope st) f cdv A outer s H E).nox s1 (tAsg te (gName 1)))
    (call : ∀ (cdv : Value) (A : Around) (outer : List Env) (s : Shared) (H : Hp) (E : XK) (f' : Addr) (fd' : FuncData) (ps' : List Str), Room k (A.deeper (envOfC x (defScope st) s.heap.objs.size f cdv)) → FnOk P w K mg base L2.CX0 k f' fd' ps' (spHand K c0) → mg xh = some (.ref f') → PySem.W.keepIn K (.ref f') = true → Binds K fd' ps' [] →
      PE (cxOf L2.CX0 P w K mg base N x (defScope st) f cdv A outer s H E).nox (.Call (.Name xh p0) [.Name "script" p1] [] p2) (tCall (spHand K c0) [] E0 (tCons (tVar 0) tNil)))
    (body : ∀ (cdv : Value) (A : Around) (outer : List Env) (s : Shared) (H : Hp) (E : XK), Room k (A.deeper (envOfC x (defScope st) s.heap.objs.size f cdv)) → DSs (cxOf L2.CX0 P w K mg base N x (defScope st) f cdv A outer s H E).nox [] noEX rest fb) :
    FnOk P w K mg base L2.CX0 (k + 1) f fd ["script"] (spLaw K c0 m fb) := by
  obtain ⟨f', fd', ps', c1, c2, c3, c4⟩ := c.ex
  refine Fu.ok S (fun vs H Q E h => by obtain ⟨a, ns, rfl, _⟩ := h; rfl) fun cdv A outer s H vs Q E hr h => ?_
  obtain ⟨t, b1, b2⟩ := body cdv A outer s H E hr
  rw [hb]
  refine ⟨_, pss_cons (first cdv A outer s H E _ (call cdv A outer s H E f' fd' ps' hr c1 c2 c3 c4)) b1, ?_⟩
  obtain ⟨a, ns, rfl, hs, hl, hp, hq⟩ := h
  have e0 : L2.start N [V.ref a] = some (V.ref a) :: none :: List.replicate m none := by
    unfold L2.start
    rw [List.map_cons, List.map_nil, List.length_singleton, show N.length - 1 = m + 1 by omega, List.replicate_succ]
    rfl
  rw [e0]
  refine ⟨.ref a, rfl, a, ns, rfl, hs, hl, fun H' c hpA ne hc hh => ?_⟩
  refine b2 (hp := hpA) (F0 := upd (fun _ => none) c (.lst ((ns.map absI).map V.int))) (H0 := H') (F := upd (fun _ => none) c (.lst ((ns.map absI).map V.int))) (ρ := [.un, .hand] ++ List.replicate m .un) (s := ⟨ns.map absI, 0, 0, c0 + 7 * (ns.length : Int), 0⟩) ?_ ?_
  · have nF : upd (fun _ => none) c (HO.lst ((ns.map absI).map V.int)) hpA = none := by rw [upd_ne ne.symm]
    refine ⟨⟨fun _ _ z => z, fun _ _ z => .inl z, fun _ _ z _ => z, fun x o z => ?_, fun q hq => (nomatch hq), ⟨c, nF, hh, upd_same⟩⟩, fun i x e => ?_, fun i j xs ys e1 e2 n => ?_, ?_⟩
    · by_cases q : x = c
      · rw [q, upd_same] at z
        cases z
        rw [q]
        exact hc
      · rw [upd_ne q] at z
        cases z
    · rcases i with _ | _ | i
      · cases e
        trivial
      · cases e
        rfl
      · have e' : (List.replicate m Sl.un)[i]? = some x := e
        rw [List.getElem?_replicate] at e'
        split at e'
        · cases e'
          trivial
        · cases e'
    · rcases i with _ | _ | i
      · cases e1
      · cases e1
      · have e' : (List.replicate m Sl.un)[i]? = some (.own xs) := e1
        rw [List.getElem?_replicate] at e'
        split at e' <;> cases e'
    · simp
  · refine Post.imp (Post.bind hp) (fun c2 s2 k2 => ?_) fun c2 s2 z => z.elim
    cases c2 with
    | nx ρ =>
      have z : (PyData.none : D) = .bool true := Post.ret k2
      cases z
    | rt d =>
      intro F' H2 v g r
      have z : d = .bool true := Post.ret k2
      subst z
      cases r
      exact hq H2
    | bk ρ => exact k2.elim
    | ct ρ => exact k2.elim
end
end Jw
namespace Jw
open PySem PySem.Spec PyProof.Rows L2
/-! ### short words for the printing program -/
section
variable {X : Cx} {T : List (Addr × Str)} {EX : String → Hp → Prop} {pos p p2 : Pos} {e e2 : Expr} {fa fb : Rho → M D}
theorem e_glob {x : Str} {i : Int} (hm : ∃ u, X.mg x = some (.int i u)) (hg : Gl X x := by rfl) (hd : (x == ("__debug__" : Str)) = false := by decide) : DE X T EX (.Name x pos) (fun _ => pure (.int i)) :=
  let ⟨_, h⟩ := hm; de_glob hg h hd
theorem e_len (hm : X.mg "len" = none) (ha : DB X T EX e fa) (hg : Gl X "len" := by rfl) (he : starEach [e] X.env = (false, eval e X.env) :: starEach [] X.env := by rfl) : DE X T EX (.Call (.Name "len" p) [e] [] pos) (f1 dLen fa) :=
  de_b1 call_len c_len boot_len (by decide) (by decide) hg hm ha he
theorem e_abs (hm : X.mg "abs" = none) (ha : DB X T EX e fa) (hg : Gl X "abs" := by rfl) (he : starEach [e] X.env = (false, eval e X.env) :: starEach [] X.env := by rfl) : DE X T EX (.Call (.Name "abs" p) [e] [] pos) (f1 dAbs fa) :=
  de_b1 call_abs c_abs boot_abs (by decide) (by decide) hg hm ha he
theorem e_int (hm : X.mg "int" = none) (ha : DB X T EX e fa) (hg : Gl X "int" := by rfl) (he : starEach [e] X.env = (false, eval e X.env) :: starEach [] X.env := by rfl) : DE X T EX (.Call (.Name "int" p) [e] [] pos) (f1 dInt fa) :=
  de_ty1 call_int1 c_int boot_int (by decide) (by decide) hg hm ha he
theorem e_tuple (hm : X.mg "tuple" = none) (ha : DB X T EX e fa) (hg : Gl X "tuple" := by rfl) (he : starEach [e] X.env = (false, eval e X.env) :: starEach [] X.env := by rfl) : DE X T EX (.Call (.Name "tuple" p) [e] [] pos) (f1 dTuple fa) :=
  de_ty1 call_tuple_of c_tuple boot_tuple (by decide) (by decide) hg hm ha he
theorem l_list (hm : X.mg "list" = none) (ha : DB X T EX e fa) (hg : Gl X "list" := by rfl) (he : starEach [e] X.env = (false, eval e X.env) :: starEach [] X.env := by rfl) : DL X T EX (.Call (.Name "list" p) [e] [] pos) (f1L dListL fa) :=
  dl_ty1 call_list_of c_list boot_list (by decide) (by decide) hg hm ha he
theorem e_all (hc : X.calm = true) (hm : X.mg "all" = none) (ha : DB X T EX e fa) (hg : Gl X "all" := by rfl) (he : starEach [e] X.env = (false, eval e X.env) :: starEach [] X.env := by rfl) : DE X T EX (.Call (.Name "all" p) [e] [] pos) (f1 dAll fa) :=
  de_b1 (cr_all hc) c_all boot_all (by decide) (by decide) hg hm ha he
theorem e_any (hc : X.calm = true) (hm : X.mg "any" = none) (ha : DB X T EX e fa) (hg : Gl X "any" := by rfl) (he : starEach [e] X.env = (false, eval e X.env) :: starEach [] X.env := by rfl) : DE X T EX (.Call (.Name "any" p) [e] [] pos) (f1 dAny fa) :=
  de_b1 (cr_any hc) c_any boot_any (by decide) (by decide) hg hm ha he
theorem e_sum (hc : X.calm = true) (hm : X.mg "sum" = none) (ha : DB X T EX e fa) (hg : Gl X "sum" := by rfl) (he : starEach [e] X.env = (false, eval e X.env) :: starEach [] X.env := by rfl) : DE X T EX (.Call (.Name "sum" p) [e] [] pos) (f1 dSumD fa) :=
  de_b1 (cr_sumD hc) c_sumD boot_sum (by decide) (by decide) hg hm ha he
theorem e_min {k : Nat} (hc : X.calm = true) (hr : Room k X.A) (hm : X.mg "min" = none) (ha : DB X T EX e fa) (hg : Gl X "min" := by rfl) (he : starEach [e] X.env = (false, eval e X.env) :: starEach [] X.env := by rfl) : DE X T EX (.Call (.Name "min" p) [e] [] pos) (f1 (dBestL PySem.W.minD) fa) :=
  de_b1 (cr_minD hc (hu65 hr)) (c_bestL _) boot_min (by decide) (by decide) hg hm ha he
theorem e_max {k : Nat} (hc : X.calm = true) (hr : Room k X.A) (hm : X.mg "max" = none) (ha : DB X T EX e fa) (hg : Gl X "max" := by rfl) (he : starEach [e] X.env = (false, eval e X.env) :: starEach [] X.env := by rfl) : DE X T EX (.Call (.Name "max" p) [e] [] pos) (f1 (dBestL PySem.W.maxD) fa) :=
  de_b1 (cr_maxD hc (hu65 hr)) (c_bestL _) boot_max (by decide) (by decide) hg hm ha he
theorem e_max2 (hc : X.calm = true) (hm : X.mg "max" = none) (ha : DB X T EX e fa) (hb : DB X T EX e2 fb) (hg : Gl X "max" := by rfl) (he : starEach [e, e2] X.env = (false, eval e X.env) :: starEach [e2] X.env := by rfl) (he2 : starEach [e2] X.env = (false, eval e2 X.env) :: starEach [] X.env := by rfl)
    (hpl : (backTo pos (starEach [e2] X.env)).any (·.1) = false := by rfl) : DE X T EX (.Call (.Name "max" p) [e, e2] [] pos) (f2 dMax2 fa fb) :=
  de_b2 (call_max2 hc) c_max2 boot_max (by decide) (by decide) hg hm ha hb he he2 hpl
theorem e_min2 (hc : X.calm = true) (hm : X.mg "min" = none) (ha : DB X T EX e fa) (hb : DB X T EX e2 fb) (hg : Gl X "min" := by rfl) (he : starEach [e, e2] X.env = (false, eval e X.env) :: starEach [e2] X.env := by rfl) (he2 : starEach [e2] X.env = (false, eval e2 X.env) :: starEach [] X.env := by rfl)
    (hpl : (backTo pos (starEach [e2] X.env)).any (·.1) = false := by rfl) : DE X T EX (.Call (.Name "min" p) [e, e2] [] pos) (f2 dMin2 fa fb) :=
  de_b2 (call_min2 hc) c_min2 boot_min (by decide) (by decide) hg hm ha hb he he2 hpl
theorem e_isi (Tx : Str) {Tn : String} (hT : bootBuiltins Tx = some (.type Tn)) (hTn : Tx ≠ "__name__") (hTd : (Tx == ("__debug__" : Str)) = false) (hm : X.mg "isinstance" = none) (hmT : X.mg Tx = none) (ha : DB X T EX e fa) (hg : Gl X "isinstance" := by rfl) (hgT : Gl X Tx := by rfl)
    (he : starEach [e, .Name Tx p2] X.env = (false, eval e X.env) :: starEach [.Name Tx p2] X.env := by rfl) : DE X T EX (.Call (.Name "isinstance" p) [e, .Name Tx p2] [] pos) (f1 (dIsi Tn) fa) :=
  de_isi boot_isinstance (by decide) (by decide) hT hTn hTd hg hm hgT hmT ha he
theorem evt_test {K : PySem.W.Frag} {te : TE} {f : Rho → M D} (h : EvE K T EX te f) : EvT K T EX (tTest te) (fTest f) := fun R q => h R (q.bind.mono fun d s1 k F1 H1 v g r => by
  obtain ⟨b, e1, k2⟩ := k.lift
  cases dBool_is e1
  cases r
  exact ⟨b, rfl, k2 F1 H1 g⟩)
theorem dt_cmp {op : CmpOp} {r : R2} {h : D → D → Option D} (ho : OpR X (compareOp op) r) (hr : OpP X.K r h) (hm : behindInMarks op e2 = false) (ha : DB X T EX e fa) (hb : DB X T EX e2 fb) : DT X T EX (.Compare e [op] [e2] pos) (fTest (f2 h fa fb)) :=
  let ⟨_, a1, a2⟩ := ha; let ⟨_, b1, b2⟩ := hb; ⟨_, pt_cmpR ho a1 b1 hm, evt_test (ev_op a2 b2 hr)⟩
theorem dt_chain {c : Expr} {fc : Rho → M D} {op op' : CmpOp} {r r' : R2} {h h' : D → D → Option D} (ho : OpR X (compareOp op) r) (ho' : OpR X (compareOp op') r') (hr : OpP X.K r h) (hr' : OpP X.K r' h') (ha : DB X T EX e fa) (hb : DB X T EX e2 fb) (hc : DB X T EX c fc)
    (hm : lastMarks [op, op'] [e2, c] = false := by rfl) : DT X T EX (.Compare e [op, op'] [e2, c] pos) (fTest (fChain h h' fa fb fc)) :=
  let ⟨_, a1, a2⟩ := ha; let ⟨_, b1, b2⟩ := hb; let ⟨_, c1, c2⟩ := hc; ⟨_, L2.pt_chain ho ho' a1 b1 c1 hm, evt_test (ev_chain hr hr' a2 b2 c2)⟩
/-! ### while, with as many turns as the numbers in the names let one expect -/
def szD : D → Nat
  | .int i => i.natAbs
  | _ => 0
def fuelR : Rho → Nat
  | [] => 1000
  | .dat d :: r => szD d + fuelR r
  | _ :: r => fuelR r
def fWhile (t : Rho → M Bool) (body : Rho → M Ctl) : Rho → M Ctl := fun ρ => whileL t body (fuelR ρ) ρ
theorem ds_whileF {c : Expr} {body : List Stmt} {t : Rho → M Bool} {fb : Rho → M Ctl} (hp : PassesOwn (model X.prog X.w) X.A X.env X.xe) (hc : DT X T EX c t) (hb : DSs X T EX body fb) : DS X T EX (.While c body [] pos) (fWhile t fb) := by
  obtain ⟨_, c1, c2⟩ := hc
  obtain ⟨_, b1, b2⟩ := hb
  refine ⟨_, ps_while hp c1 b1, fun {hp F0 H0 F H σ ρ s E} R q => ?_⟩
  exact (evs_while (fuelR ρ) c2 b2) R q
end
/-! ### the scope of a comprehension, looked at -/
def blkC (N : List Str) (sc scope : Scope) (own : List (Str × Nat)) : Bool :=
  decide (scope.kind = .function) && scope.names.all (fun y => decide (scope.names.lookup y.1 = some y.2)) && own.all (fun q => decide (N[q.2]? = some q.1)) &&
    scope.names.all (fun y => !decide (y.2 = .free) || (decide (sc.names.lookup y.1 = some .cell) || decide (sc.names.lookup y.1 = some .free))) && scope.names.all fun y => !(decide (y.2 = .local) || decide (y.2 = .cell)) || (decide (y.1 ∈ own.map (·.1)) || decide (y.1 ∉ N))
theorem blk_by {N : List Str} {sc scope : Scope} {own : List (Str × Nat)} (h : blkC N sc scope own = true) : BlkOk N sc scope own := by
  unfold blkC at h
  simp only [Bool.and_eq_true, List.all_eq_true, decide_eq_true_eq, Bool.or_eq_true, Bool.not_eq_true', decide_eq_false_iff_not] at h
  obtain ⟨⟨⟨⟨h1, h2⟩, h3⟩, h4⟩, h5⟩ := h
  refine ⟨h1, h2, h3, fun y hy e => ?_, fun y hy e => ?_⟩
  · exact (h4 y hy).resolve_left fun z => z e
  · refine (h5 y hy).resolve_left fun z => ?_
    rw [Bool.or_eq_false_iff] at z
    rcases e with e | e
    · exact of_decide_eq_false z.1 e
    · exact of_decide_eq_false z.2 e
end Jw
namespace Jw
open PySem
/-! ### reckoning with worths -/
@[simp] theorem pb {α β : Type} (a : α) (f : α → M β) : ((pure a : M α) >>= f) = f a := rfl
@[simp] theorem bb {α β γ : Type} (m : M α) (f : α → M β) (g : β → M γ) : ((m >>= f) >>= g) = (m >>= fun a => f a >>= g) := by
  funext s
  show ((m s).bind f).bind g = (m s).bind fun a => f a >>= g
  cases m s <;> rfl
@[simp] theorem bp {α : Type} (m : M α) : (m >>= fun a => pure a) = m := by
  funext s
  show (m s).bind (fun a => M.ret a) = m s
  cases m s <;> rfl
@[simp] theorem badb {α β : Type} (f : α → M β) : ((M.bad : M α) >>= f) = M.bad := rfl
theorem raiseb {α β : Type} (c : String) (f : α → M β) : ((M.raise c : M α) >>= f) = M.raise c := rfl
@[simp] theorem ls {α : Type} (a : α) : (O.lift (some a) : M α) = pure a := rfl
@[simp] theorem ln {α : Type} : (O.lift (none : Option α) : M α) = M.bad := rfl
theorem iteb {α β : Type} (c : Prop) [Decidable c] (m n : M α) (f : α → M β) : ((if c then m else n) >>= f) = if c then m >>= f else n >>= f := by
  split <;> rfl
/-- it ends well, with P -/
def Tr {α : Type} (r : Res α) (P : α → HS → Prop) : Prop := Post r P fun _ _ => False
theorem Tr.bind {α β : Type} {m : M α} {f : α → M β} {s : HS} {P : β → HS → Prop} (h : Tr (m s) fun a s' => Tr (f a s') P) : Tr ((m >>= f) s) P := by
  have e : (m >>= f) s = (m s).bind f := rfl
  rw [e]
  cases q : m s with
  | ok a s' => rw [q] at h; exact h
  | exc c s' => rw [q] at h; exact h.elim
  | bad => rw [q] at h; exact h.elim
theorem Tr.imp {α : Type} {r : Res α} {P P' : α → HS → Prop} (h : Tr r P) (k : ∀ a s, P a s → P' a s) : Tr r P' := Post.mono h k
theorem Tr.ret {α : Type} {a : α} {s : HS} {P : α → HS → Prop} (h : P a s) : Tr ((pure a : M α) s) P := h
theorem Tr.andThen {α β : Type} {m : M α} {f : α → M β} {s : HS} {P : β → HS → Prop} {R : α → HS → Prop} (h : Tr (m s) R) (k : ∀ a s', R a s' → Tr (f a s') P) : Tr ((m >>= f) s) P := Tr.bind (h.imp k)
@[simp] theorem rep_s {α : Type} (n : Nat) (a : α) : List.replicate (n + 1) a = a :: List.replicate n a := rfl
@[simp] theorem rep_0 {α : Type} (a : α) : List.replicate 0 a = [] := rfl
/-! places in short lists -/
theorem at0 {α : Type} (a : α) (r : List α) : L2.atI (a :: r) 0 = some a := by
  unfold L2.atI L2.ixN
  simp
theorem get0 (d : Sl) (ρ : Rho) : (d :: ρ)[0]? = some d := rfl
theorem getS (d : Sl) (ρ : Rho) (i : Nat) : (d :: ρ)[i + 1]? = ρ[i]? := by simp
/-! small numbers -/
def Lg (x : Int) : Nat := x.natAbs.log2
theorem Lg_le {x : Int} {k : Nat} (h : x.natAbs < 2 ^ (k + 1)) : Lg x ≤ k := by
  unfold Lg
  by_cases h0 : x.natAbs = 0
  · rw [h0]
    exact Nat.zero_le _
  · exact Nat.le_of_lt_succ ((Nat.log2_lt h0).mpr h)
theorem lt_Lg (x : Int) : x.natAbs < 2 ^ (Lg x + 1) := by
  by_cases h0 : x.natAbs = 0
  · rw [h0]
    exact Nat.two_pow_pos _
  · exact (Nat.log2_lt h0).mp (Nat.lt_succ_self _)
theorem Lg_mul (x y : Int) : Lg (x * y) ≤ Lg x + Lg y + 1 := by
  refine Lg_le ?_
  rw [Int.natAbs_mul]
  have h1 := lt_Lg x
  have h2 := lt_Lg y
  have e : 2 ^ (Lg x + Lg y + 1 + 1) = 2 ^ (Lg x + 1) * 2 ^ (Lg y + 1) := by
    rw [← Nat.pow_add]
    congr 1
    omega
  rw [e]
  exact Nat.lt_of_le_of_lt (Nat.mul_le_mul_left _ (Nat.le_of_lt h2)) (Nat.mul_lt_mul_of_pos_right h1 (Nat.two_pow_pos _))
theorem Lg_add (x y : Int) : Lg (x + y) ≤ max (Lg x) (Lg y) + 1 := by
  refine Lg_le ?_
  have h1 := lt_Lg x
  have h2 := lt_Lg y
  have h3 : 2 ^ (Lg x + 1) ≤ 2 ^ (max (Lg x) (Lg y) + 1) := Nat.pow_le_pow_right (by omega) (by omega)
  have h4 : 2 ^ (Lg y + 1) ≤ 2 ^ (max (Lg x) (Lg y) + 1) := Nat.pow_le_pow_right (by omega) (by omega)
  have e : 2 ^ (max (Lg x) (Lg y) + 1 + 1) = 2 ^ (max (Lg x) (Lg y) + 1) * 2 := Nat.pow_succ _ _
  have := Int.natAbs_add_le x y
  omega
theorem Lg_neg (x : Int) : Lg (-x) = Lg x := by unfold Lg; rw [Int.natAbs_neg]
theorem Lg_sub (x y : Int) : Lg (x - y) ≤ max (Lg x) (Lg y) + 1 := by
  rw [Int.sub_eq_add_neg, ← Lg_neg y]
  exact Lg_add x (-y)
theorem Lg_mono {x y : Int} (h : x.natAbs ≤ y.natAbs) : Lg x ≤ Lg y := Lg_le (Nat.lt_of_le_of_lt h (lt_Lg y))
theorem Lg_div (x : Int) {y : Int} (h : 0 < y) : Lg (x / y) ≤ Lg x + 1 := by
  refine Lg_le ?_
  have h1 := lt_Lg x
  have h2 : (x / y).natAbs ≤ x.natAbs + 1 := by
    by_cases hx : 0 ≤ x
    · have a : 0 ≤ x / y := Int.ediv_nonneg hx (Int.le_of_lt h)
      have b : x / y ≤ x := Int.ediv_le_self _ hx
      omega
    · have a : x / y < 0 := Int.ediv_neg_of_neg_of_pos (by omega) h
      have b : x ≤ x / y := by
        have z : x * 1 ≤ (x / y) * 1 ∨ ¬ (x * 1 ≤ (x / y) * 1) := Classical.em _
        have c : (x / y) * y ≤ x := Int.ediv_mul_le x (by omega)
        have d : x < (x / y + 1) * y := Int.lt_ediv_add_one_mul_self x h
        refine Int.le_ediv_of_mul_le h ?_
        have : x * y ≤ x * 1 := Int.mul_le_mul_of_nonpos_left (by omega) (by omega)
        omega
      omega
  have e : 2 ^ (Lg x + 1 + 1) = 2 ^ (Lg x + 1) * 2 := Nat.pow_succ _ _
  have := Nat.two_pow_pos (Lg x)
  have e2 : 2 ^ (Lg x + 1) = 2 ^ Lg x * 2 := Nat.pow_succ _ _
  omega
theorem mulI {a b : Int} (h : Lg a + Lg b < 134000000) : dMul (.int a) (.int b) = some (.int (a * b)) := by
  unfold dMul
  exact if_pos h
theorem divI {a b : Int} (h : 0 < b) (h2 : Lg b < 9000) : dDiv (.int a) (.int b) = some (.int (a / b)) := by
  unfold dDiv
  exact if_pos ⟨h, h2⟩
theorem modI {a b : Int} (h : 0 < b) : dMod (.int a) (.int b) = some (.int (a % b)) := by
  unfold dMod
  show (if b ≠ 0 then _ else _) = _
  rw [if_pos (by omega), Int.fmod_eq_emod_of_nonneg a (by omega)]
end Jw
namespace Jw
open PySem
theorem sb {α β : Type} (m : M α) (f : α → M β) (s : HS) : (m >>= f) s = (m s).bind f := rfl
theorem sp {α : Type} (a : α) (s : HS) : (pure a : M α) s = .ok a s := rfl
theorem sl {α : Type} (a : α) (s : HS) : (O.lift (some a) : M α) s = .ok a s := rfl
theorem sk {α β : Type} (a : α) (s : HS) (f : α → M β) : (Res.ok a s).bind f = f a s := rfl
theorem si {α : Type} (c : Prop) [Decidable c] (m n : M α) (s : HS) : (if c then m else n) s = if c then m s else n s := by split <;> rfl
@[simp] theorem eqI (a b : Int) : dEq (.int a) (.int b) = some (.bool (decide (a = b))) := by
  unfold dEq
  rw [if_pos ⟨rfl, rfl⟩]
  congr 2
@[simp] theorem neI (a b : Int) : dNe (.int a) (.int b) = some (.bool (!decide (a = b))) := by
  unfold dNe
  rw [if_pos ⟨rfl, rfl⟩]
  congr 2
@[simp] theorem addI (a b : Int) : dAdd (.int a) (.int b) = some (.int (a + b)) := rfl
@[simp] theorem subI (a b : Int) : dSub (.int a) (.int b) = some (.int (a - b)) := rfl
@[simp] theorem ltI (a b : Int) : dLt (.int a) (.int b) = some (.bool (decide (a < b))) := rfl
@[simp] theorem leI (a b : Int) : dLe (.int a) (.int b) = some (.bool (decide (a ≤ b))) := rfl
@[simp] theorem gtI (a b : Int) : dGt (.int a) (.int b) = some (.bool (decide (b < a))) := rfl
@[simp] theorem geI (a b : Int) : dGe (.int a) (.int b) = some (.bool (decide (b ≤ a))) := rfl
@[simp] theorem intI (a : Int) : dInt (.int a) = some (.int a) := rfl
@[simp] theorem lenL (xs : List D) : dLen (.list xs) = some (.int xs.length) := rfl
@[simp] theorem boolB (b : Bool) : dBool (.bool b) = some b := rfl
theorem g0 (s : HS) : hGet 0 s = .ok (.list (s.cells.map PyData.int)) s := rfl
theorem g1 (s : HS) : hGet 1 s = .ok (.int s.nxt) s := rfl
theorem g2 (s : HS) : hGet 2 s = .ok (.int s.rest) s := rfl
theorem g3 (s : HS) : hGet 3 s = .ok (.int s.mix) s := rfl
theorem g4 (s : HS) : hGet 4 s = .ok (.int s.cnt) s := rfl
theorem u1 (n : Int) (ρ : Rho) (s : HS) : hSet 1 n ρ s = .ok (.nx ρ) { s with nxt := n } := rfl
theorem u2 (n : Int) (ρ : Rho) (s : HS) : hSet 2 n ρ s = .ok (.nx ρ) { s with rest := n } := rfl
theorem u3 (n : Int) (ρ : Rho) (s : HS) : hSet 3 n ρ s = .ok (.nx ρ) { s with mix := n } := rfl
theorem u4 (n : Int) (ρ : Rho) (s : HS) : hSet 4 n ρ s = .ok (.nx ρ) { s with cnt := n } := rfl
/-! ### the drawing object's own def -/
def D_a : Rho → M Ctl := fIfS (fAndT (fTest (f2 dEq (fHix 0 2) (fun _ => pure (.int 0)))) (fTest (f2 dLt (fHix 0 1) (f1 dLen (fHix 0 0))))) (fSeq (fSet 2 (nDat (f2 dIx (fHix 0 0) (fHix 0 1))))
  (fSeq (fHput 0 1 (f2 dAdd (fHix 0 1) (fun _ => pure (.int 1))))
  (fSeq (fHput 0 3 (f2 dMod (f1 dInt (f2 dAdd (f2 dAdd (f2 dMul (fHix 0 3) (fun _ => pure (.int 69621))) (f2 dMul (rdat 2) (fun _ => pure (.int 40692)))) (fun _ => pure (.int 29)))) (fun _ => pure (.int 2147483629))))
  (fIfS (fTest (f2 dGe (rdat 2) (f2 dPow (fun _ => pure (.int 10)) (fun _ => pure (.int 18))))) (fHput 0 2 (rdat 2)) fSkip)))) fSkip
def D_b : Rho → M Ctl := fIfS (fTest (f2 dGt (fHix 0 2) (fun _ => pure (.int 0)))) (fSeq (fSet 3 (nDat (f2 dMod (f1 dInt (fHix 0 2)) (rdat 1))))
  (fSeq (fHput 0 2 (f2 dDiv (fHix 0 2) (rdat 1)))
  (fRet (rdat 3)))) fSkip
def D_c : Rho → M Ctl := fSeq (fHput 0 4 (f2 dAdd (fHix 0 4) (fun _ => pure (.int 1))))
  (fSeq (fSet 4 (nDat (f2 dMod (f1 dInt (f2 dMul (f1 dInt (f2 dAdd (fHix 0 3) (f2 dMul (fun _ => pure (.int 7919)) (fHix 0 4)))) (fun _ => pure (.int 48271)))) (fun _ => pure (.int 2147483647)))))
  (fSeq (fSet 4 (nDat (f2 dMod (f1 dInt (f2 dMul (rdat 4) (f2 dAdd (f2 dDiv (rdat 4) (fun _ => pure (.int 1009))) (fun _ => pure (.int 69621))))) (fun _ => pure (.int 2147483647)))))
  (fSeq (fSet 4 (nDat (f2 dMod (f1 dInt (f2 dMul (rdat 4) (f2 dAdd (f2 dDiv (rdat 4) (fun _ => pure (.int 2003))) (fun _ => pure (.int 40014))))) (fun _ => pure (.int 2147483563)))))
  (fRet (f2 dMod (f1 dInt (f2 dDiv (rdat 4) (fun _ => pure (.int 16)))) (rdat 1))))))
def F__law_draw : List Sl → M D := fDef 3 (fSeq D_a (fSeq D_b D_c))
/-- the drawing object is sound, and at most n numbers were mixed -/
structure Wf (n : Nat) (s : HS) : Prop where
  cells : ∀ c ∈ s.cells, 0 ≤ c ∧ Lg c ≤ 1100000
  nxt : 0 ≤ s.nxt
  rest : 0 ≤ s.rest ∧ Lg s.rest ≤ 1100001
  mix : 0 ≤ s.mix ∧ s.mix < 2147483629
  cnt : 0 ≤ s.cnt ∧ s.cnt ≤ n
theorem Wf.mono {m n : Nat} {s : HS} (w : Wf m s) (h : m ≤ n) : Wf n s := ⟨w.cells, w.nxt, w.rest, w.mix, w.cnt.1, by have := w.cnt.2; omega⟩
theorem Lg_small {x : Int} (h0 : 0 ≤ x) (h : x < 1099511627776) : Lg x ≤ 40 := Lg_le (by
  have : (2 : Nat) ^ (40 + 1) = 2199023255552 := by decide
  rw [this]
  omega)
theorem Lg_c {x : Int} {k : Nat} (h : Lg x = k) : Lg x = k := h
theorem D_a_ok {n : Nat} {s : HS} {many : D} (w : Wf n s) : Tr (D_a [.hand, .dat many, .un, .un, .un] s) fun c s' => Wf n s' ∧ ∃ x, c = .nx [.hand, .dat many, x, .un, .un] := by
  obtain ⟨cells, nxt, rest, mix, cnt⟩ := s
  obtain ⟨h1, h2, h3, h4, h5⟩ := w
  simp only at h1 h2 h3 h4 h5
  unfold D_a
  have w0 : Wf n ⟨cells, nxt, rest, mix, cnt⟩ := ⟨h1, h2, h3, h4, h5⟩
  by_cases hr : rest = 0
  · by_cases hl : nxt < (cells.length : Int)
    · obtain ⟨j, rfl⟩ := Int.eq_ofNat_of_zero_le h2
      have hj : j < cells.length := by omega
      have hc := h1 cells[j] (List.getElem_mem hj)
      have hix : dIx (.list (cells.map PyData.int)) (.int (j : Int)) = some (.int cells[j]) := by
        unfold dIx L2.atI L2.ixN
        simp [hj]
      have e1 : dMul (.int mix) (.int 69621) = some (.int (mix * 69621)) := by
        have a := Lg_small (x := mix) (by omega) (by omega)
        have b : Lg 69621 = 16 := by decide
        exact mulI (by omega)
      have e2 : dMul (.int cells[j]) (.int 40692) = some (.int (cells[j] * 40692)) := by
        have b : Lg 40692 = 15 := by decide
        exact mulI (by omega)
      have e3 : dPow (.int 10) (.int 18) = some (.int 1000000000000000000) := rfl
      have m0 := Int.emod_nonneg (mix * 69621 + cells[j] * 40692 + 29) (b := 2147483629) (by omega)
      have m1 := Int.emod_lt_of_pos (mix * 69621 + cells[j] * 40692 + 29) (b := 2147483629) (by omega)
      by_cases hg : 1000000000000000000 ≤ cells[j]
      · simp only [fIfS, fAndT, fTest, f2, f1, fHix, fSeq, fSet, fHput, nDat, putSl, rdat, g0, g1, g2, g3, g4, u1, u2, u3, u4, sb, sp, sl, sk, hr, eqI, ltI, lenL, boolB, addI, hix, e1, e2, e3, geI, intI, modI, List.length_map, hl, hg, get0, getS, List.length_cons, List.length_nil, decide_true, if_true, List.set_cons_succ, List.set_cons_zero, if_pos, Int.reduceLT, Nat.reduceAdd, Nat.reduceLT, si]
        exact ⟨⟨h1, by show (0 : Int) ≤ (j : Int) + 1; omega, ⟨hc.1, by show Lg cells[j] ≤ 1100001; omega⟩, ⟨m0, m1⟩, h5⟩, _, rfl⟩
      · simp only [fIfS, fAndT, fTest, f2, f1, fHix, fSeq, fSet, fHput, nDat, putSl, rdat, g0, g1, g2, g3, g4, u1, u2, u3, u4, sb, sp, sl, sk, hr, eqI, ltI, lenL, boolB, addI, hix, e1, e2, e3, geI, intI, modI, List.length_map, hl, hg, get0, getS, List.length_cons, List.length_nil, decide_true, if_true, List.set_cons_succ, List.set_cons_zero, if_pos, Int.reduceLT, Nat.reduceAdd, Nat.reduceLT, si, decide_false, Bool.false_eq_true, if_false, fSkip]
        exact ⟨⟨h1, by show (0 : Int) ≤ (j : Int) + 1; omega, hr ▸ h3, ⟨m0, m1⟩, h5⟩, _, rfl⟩
    · simp only [fIfS, fAndT, fTest, f2, f1, fHix, g0, g1, g2, g3, g4, u1, u2, u3, u4, sb, sp, sl, sk, hr, eqI, ltI, lenL, boolB, List.length_map, hl, get0, getS, decide_true, decide_false, if_true, Bool.false_eq_true, if_false, fSkip, si]
      exact ⟨hr ▸ w0, _, rfl⟩
  · simp only [fIfS, fAndT, fTest, f2, f1, fHix, g0, g1, g2, g3, g4, u1, u2, u3, u4, sb, sp, sl, sk, hr, eqI, ltI, lenL, boolB, List.length_map, get0, getS, decide_true, decide_false, if_true, Bool.false_eq_true, if_false, fSkip, si]
    exact ⟨w0, _, rfl⟩
theorem D_b_ok {n : Nat} {s : HS} {many : Int} {x : Sl} (w : Wf n s) (hm : 0 < many) (hb : Lg many < 9000) : Tr (D_b [.hand, .dat (.int many), x, .un, .un] s) fun c s' => Wf n s' ∧ (c = .nx [.hand, .dat (.int many), x, .un, .un] ∨ ∃ v, c = .rt (.int v) ∧ 0 ≤ v ∧ v < many) := by
  obtain ⟨cells, nxt, rest, mix, cnt⟩ := s
  obtain ⟨h1, h2, h3, h4, h5⟩ := w
  simp only at h1 h2 h3 h4 h5
  unfold D_b
  by_cases hr : 0 < rest
  · have e1 : dDiv (.int rest) (.int many) = some (.int (rest / many)) := divI hm hb
    have e2 : dMod (.int rest) (.int many) = some (.int (rest % many)) := modI hm
    simp only [fIfS, fTest, f2, f1, fHix, fSeq, fSet, fHput, nDat, putSl, fRet, rdat, g0, g1, g2, g3, g4, u1, u2, u3, u4, sb, sp, sl, sk, gtI, boolB, intI, e1, e2, hr, get0, getS, List.length_cons, List.length_nil, decide_true, if_true, List.set_cons_succ, List.set_cons_zero, if_pos, Nat.reduceAdd, Nat.reduceLT, si]
    have d0 : 0 ≤ rest / many := Int.ediv_nonneg h3.1 (Int.le_of_lt hm)
    have d1 : rest / many ≤ rest := Int.ediv_le_self _ h3.1
    exact ⟨⟨h1, h2, ⟨d0, Nat.le_trans (Lg_mono (by show (rest / many).natAbs ≤ rest.natAbs; omega)) h3.2⟩, h4, h5⟩, .inr ⟨_, rfl, Int.emod_nonneg _ (by omega), Int.emod_lt_of_pos _ hm⟩⟩
  · simp only [fIfS, fTest, f2, fHix, fSkip, g0, g1, g2, g3, g4, u1, u2, u3, u4, sb, sp, sl, sk, gtI, boolB, hr, get0, getS, decide_false, Bool.false_eq_true, if_false, si]
    exact ⟨⟨h1, h2, h3, h4, h5⟩, .inl rfl⟩
theorem D_c_ok {n : Nat} {s : HS} {many : Int} {x : Sl} (w : Wf n s) (hn : n < 1000000000) (hm : 0 < many) : Tr (D_c [.hand, .dat (.int many), x, .un, .un] s) fun c s' => Wf (n + 1) s' ∧ ∃ v, c = .rt (.int v) ∧ 0 ≤ v ∧ v < many := by
  obtain ⟨cells, nxt, rest, mix, cnt⟩ := s
  obtain ⟨h1, h2, h3, h4, h5⟩ := w
  simp only at h1 h2 h3 h4 h5
  unfold D_c
  have sm : ∀ {y : Int}, 0 ≤ y → y < 1099511627776 → Lg y ≤ 40 := fun a b => Lg_small a b
  have e1 : dMul (.int 7919) (.int (cnt + 1)) = some (.int (7919 * (cnt + 1))) := by
    have a := sm (y := cnt + 1) (by omega) (by omega)
    have b : Lg 7919 = 12 := by decide
    exact mulI (by omega)
  have e2 : dMul (.int (mix + 7919 * (cnt + 1))) (.int 48271) = some (.int ((mix + 7919 * (cnt + 1)) * 48271)) := by
    have a : Lg (mix + 7919 * (cnt + 1)) ≤ 60 := by
      refine Lg_le ?_
      have : (2 : Nat) ^ (60 + 1) = 2305843009213693952 := by decide
      omega
    have b : Lg 48271 = 15 := by decide
    exact mulI (by omega)
  generalize hz1 : (mix + 7919 * (cnt + 1)) * 48271 % 2147483647 = z1
  have z1a : 0 ≤ z1 := by rw [← hz1]; exact Int.emod_nonneg _ (by omega)
  have z1b : z1 < 2147483647 := by rw [← hz1]; exact Int.emod_lt_of_pos _ (by omega)
  have e3 : dDiv (.int z1) (.int 1009) = some (.int (z1 / 1009)) := divI (by omega) (by rw [show Lg 1009 = 9 by decide]; omega)
  have e4 : dMul (.int z1) (.int (z1 / 1009 + 69621)) = some (.int (z1 * (z1 / 1009 + 69621))) := by
    have a := sm (y := z1) (by omega) (by omega)
    have b := sm (y := z1 / 1009 + 69621) (by omega) (by omega)
    exact mulI (by omega)
  generalize hz2 : z1 * (z1 / 1009 + 69621) % 2147483647 = z2
  have z2a : 0 ≤ z2 := by rw [← hz2]; exact Int.emod_nonneg _ (by omega)
  have z2b : z2 < 2147483647 := by rw [← hz2]; exact Int.emod_lt_of_pos _ (by omega)
  have e5 : dDiv (.int z2) (.int 2003) = some (.int (z2 / 2003)) := divI (by omega) (by rw [show Lg 2003 = 10 by decide]; omega)
  have e6 : dMul (.int z2) (.int (z2 / 2003 + 40014)) = some (.int (z2 * (z2 / 2003 + 40014))) := by
    have a := sm (y := z2) (by omega) (by omega)
    have b := sm (y := z2 / 2003 + 40014) (by omega) (by omega)
    exact mulI (by omega)
  generalize hz3 : z2 * (z2 / 2003 + 40014) % 2147483563 = z3
  have e7 : dDiv (.int z3) (.int 16) = some (.int (z3 / 16)) := divI (by omega) (by rw [show Lg 16 = 4 by decide]; omega)
  have e8 : dMod (.int (z3 / 16)) (.int many) = some (.int (z3 / 16 % many)) := modI hm
  simp only [fTest, f2, f1, fHix, fSeq, fSet, fHput, nDat, putSl, fRet, rdat, g0, g1, g2, g3, g4, u1, u2, u3, u4, sb, sp, sl, sk, addI, intI, modI, e1, e2, hz1, e3, e4, hz2, e5, e6, hz3, e7, e8, get0, getS, List.length_cons, List.length_nil, List.set_cons_succ, List.set_cons_zero, if_pos, Nat.reduceAdd, Nat.reduceLT, Int.reduceLT, si]
  exact ⟨⟨h1, h2, h3, h4, by show 0 ≤ cnt + 1; omega, by show cnt + 1 ≤ ((n + 1 : Nat) : Int); omega⟩, _, rfl, Int.emod_nonneg _ (by omega), Int.emod_lt_of_pos _ hm⟩
theorem seq_ok {f g : Rho → M Ctl} {ρ : Rho} {s : HS} {P : Ctl → HS → Prop} (h : Tr (f ρ s) fun c s' => (∃ ρ', c = .nx ρ' ∧ Tr (g ρ' s') P) ∨ (∃ d, c = .rt d ∧ P c s')) : Tr (fSeq f g ρ s) P := by
  unfold fSeq
  refine Tr.bind (h.imp fun c s' k => ?_)
  rcases k with ⟨ρ', rfl, k⟩ | ⟨d, rfl, k⟩
  · exact k
  · exact k
/-- a number below many is drawn -/
theorem draw_ok {n : Nat} {s : HS} {many : Int} (w : Wf n s) (hn : n < 1000000000) (hm : 0 < many) (hb : Lg many < 9000) : Tr (F__law_draw [.hand, .dat (.int many)] s) fun d s' => Wf (n + 1) s' ∧ ∃ v, d = .int v ∧ 0 ≤ v ∧ v < many := by
  unfold F__law_draw fDef run
  refine Tr.bind ?_
  have key : Tr (fSeq D_a (fSeq D_b D_c) [.hand, .dat (.int many), .un, .un, .un] s) fun c s' => Wf (n + 1) s' ∧ ∃ v, c = .rt (.int v) ∧ 0 ≤ v ∧ v < many := by
    refine seq_ok ((D_a_ok w).imp fun c s1 ⟨w1, x, e⟩ => .inl ⟨_, e, seq_ok ((D_b_ok w1 hm hb).imp fun c2 s2 ⟨w2, k⟩ => ?_)⟩)
    rcases k with k | ⟨v, e2, k⟩
    · exact .inl ⟨_, k, D_c_ok w2 hn hm⟩
    · exact .inr ⟨_, e2, w2.mono (Nat.le_succ _), v, e2, k⟩
  refine Tr.imp key fun c s' ⟨w', v, e, k⟩ => ?_
  subst e
  exact ⟨w', v, rfl, k⟩
end Jw
namespace Jw
open PySem
/-! ### defs that many laws share -/
def F_is_integer : List Sl → M D := fDef 0 (fRet (fAndV (f1 (dIsi "int") (rdat 0)) (f1 dNot (f1 (dIsi "bool") (rdat 0)))))
def F_is_within : List Sl → M D := fDef 0 (fRet (fAndV (fCall F_is_integer (aCons (rdat 0) aNil)) (fChain dLe dLe (rdat 1) (rdat 0) (rdat 2))))
def F_is_tuple : List Sl → M D := fDef 0 (fRet (fAndV (f1 (dIsi "tuple") (rdat 0)) (fChain dLe dLe (rdat 1) (f1 dLen (rdat 0)) (rdat 2))))
def F_divisor : List Sl → M D := fDef 0 (fSeq (fPar 0 1 (nDat (f1 dAbs (rdat 0))) (nDat (f1 dAbs (rdat 1))))
  (fSeq (fWhile (fTest (f2 dNe (rdat 1) (fun _ => pure (.int 0)))) (fPar 0 1 (nDat (rdat 1)) (nDat (f2 dMod (rdat 0) (rdat 1)))))
  (fRet (rdat 0))))
def F_reduced : List Sl → M D := fDef 2 (fSeq (fSet 2 (nDat (fCall F_divisor (aCons (rdat 0) (aCons (rdat 1) aNil)))))
  (fSeq (fSet 3 (nDat (fIf (fTest (f2 dGt (rdat 1) (fun _ => pure (.int 0)))) (fun _ => pure (.int 1)) (f1 dNeg (fun _ => pure (.int 1))))))
  (fRet (fTup (dCons (f2 dDiv (f2 dMul (rdat 3) (rdat 0)) (rdat 2)) (dCons (f2 dDiv (f2 dMul (rdat 3) (rdat 1)) (rdat 2)) dNil))))))
def F_added : List Sl → M D := fDef 0 (fRet (fCall F_reduced (aCons (f2 dAdd (f2 dMul (f2 dIx (rdat 0) (fun _ => pure (.int 0))) (f2 dIx (rdat 1) (fun _ => pure (.int 1)))) (f2 dMul (f2 dIx (rdat 1) (fun _ => pure (.int 0))) (f2 dIx (rdat 0) (fun _ => pure (.int 1))))) (aCons (f2 dMul (f2 dIx (rdat 0) (fun _ => pure (.int 1))) (f2 dIx (rdat 1) (fun _ => pure (.int 1)))) aNil))))
def F_times : List Sl → M D := fDef 0 (fRet (fCall F_reduced (aCons (f2 dMul (f2 dIx (rdat 0) (fun _ => pure (.int 0))) (f2 dIx (rdat 1) (fun _ => pure (.int 0)))) (aCons (f2 dMul (f2 dIx (rdat 0) (fun _ => pure (.int 1))) (f2 dIx (rdat 1) (fun _ => pure (.int 1)))) aNil))))
def F_parted : List Sl → M D := fDef 0 (fRet (fCall F_reduced (aCons (f2 dMul (f2 dIx (rdat 0) (fun _ => pure (.int 0))) (f2 dIx (rdat 1) (fun _ => pure (.int 1)))) (aCons (f2 dMul (f2 dIx (rdat 0) (fun _ => pure (.int 1))) (f2 dIx (rdat 1) (fun _ => pure (.int 0)))) aNil))))
def F__law_common : List Sl → M D := fDef 0 (fSeq (fWhile (fTest (f2 dGt (rdat 1) (fun _ => pure (.int 0)))) (fPar 0 1 (nDat (rdat 1)) (nDat (f2 dMod (f1 dInt (rdat 0)) (rdat 1)))))
  (fRet (rdat 0)))
def F__law_low : List Sl → M D := fDef 1 (fSeq (fSet 2 (nDat (fCall F__law_common (aCons (f1 dAbs (rdat 0)) (aCons (rdat 1) aNil)))))
  (fRet (fTup (dCons (f2 dDiv (rdat 0) (rdat 2)) (dCons (f2 dDiv (rdat 1) (rdat 2)) dNil)))))
def F__law_plus : List Sl → M D := fDef 0 (fRet (fCall F__law_low (aCons (f2 dAdd (f2 dMul (f2 dIx (rdat 0) (fun _ => pure (.int 0))) (f2 dIx (rdat 1) (fun _ => pure (.int 1)))) (f2 dMul (f2 dIx (rdat 1) (fun _ => pure (.int 0))) (f2 dIx (rdat 0) (fun _ => pure (.int 1))))) (aCons (f2 dMul (f2 dIx (rdat 0) (fun _ => pure (.int 1))) (f2 dIx (rdat 1) (fun _ => pure (.int 1)))) aNil))))
def F__law_some : List Sl → M D := fDef 0 (fRet (f2 dIx (rdat 1) (fCall F__law_draw (aHand 0 (aCons (f1 dLen (rdat 1)) aNil)))))
@[simp] theorem isiI (i : Int) : dIsi "int" (.int i) = some (.bool true) := by
  show (L2.kitB "int" "int").map PyData.bool = _
  rw [show L2.kitB "int" "int" = some true by decide +kernel]
  rfl
@[simp] theorem isiB (i : Int) : dIsi "bool" (.int i) = some (.bool false) := by
  show (L2.kitB "int" "bool").map PyData.bool = _
  rw [show L2.kitB "int" "bool" = some false by decide +kernel]
  rfl
@[simp] theorem isiT (xs : List D) : dIsi "tuple" (.tuple xs) = some (.bool true) := by
  show (L2.kitB "tuple" "tuple").map PyData.bool = _
  rw [show L2.kitB "tuple" "tuple" = some true by decide +kernel]
  rfl
@[simp] theorem lenT (xs : List D) : dLen (.tuple xs) = some (.int xs.length) := rfl
theorem is_integer_eq (i : Int) : F_is_integer [.dat (.int i)] = pure (.bool true) := by simp [F_is_integer]
theorem is_within_eq (i lo hi : Int) (h1 : lo ≤ i) (h2 : i ≤ hi) : F_is_within [.dat (.int i), .dat (.int lo), .dat (.int hi)] = pure (.bool true) := by simp [F_is_within, is_integer_eq, h1, h2]
theorem is_tuple_eq (xs : List D) (lo hi : Int) (h1 : lo ≤ xs.length) (h2 : xs.length ≤ hi) : F_is_tuple [.dat (.tuple xs), .dat (.int lo), .dat (.int hi)] = pure (.bool true) := by simp [F_is_tuple, h1, h2]

/-! ### the greatest common divisor -/
theorem abs_natAbs (x : Int) : (if x < 0 then -x else x) = (x.natAbs : Int) := by split <;> omega
theorem gcd_step (a b : Nat) (h : b ≠ 0) : Nat.gcd b (a % b) = Nat.gcd a b := by rw [Nat.gcd_comm b, ← Nat.gcd_rec, Nat.gcd_comm]
def gcdT : Rho → M Bool := fTest (f2 dNe (rdat 1) (fun _ => pure (.int 0)))
def gcdB : Rho → M Ctl := fPar 0 1 (nDat (rdat 1)) (nDat (f2 dMod (rdat 0) (rdat 1)))
theorem gcdT_eq (a b : Nat) : gcdT [.dat (.int a), .dat (.int b)] = pure (!decide (b = 0)) := by simp [gcdT]
theorem mod_nat (a b : Nat) (h : b ≠ 0) : dMod (.int a) (.int b) = some (.int ((a % b : Nat) : Int)) := by
  rw [modI (by omega)]
  norm_cast
theorem gcdB_eq (a b : Nat) (h : b ≠ 0) : gcdB [.dat (.int a), .dat (.int b)] = pure (.nx [.dat (.int b), .dat (.int ((a % b : Nat) : Int))]) := by
  have := mod_nat a b h
  simp [gcdB, this]
theorem gcd_loop : ∀ (n a b : Nat), b < n → whileL gcdT gcdB n [.dat (.int a), .dat (.int b)] = pure (.nx [.dat (.int (Nat.gcd a b)), .dat (.int 0)]) := by
  intro n
  induction n with
  | zero => intro a b h; omega
  | succ n ih =>
    intro a b h
    unfold whileL
    rw [gcdT_eq, pb]
    by_cases hb : b = 0
    · subst hb
      simp
    · have hlt : a % b < n := by
        have := Nat.mod_lt a (Nat.pos_of_ne_zero hb)
        omega
      have e := ih b (a % b) hlt
      rw [gcd_step a b hb] at e
      rw [if_pos (by simp [hb]), gcdB_eq a b hb, pb]
      exact e
theorem divisor_eq (x y : Int) : F_divisor [.dat (.int x), .dat (.int y)] = pure (.int (Int.gcd x y)) := by
  have hw : fWhile gcdT gcdB [.dat (.int x.natAbs), .dat (.int y.natAbs)] = pure (.nx [.dat (.int (Nat.gcd x.natAbs y.natAbs)), .dat (.int 0)]) := by
    unfold fWhile
    refine gcd_loop _ _ _ ?_
    simp [fuelR, szD]
    omega
  unfold gcdT gcdB at hw
  simp [F_divisor, abs_natAbs] at hw ⊢
  rw [hw]
  simp [Int.gcd]
/-! ### fractions -/
def frQ (q : Rat) : D := .tuple [.int q.num, .int q.den]
theorem Lg_gcd (x y : Int) (h : y ≠ 0) : Lg (Int.gcd x y : Int) ≤ Lg y := by
  refine Lg_mono ?_
  rw [Int.natAbs_natCast]
  exact Nat.le_of_dvd (by omega) (Nat.gcd_dvd_right x.natAbs y.natAbs)
theorem sgn_is {y : Int} (h : y ≠ 0) : (if 0 < y then (1 : Int) else -1) = y.sign := by
  by_cases h1 : 0 < y
  · rw [if_pos h1, Int.sign_eq_one_of_pos h1]
  · rw [if_neg h1, Int.sign_eq_neg_one_of_neg (by omega)]
theorem frQ_divInt (x y : Int) (h : y ≠ 0) : frQ (Rat.divInt x y) = .tuple [.int (y.sign * x / (Int.gcd x y : Int)), .int (y.sign * y / (Int.gcd x y : Int))] := by
  unfold frQ
  rw [Rat.num_divInt, Rat.den_divInt, if_neg h, Int.gcd_comm y x, Int.sign_mul_self, Int.natCast_ediv]
theorem reduced_eq (x y : Int) (hy : y ≠ 0) (hx : Lg x < 8000) (hz : Lg y < 8000) : F_reduced [.dat (.int x), .dat (.int y)] = pure (frQ (Rat.divInt x y)) := by
  have hg : (0 : Int) < (Int.gcd x y : Int) := by
    have := Int.gcd_pos_of_ne_zero_right x hy
    omega
  have hl : Lg (Int.gcd x y : Int) < 9000 := Nat.lt_of_le_of_lt (Lg_gcd x y hy) (by omega)
  have hs : Lg y.sign = 0 := by
    rcases Int.lt_trichotomy y 0 with h | h | h
    · rw [Int.sign_eq_neg_one_of_neg h]; rfl
    · exact absurd h hy
    · rw [Int.sign_eq_one_of_pos h]; rfl
  have e0 : (if 0 < y then (pure (.int 1) : M D) else pure (.int (-1))) = pure (.int y.sign) := by
    rw [← sgn_is hy]
    split <;> rfl
  have e1 : dMul (.int y.sign) (.int x) = some (.int (y.sign * x)) := mulI (by omega)
  have e2 : dMul (.int y.sign) (.int y) = some (.int (y.sign * y)) := mulI (by omega)
  have e3 : dDiv (.int (y.sign * x)) (.int (Int.gcd x y : Int)) = some (.int (y.sign * x / (Int.gcd x y : Int))) := divI hg hl
  have e4 : dDiv (.int (y.sign * y)) (.int (Int.gcd x y : Int)) = some (.int (y.sign * y / (Int.gcd x y : Int))) := divI hg hl
  rw [frQ_divInt x y hy]
  simp only [F_reduced, fDef, run, fSeq, fSet, fCall, aCons, aNil, rdat, List.cons_append, List.nil_append, List.replicate_succ, List.replicate_zero, get0, getS, pb, divisor_eq, nDat, putSl, List.length_cons, List.length_nil, Nat.reduceAdd, Nat.reduceLT, if_pos, List.set_cons_succ, List.set_cons_zero, fIf, fTest, f2, f1, gtI, ls, boolB, decide_eq_true_eq, dNeg, e0, fRet, fTup, dCons, dNil, e1, e2, e3, e4]
theorem Lg_num_divInt (x y : Int) (h : y ≠ 0) : Lg (Rat.divInt x y).num ≤ Lg x := by
  have hg : 0 < Int.gcd x y := Int.gcd_pos_of_ne_zero_right x h
  rw [Rat.num_divInt, Int.gcd_comm y x]
  refine Lg_mono ?_
  have : (y.sign * x).natAbs = x.natAbs := by
    rw [Int.natAbs_mul, Int.natAbs_sign_of_ne_zero h, Nat.one_mul]
  rw [← this]
  exact Int.natAbs_ediv_le_natAbs _ _
theorem Lg_den_divInt (x y : Int) (h : y ≠ 0) : Lg ((Rat.divInt x y).den : Int) ≤ Lg y := by
  rw [Rat.den_divInt, if_neg h]
  refine Lg_mono ?_
  rw [Int.natAbs_natCast]
  exact Nat.div_le_self _ _
/-- how many bits a fraction takes -/
def Hq (q : Rat) : Nat := max (Lg q.num) (Lg (q.den : Int))
theorem Hq_divInt (x y : Int) (h : y ≠ 0) : Hq (Rat.divInt x y) ≤ max (Lg x) (Lg y) := by
  have := Lg_num_divInt x y h
  have := Lg_den_divInt x y h
  unfold Hq
  omega
theorem den_ne (q : Rat) : (q.den : Int) ≠ 0 := by
  have := q.den_nz
  omega
theorem q_is (q : Rat) : q = (q.num : Rat) / (q.den : Rat) := by
  have h := Rat.num_divInt_den q
  rw [Rat.divInt_eq_div] at h
  exact h.symm
theorem den_ne' (q : Rat) : (q.den : Rat) ≠ 0 := by
  have := q.den_nz
  exact_mod_cast this
theorem add_div (x y : Rat) : Rat.divInt (x.num * y.den + y.num * x.den) (x.den * y.den) = x + y := by
  have h1 := q_is x
  have h2 := q_is y
  have h3 := den_ne' x
  have h4 := den_ne' y
  rw [Rat.divInt_eq_div]
  generalize x.num = a at *
  generalize x.den = b at *
  generalize y.num = c at *
  generalize y.den = d at *
  push_cast
  rw [h1, h2]
  grind
theorem mul_div (x y : Rat) : Rat.divInt (x.num * y.num) (x.den * y.den) = x * y := by
  have h1 := q_is x
  have h2 := q_is y
  have h3 := den_ne' x
  have h4 := den_ne' y
  rw [Rat.divInt_eq_div]
  generalize x.num = a at *
  generalize x.den = b at *
  generalize y.num = c at *
  generalize y.den = d at *
  push_cast
  rw [h1, h2]
  grind
theorem num_ne {y : Rat} (h : y ≠ 0) : y.num ≠ 0 := fun z => h (by
  have := q_is y
  rw [z] at this
  rw [this]
  grind)
theorem div_div' (x y : Rat) (h : y ≠ 0) : Rat.divInt (x.num * y.den) (x.den * y.num) = x / y := by
  have h0 := num_ne h
  have h1 := q_is x
  have h2 := q_is y
  have h3 := den_ne' x
  have h4 := den_ne' y
  rw [Rat.divInt_eq_div]
  have h5 : (y.num : Rat) ≠ 0 := by exact_mod_cast h0
  generalize x.num = a at *
  generalize x.den = b at *
  generalize y.num = c at *
  generalize y.den = d at *
  push_cast
  rw [h1, h2]
  grind
@[simp] theorem ix0 (a b : D) : dIx (.tuple [a, b]) (.int 0) = some a := rfl
@[simp] theorem ix1 (a b : D) : dIx (.tuple [a, b]) (.int 1) = some b := rfl
theorem added_eq (x y : Rat) (h : Hq x + Hq y < 7000) : F_added [.dat (frQ x), .dat (frQ y)] = pure (frQ (x + y)) := by
  unfold Hq at h
  have m1 : dMul (.int x.num) (.int (y.den : Int)) = some (.int (x.num * y.den)) := mulI (by omega)
  have m2 : dMul (.int y.num) (.int (x.den : Int)) = some (.int (y.num * x.den)) := mulI (by omega)
  have m3 : dMul (.int (x.den : Int)) (.int (y.den : Int)) = some (.int (x.den * y.den)) := mulI (by omega)
  have l1 := Lg_mul x.num y.den
  have l2 := Lg_mul y.num x.den
  have l3 := Lg_mul x.den y.den
  have l4 := Lg_add (x.num * y.den) (y.num * x.den)
  have hr := reduced_eq (x.num * y.den + y.num * x.den) (x.den * y.den) (Int.mul_ne_zero (den_ne x) (den_ne y)) (by omega) (by omega)
  rw [add_div] at hr
  unfold frQ at hr ⊢
  simp [F_added, m1, m2, m3, hr]
theorem Hq_add (x y : Rat) : Hq (x + y) ≤ Hq x + Hq y + 2 := by
  rw [← add_div x y]
  have := Hq_divInt (x.num * y.den + y.num * x.den) (x.den * y.den) (Int.mul_ne_zero (den_ne x) (den_ne y))
  have l1 := Lg_mul x.num y.den
  have l2 := Lg_mul y.num x.den
  have l3 := Lg_mul x.den y.den
  have l4 := Lg_add (x.num * y.den) (y.num * x.den)
  have e1 : Hq x = max (Lg x.num) (Lg (x.den : Int)) := rfl
  have e2 : Hq y = max (Lg y.num) (Lg (y.den : Int)) := rfl
  omega
theorem times_eq (x y : Rat) (h : Hq x + Hq y < 7000) : F_times [.dat (frQ x), .dat (frQ y)] = pure (frQ (x * y)) := by
  unfold Hq at h
  have m1 : dMul (.int x.num) (.int y.num) = some (.int (x.num * y.num)) := mulI (by omega)
  have m3 : dMul (.int (x.den : Int)) (.int (y.den : Int)) = some (.int (x.den * y.den)) := mulI (by omega)
  have l1 := Lg_mul x.num y.num
  have l3 := Lg_mul x.den y.den
  have hr := reduced_eq (x.num * y.num) (x.den * y.den) (Int.mul_ne_zero (den_ne x) (den_ne y)) (by omega) (by omega)
  rw [mul_div] at hr
  unfold frQ at hr ⊢
  simp [F_times, m1, m3, hr]
theorem Hq_mul (x y : Rat) : Hq (x * y) ≤ Hq x + Hq y + 1 := by
  rw [← mul_div x y]
  have := Hq_divInt (x.num * y.num) (x.den * y.den) (Int.mul_ne_zero (den_ne x) (den_ne y))
  have l1 := Lg_mul x.num y.num
  have l3 := Lg_mul x.den y.den
  have e1 : Hq x = max (Lg x.num) (Lg (x.den : Int)) := rfl
  have e2 : Hq y = max (Lg y.num) (Lg (y.den : Int)) := rfl
  omega
theorem parted_eq (x y : Rat) (hy : y ≠ 0) (h : Hq x + Hq y < 7000) : F_parted [.dat (frQ x), .dat (frQ y)] = pure (frQ (x / y)) := by
  unfold Hq at h
  have m1 : dMul (.int x.num) (.int (y.den : Int)) = some (.int (x.num * y.den)) := mulI (by omega)
  have m3 : dMul (.int (x.den : Int)) (.int y.num) = some (.int (x.den * y.num)) := mulI (by omega)
  have l1 := Lg_mul x.num y.den
  have l3 := Lg_mul x.den y.num
  have hr := reduced_eq (x.num * y.den) (x.den * y.num) (Int.mul_ne_zero (den_ne x) (num_ne hy)) (by omega) (by omega)
  rw [div_div' x y hy] at hr
  unfold frQ at hr ⊢
  simp [F_parted, m1, m3, hr]
theorem Hq_div (x y : Rat) (hy : y ≠ 0) : Hq (x / y) ≤ Hq x + Hq y + 1 := by
  rw [← div_div' x y hy]
  have := Hq_divInt (x.num * y.den) (x.den * y.num) (Int.mul_ne_zero (den_ne x) (num_ne hy))
  have l1 := Lg_mul x.num y.den
  have l3 := Lg_mul x.den y.num
  have e1 : Hq x = max (Lg x.num) (Lg (x.den : Int)) := rfl
  have e2 : Hq y = max (Lg y.num) (Lg (y.den : Int)) := rfl
  omega
theorem frQ_int (i : Int) : frQ (i : Rat) = .tuple [.int i, .int 1] := by
  unfold frQ
  simp
/-! ### the law's own fractions -/
def gcdT2 : Rho → M Bool := fTest (f2 dGt (rdat 1) (fun _ => pure (.int 0)))
def gcdB2 : Rho → M Ctl := fPar 0 1 (nDat (rdat 1)) (nDat (f2 dMod (f1 dInt (rdat 0)) (rdat 1)))
theorem gcdT2_eq (a b : Nat) : gcdT2 [.dat (.int a), .dat (.int b)] = pure (!decide (b = 0)) := by
  simp [gcdT2]
  congr 1
  by_cases h : b = 0
  · simp [h]
  · simp [h]
    omega
theorem gcdB2_eq (a b : Nat) (h : b ≠ 0) : gcdB2 [.dat (.int a), .dat (.int b)] = pure (.nx [.dat (.int b), .dat (.int ((a % b : Nat) : Int))]) := by
  have := mod_nat a b h
  simp [gcdB2, this]
theorem gcd_loop2 : ∀ (n a b : Nat), b < n → whileL gcdT2 gcdB2 n [.dat (.int a), .dat (.int b)] = pure (.nx [.dat (.int (Nat.gcd a b)), .dat (.int 0)]) := by
  intro n
  induction n with
  | zero => intro a b h; omega
  | succ n ih =>
    intro a b h
    unfold whileL
    rw [gcdT2_eq, pb]
    by_cases hb : b = 0
    · subst hb
      simp
    · have hlt : a % b < n := by
        have := Nat.mod_lt a (Nat.pos_of_ne_zero hb)
        omega
      have e := ih b (a % b) hlt
      rw [gcd_step a b hb] at e
      rw [if_pos (by simp [hb]), gcdB2_eq a b hb, pb]
      exact e
theorem common_eq (a b : Nat) : F__law_common [.dat (.int a), .dat (.int b)] = pure (.int (Nat.gcd a b)) := by
  have hw : fWhile gcdT2 gcdB2 [.dat (.int a), .dat (.int b)] = pure (.nx [.dat (.int (Nat.gcd a b)), .dat (.int 0)]) := by
    unfold fWhile
    refine gcd_loop2 _ _ _ ?_
    simp [fuelR, szD]
    omega
  unfold gcdT2 gcdB2 at hw
  simp [F__law_common] at hw ⊢
  rw [hw]
  simp
theorem low_eq (x y : Int) (hy : 0 < y) (hx : Lg x < 8000) (hz : Lg y < 8000) : F__law_low [.dat (.int x), .dat (.int y)] = pure (frQ (Rat.divInt x y)) := by
  have hg : (0 : Int) < (Int.gcd x y : Int) := by
    have := Int.gcd_pos_of_ne_zero_right x (b := y) (by omega)
    omega
  have hl : Lg (Int.gcd x y : Int) < 9000 := Nat.lt_of_le_of_lt (Lg_gcd x y (by omega)) (by omega)
  have e3 : dDiv (.int x) (.int (Int.gcd x y : Int)) = some (.int (x / (Int.gcd x y : Int))) := divI hg hl
  have e4 : dDiv (.int y) (.int (Int.gcd x y : Int)) = some (.int (y / (Int.gcd x y : Int))) := divI hg hl
  have hc := common_eq x.natAbs y.natAbs
  have hy2 : ((y.natAbs : Nat) : Int) = y := by omega
  rw [hy2] at hc
  have hc2 : F__law_common [.dat (.int (x.natAbs : Int)), .dat (.int y)] = pure (.int (Int.gcd x y : Int)) := hc
  rw [frQ_divInt x y (by omega), Int.sign_eq_one_of_pos hy, Int.one_mul, Int.one_mul]
  simp [F__law_low, abs_natAbs, hc2, e3, e4]
theorem plus_eq (x y : Rat) (h : Hq x + Hq y < 7000) : F__law_plus [.dat (frQ x), .dat (frQ y)] = pure (frQ (x + y)) := by
  unfold Hq at h
  have m1 : dMul (.int x.num) (.int (y.den : Int)) = some (.int (x.num * y.den)) := mulI (by omega)
  have m2 : dMul (.int y.num) (.int (x.den : Int)) = some (.int (y.num * x.den)) := mulI (by omega)
  have m3 : dMul (.int (x.den : Int)) (.int (y.den : Int)) = some (.int (x.den * y.den)) := mulI (by omega)
  have l1 := Lg_mul x.num y.den
  have l2 := Lg_mul y.num x.den
  have l3 := Lg_mul x.den y.den
  have l4 := Lg_add (x.num * y.den) (y.num * x.den)
  have hp : (0 : Int) < (x.den : Int) * (y.den : Int) := Int.mul_pos (by have := den_ne x; omega) (by have := den_ne y; omega)
  have hr := low_eq (x.num * y.den + y.num * x.den) (x.den * y.den) hp (by omega) (by omega)
  rw [add_div] at hr
  unfold frQ at hr ⊢
  simp [F__law_plus, m1, m2, m3, hr]
/-! ### one of a list is drawn -/
theorem dIx_mem {xs : List D} {v : Int} (h0 : 0 ≤ v) (h1 : v < xs.length) : ∃ d, dIx (.list xs) (.int v) = some d ∧ d ∈ xs := by
  obtain ⟨j, rfl⟩ := Int.eq_ofNat_of_zero_le h0
  have hj : j < xs.length := by omega
  refine ⟨xs[j], ?_, List.getElem_mem hj⟩
  unfold dIx L2.atI L2.ixN
  simp [hj]
theorem some_ok {n : Nat} {s : HS} {xs : List D} (w : Wf n s) (hn : n < 1000000000) (hx : xs ≠ []) (hl : xs.length < 1000000) : Tr (F__law_some [.hand, .dat (.list xs)] s) fun d s' => Wf (n + 1) s' ∧ d ∈ xs := by
  have hp : 0 < xs.length := List.length_pos_iff.mpr hx
  have h := draw_ok (many := (xs.length : Int)) w hn (by omega) (by have := Lg_small (x := (xs.length : Int)) (by omega) (by omega); omega)
  have e : F__law_some [.hand, .dat (.list xs)] = (F__law_draw [.hand, .dat (.int xs.length)] >>= fun i => O.lift (dIx (.list xs) i)) := by
    simp [F__law_some, aHand]
  rw [e]
  refine Tr.bind (h.imp fun d s' ⟨w', v, e1, h0, h1⟩ => ?_)
  subst e1
  obtain ⟨d, e2, h2⟩ := dIx_mem h0 h1
  rw [e2]
  exact ⟨w', h2⟩
end Jw
namespace Jw
open PySem
/-! ### loops and comprehensions, reckoned -/
theorem nm_bind (i : Nat) (d : D) (ρ : Rho) (h : i < ρ.length) : (Pat.nm i).bind d ρ = some (ρ.set i (.dat d)) := by
  unfold Pat.bind
  exact if_pos h
theorem noexc_p {α : Type} (a : α) : M.noexc (pure a : M α) = pure a := rfl
theorem lc_nil {bp : D → Rho → Option Rho} {cond : Rho → M Bool} {elt : Rho → M D} {ρ : Rho} : lcL bp cond elt ρ [] = pure [] := rfl
/-- a comprehension that changes nothing -/
theorem lc_pure {bp : D → Rho → Option Rho} {cond : Rho → M Bool} {elt : Rho → M D} {ρ : Rho} {c : D → Bool} {g : D → D} : ∀ (xs : List D), (∀ x ∈ xs, ∃ ρ1, bp x ρ = some ρ1 ∧ cond ρ1 = pure (c x) ∧ (c x = true → elt ρ1 = pure (g x))) →
    lcL bp cond elt ρ xs = pure ((xs.filter c).map g)
  | [], _ => rfl
  | x :: xs, h => by
    obtain ⟨ρ1, e1, e2, e3⟩ := h x List.mem_cons_self
    have ih := lc_pure xs fun y hy => h y (List.mem_cons_of_mem _ hy)
    unfold lcL
    rw [e1, ls, pb, e2, noexc_p, pb]
    by_cases hc : c x = true
    · rw [if_pos hc, e3 hc, noexc_p, pb, ih, pb, List.filter_cons_of_pos hc]
      rfl
    · rw [if_neg hc, ih, List.filter_cons_of_neg hc]
/-- the same without a test -/
theorem lc_all {bp : D → Rho → Option Rho} {elt : Rho → M D} {ρ : Rho} {g : D → D} (xs : List D) (h : ∀ x ∈ xs, ∃ ρ1, bp x ρ = some ρ1 ∧ elt ρ1 = pure (g x)) : lcL bp (fun _ => pure true) elt ρ xs = pure (xs.map g) := by
  have e := lc_pure (cond := fun _ => pure true) (c := fun _ => true) xs fun x hx => by
    obtain ⟨ρ1, e1, e2⟩ := h x hx
    exact ⟨ρ1, e1, rfl, fun _ => e2⟩
  rw [e, List.filter_eq_self.mpr fun _ _ => rfl]
/-- a comprehension over draws -/
theorem lc_tr {bp : D → Rho → Option Rho} {elt : Rho → M D} {ρ : Rho} {I : Nat → HS → Prop} {Pd : D → Prop} (k : Nat) : ∀ (xs : List D), (∀ x ∈ xs, ∀ i s, I i s → ∃ ρ1, bp x ρ = some ρ1 ∧ Tr (elt ρ1 s) fun d s' => I (i + k) s' ∧ Pd d) →
    ∀ i s, I i s → Tr (lcL bp (fun _ => pure true) elt ρ xs s) fun ds s' => I (i + k * xs.length) s' ∧ ds.length = xs.length ∧ ∀ d ∈ ds, Pd d
  | [], _, i, s, hI => ⟨hI, rfl, fun _ z => (nomatch z)⟩
  | x :: xs, h, i, s, hI => by
    obtain ⟨ρ1, e1, e2⟩ := h x List.mem_cons_self i s hI
    unfold lcL
    rw [e1, ls, pb]
    have e3 : M.noexc ((fun _ => pure true : Rho → M Bool) ρ1) = pure true := rfl
    rw [e3, pb, if_pos rfl]
    refine Tr.bind ?_
    have e4 : Tr (M.noexc (elt ρ1) s) fun d s' => I (i + k) s' ∧ Pd d := by
      unfold M.noexc
      cases q : elt ρ1 s with
      | ok a s' => rw [q] at e2; exact e2
      | exc c s' => rw [q] at e2; exact e2.elim
      | bad => rw [q] at e2; exact e2.elim
    refine e4.imp fun d s1 ⟨h1, h2⟩ => Tr.bind ((lc_tr k xs (fun y hy => h y (List.mem_cons_of_mem _ hy)) _ s1 h1).imp fun ds s2 ⟨h3, h4, h5⟩ => ?_)
    refine ⟨?_, congrArg Nat.succ h4, fun d' hd => ?_⟩
    · have e : i + k * (xs.length + 1) = i + k + k * xs.length := by rw [Nat.mul_add, Nat.mul_one]; omega
      show I (i + k * (xs.length + 1)) s2
      rw [e]
      exact h3
    · rcases List.mem_cons.mp hd with rfl | hd
      · exact h2
      · exact h5 d' hd
/-- a loop without an end ahead of its own -/
theorem for_fold {S : Type} {bp : D → Rho → Option Rho} {body : Rho → M Ctl} (ro : S → Rho) (stp : S → D → S) (Iv : S → Prop) : ∀ (xs : List D) (σ : S), (∀ σ x, x ∈ xs → Iv σ → Iv (stp σ x) ∧ ∃ ρ1, bp x (ro σ) = some ρ1 ∧ body ρ1 = pure (.nx (ro (stp σ x)))) → Iv σ →
    forL bp body xs (ro σ) = pure (.nx (ro (xs.foldl stp σ)))
  | [], σ, _, _ => rfl
  | x :: xs, σ, h, hI => by
    obtain ⟨h1, ρ1, e1, e2⟩ := h σ x List.mem_cons_self hI
    unfold forL
    rw [e1, ls, pb, e2, pb]
    exact for_fold ro stp Iv xs _ (fun σ y hy => h σ y (List.mem_cons_of_mem _ hy)) h1
theorem rng_succ (lo : Int) (n : Nat) : rng lo (n + 1) = .int lo :: rng (lo + 1) n := by
  unfold rng
  rw [List.range_succ_eq_map, List.map_cons, List.map_map]
  congr 1
  · simp
  · refine List.map_congr_left fun i _ => ?_
    show PyData.int (lo + ((i + 1 : Nat) : Int)) = .int (lo + 1 + (i : Int))
    congr 1
    omega
theorem rng_mem {lo : Int} {n : Nat} {d : D} (h : d ∈ rng lo n) : ∃ i : Nat, i < n ∧ d = .int (lo + i) := by
  unfold rng at h
  obtain ⟨i, h1, h2⟩ := List.mem_map.mp h
  exact ⟨i, List.mem_range.mp h1, h2.symm⟩
theorem rng1_eq (n : Int) (h0 : -(2 ^ 62) ≤ n) (h1 : n < 2 ^ 62) : dRng1 (.int n) = some (rng 0 n.toNat) := by
  unfold dRng1
  exact if_pos ⟨h0, h1⟩
theorem rng2_eq (a b : Int) (h0 : -(2 ^ 62) ≤ a) (h1 : a < 2 ^ 62) (h2 : -(2 ^ 62) ≤ b) (h3 : b < 2 ^ 62) : dRng2 (.int a) (.int b) = some (rng a (b - a).toNat) := by
  unfold dRng2
  exact if_pos ⟨h0, h1, h2, h3⟩
theorem dBools_map : ∀ bs : List Bool, dBools (bs.map PyData.bool) = some bs
  | [] => rfl
  | b :: bs => by
    show (dBools (bs.map PyData.bool)).map (b :: ·) = _
    rw [dBools_map bs]
    rfl
theorem dInts_map : ∀ bs : List Int, dInts (bs.map PyData.int) = some bs
  | [] => rfl
  | b :: bs => by
    show (dInts (bs.map PyData.int)).map (b :: ·) = _
    rw [dInts_map bs]
    rfl
theorem all_true : ∀ (ds : List D), (∀ d ∈ ds, d = .bool true) → dAll (.list ds) = some (.bool true) := by
  intro ds h
  have e : ds = (List.replicate ds.length true).map PyData.bool := by
    rw [List.map_replicate]
    exact List.eq_replicate_iff.mpr ⟨rfl, h⟩
  rw [e]
  show (dBools ((List.replicate ds.length true).map PyData.bool)).map _ = _
  rw [dBools_map]
  simp
/-- a loop over draws: an invariant -/
theorem for_tr {bp : D → Rho → Option Rho} {body : Rho → M Ctl} {I : Nat → Rho → HS → Prop} (k : Nat) : ∀ (xs : List D), (∀ x ∈ xs, ∀ i ρ s, I i ρ s → ∃ ρ1, bp x ρ = some ρ1 ∧ Tr (body ρ1 s) fun c s' => ∃ ρ', c = .nx ρ' ∧ I (i + k) ρ' s') →
    ∀ i ρ s, I i ρ s → Tr (forL bp body xs ρ s) fun c s' => ∃ ρ', c = .nx ρ' ∧ I (i + k * xs.length) ρ' s'
  | [], _, i, ρ, s, hI => ⟨ρ, rfl, hI⟩
  | x :: xs, h, i, ρ, s, hI => by
    obtain ⟨ρ1, e1, e2⟩ := h x List.mem_cons_self i ρ s hI
    unfold forL
    rw [e1, ls, pb]
    refine Tr.bind (e2.imp fun c s1 ⟨ρ', ec, h1⟩ => ?_)
    subst ec
    refine (for_tr k xs (fun y hy => h y (List.mem_cons_of_mem _ hy)) _ ρ' s1 h1).imp fun c s2 ⟨ρ2, e, h2⟩ => ⟨ρ2, e, ?_⟩
    have e : i + k * (xs.length + 1) = i + k + k * xs.length := by rw [Nat.mul_add, Nat.mul_one]; omega
    show I (i + k * (xs.length + 1)) ρ2 s2
    rw [e]
    exact h2
/-- a comprehension over draws: at most k mixed at each turn -/
theorem lc_wf {bp : D → Rho → Option Rho} {elt : Rho → M D} {ρ : Rho} {Pd : D → Prop} (k : Nat) : ∀ (xs : List D), (∀ x ∈ xs, ∀ i s, Wf i s → i < 990000000 → ∃ ρ1, bp x ρ = some ρ1 ∧ Tr (elt ρ1 s) fun d s' => Wf (i + k) s' ∧ Pd d) →
    ∀ i s, Wf i s → i + k * xs.length < 990000000 → Tr (lcL bp (fun _ => pure true) elt ρ xs s) fun ds s' => Wf (i + k * xs.length) s' ∧ ds.length = xs.length ∧ ∀ d ∈ ds, Pd d := by
  intro xs h i s w hb
  have gen : ∀ (ys : List D), (∀ x ∈ ys, x ∈ xs) → ∀ i s, Wf i s → i + k * ys.length < 990000000 → Tr (lcL bp (fun _ => pure true) elt ρ ys s) fun ds s' => Wf (i + k * ys.length) s' ∧ ds.length = ys.length ∧ ∀ d ∈ ds, Pd d := by
    intro ys
    induction ys with
    | nil => intro _ i s w _; exact ⟨w, rfl, fun _ z => (nomatch z)⟩
    | cons y ys ih =>
      intro hm i s w hb
      have e : k * (y :: ys).length = k + k * ys.length := by rw [List.length_cons, Nat.mul_add, Nat.mul_one]; omega
      rw [e] at hb
      obtain ⟨ρ1, e1, e2⟩ := h y (hm y List.mem_cons_self) i s w (by omega)
      unfold lcL
      rw [e1, ls, pb]
      have e3 : M.noexc ((fun _ => pure true : Rho → M Bool) ρ1) = pure true := rfl
      rw [e3, pb, if_pos rfl]
      refine Tr.bind ?_
      have e4 : Tr (M.noexc (elt ρ1) s) fun d s' => Wf (i + k) s' ∧ Pd d := by
        unfold M.noexc
        cases q : elt ρ1 s with
        | ok a s' => rw [q] at e2; exact e2
        | exc c s' => rw [q] at e2; exact e2.elim
        | bad => rw [q] at e2; exact e2.elim
      refine e4.imp fun d s1 ⟨h1, h2⟩ => Tr.bind ((ih (fun x hx => hm x (List.mem_cons_of_mem _ hx)) (i + k) s1 h1 (by omega)).imp fun ds s2 ⟨h3, h4, h5⟩ => ?_)
      refine ⟨by rw [e, ← Nat.add_assoc]; exact h3, congrArg Nat.succ h4, fun d' hd => ?_⟩
      rcases List.mem_cons.mp hd with rfl | hd
      · exact h2
      · exact h5 d' hd
  exact gen xs (fun _ z => z) i s w hb
/-- a loop over draws that returns nothing: a promise about the names -/
theorem for_wf {bp : D → Rho → Option Rho} {body : Rho → M Ctl} {I : Rho → Prop} (k : Nat) (xs : List D) (h : ∀ x ∈ xs, ∀ i ρ s, Wf i s → i < 900000000 → I ρ → ∃ ρ1, bp x ρ = some ρ1 ∧ Tr (body ρ1 s) fun c s' => ∃ ρ', c = .nx ρ' ∧ I ρ' ∧ Wf (i + k) s') :
    ∀ i ρ s, Wf i s → i + k * xs.length < 900000000 → I ρ → Tr (forL bp body xs ρ s) fun c s' => ∃ ρ', c = .nx ρ' ∧ I ρ' ∧ Wf (i + k * xs.length) s' := by
  induction xs with
  | nil => intro i ρ s w _ hI; exact ⟨ρ, rfl, hI, w⟩
  | cons x xs ih =>
    intro i ρ s w hb hI
    have e : k * (x :: xs).length = k + k * xs.length := by rw [List.length_cons, Nat.mul_add, Nat.mul_one]; omega
    rw [e] at hb
    obtain ⟨ρ1, e1, e2⟩ := h x List.mem_cons_self i ρ s w (by omega) hI
    unfold forL
    rw [e1, ls, pb]
    refine Tr.bind (e2.imp fun c s1 ⟨ρ', ec, hI', w1⟩ => ?_)
    subst ec
    refine (ih (fun y hy => h y (List.mem_cons_of_mem _ hy)) (i + k) ρ' s1 w1 (by omega) hI').imp fun c s2 ⟨ρ2, e5, h5, w2⟩ => ⟨ρ2, e5, h5, ?_⟩
    rw [e, ← Nat.add_assoc]
    exact w2
end Jw
namespace Jw
open PySem PySem.Spec PyProof.Rows L2
def F_is_fraction : List Sl → M D := fDef 1 (fSeq (fIfS (fOrT (fNotT (fTest (fCall F_is_tuple (aCons (rdat 0) (aCons (fun _ => pure (.int 2)) (aCons (fun _ => pure (.int 2)) aNil)))))) (fNotT (fTest (f1 dAll (fList (fLc [1] (fItems (rdat 0)) ((Pat.nm 1)).bind (fun _ => pure true) (fAndV (f1 (dIsi "int") (rdat 1)) (f1 dNot (f1 (dIsi "bool") (rdat 1)))))))))) (fRet (fun _ => pure (.bool false))) fSkip)
  (fRet (fAndV (f2 dGt (f2 dIx (rdat 0) (fun _ => pure (.int 1))) (fun _ => pure (.int 0))) (f2 dEq (fCall F_reduced (aCons (f2 dIx (rdat 0) (fun _ => pure (.int 0))) (aCons (f2 dIx (rdat 0) (fun _ => pure (.int 1))) aNil))) (rdat 0)))))
def F_is_rate : List Sl → M D := fDef 0 (fRet (fAndV (fCall F_is_fraction (aCons (rdat 0) aNil)) (fChain dLe dLe (fun _ => pure (.int 0)) (f2 dIx (rdat 0) (fun _ => pure (.int 0))) (f2 dIx (rdat 0) (fun _ => pure (.int 1))))))
def F_check_pawn : List Sl → M D := fDef 0 (fIfS (fOrT (fNotT (fTest (fCall F_is_tuple (aCons (rdat 0) (aCons (fun _ => pure (.int 2)) (aCons (fun _ => pure (.int 2)) aNil)))))) (fOrT (fNotT (fTest (fCall F_is_within (aCons (f2 dIx (rdat 0) (fun _ => pure (.int 0))) (aCons (fun _ => pure (.int 1)) (aCons (fun _ => pure (.int 1000)) aNil)))))) (fNotT (fTest (fCall F_is_rate (aCons (f2 dIx (rdat 0) (fun _ => pure (.int 1))) aNil)))))) (fRaise "NoPawn") fSkip)
def F_check_pay : List Sl → M D := fDef 0 (fSeq (fDrop (fCall F_check_pawn (aCons (rdat 0) aNil)))
  (fIfS (fNotT (fTest (fCall F_is_within (aCons (rdat 1) (aCons (fun _ => pure (.int 0)) (aCons (fun _ => pure (.int 2000)) aNil)))))) (fRaise "NoPay") fSkip))
def F_grown : List Sl → M D := fDef 0 (fRet (f2 dAdd (rdat 0) (f2 dDiv (f2 dSub (f2 dAdd (f2 dMul (rdat 0) (f2 dIx (rdat 1) (fun _ => pure (.int 0)))) (f2 dIx (rdat 1) (fun _ => pure (.int 1)))) (fun _ => pure (.int 1))) (f2 dIx (rdat 1) (fun _ => pure (.int 1))))))
def F_month_later : List Sl → M D := fDef 0 (fSeq (fDrop (fCall F_check_pay (aCons (rdat 0) (aCons (rdat 1) aNil))))
  (fRet (f2 dMax2 (fun _ => pure (.int 0)) (f2 dSub (fCall F_grown (aCons (f2 dIx (rdat 0) (fun _ => pure (.int 0))) (aCons (f2 dIx (rdat 0) (fun _ => pure (.int 1))) aNil))) (rdat 1)))))
def F_told : List Sl → M D := fDef 6 (fSeq (fUnpack (Pat.tp (Pats.cons (Pat.nm 2) (Pats.cons (Pat.nm 3) Pats.nil))) (rdat 0))
  (fSeq (fSet 4 (nDat (f2 dSub (fCall F_grown (aCons (rdat 2) (aCons (rdat 3) aNil))) (rdat 1))))
  (fSeq (fIfS (fTest (f2 dGe (rdat 4) (rdat 2))) (fRet (fTup (dCons (fun _ => pure (.str "never")) (dCons (rdat 4) dNil)))) fSkip)
  (fSeq (fSet 5 (nDat (fun _ => pure (.int 0))))
  (fSeq (fWhile (fTest (f2 dGt (rdat 2) (fun _ => pure (.int 0)))) (fSeq (fPar 6 5 (nDat (fCall F_grown (aCons (rdat 2) (aCons (rdat 3) aNil)))) (nDat (f2 dAdd (rdat 5) (fun _ => pure (.int 1)))))
  (fPar 7 2 (nDat (f2 dMin2 (rdat 1) (rdat 6))) (nDat (f2 dMax2 (fun _ => pure (.int 0)) (f2 dSub (rdat 6) (rdat 1)))))))
  (fRet (fTup (dCons (fun _ => pure (.str "paid")) (dCons (rdat 5) (dCons (rdat 7) dNil))))))))))
def F_paid_or_never : List Sl → M D := fDef 0 (fSeq (fDrop (fCall F_check_pay (aCons (rdat 0) (aCons (rdat 1) aNil))))
  (fRet (fCall F_told (aCons (rdat 0) (aCons (rdat 1) aNil)))))
def F_least_pay : List Sl → M D := fDef 5 (fSeq (fDrop (fCall F_check_pawn (aCons (rdat 0) aNil)))
  (fSeq (fIfS (fNotT (fTest (fCall F_is_within (aCons (rdat 1) (aCons (fun _ => pure (.int 1)) (aCons (fun _ => pure (.int 60)) aNil)))))) (fRaise "NoNumber") fSkip)
  (fSeq (fPar 2 3 (nDat (fun _ => pure (.int 0))) (nDat (fCall F_grown (aCons (f2 dIx (rdat 0) (fun _ => pure (.int 0))) (aCons (f2 dIx (rdat 0) (fun _ => pure (.int 1))) aNil)))))
  (fSeq (fWhile (fTest (f2 dGt (f2 dSub (rdat 3) (rdat 2)) (fun _ => pure (.int 1)))) (fSeq (fSet 4 (nDat (f2 dDiv (f2 dAdd (rdat 2) (rdat 3)) (fun _ => pure (.int 2)))))
  (fSeq (fSet 5 (nDat (f2 dIx (rdat 0) (fun _ => pure (.int 0)))))
  (fSeq (fFor (fRng1 (rdat 1)) ((Pat.nm 6)).bind (fSet 5 (nDat (f2 dMax2 (fun _ => pure (.int 0)) (f2 dSub (fCall F_grown (aCons (rdat 5) (aCons (f2 dIx (rdat 0) (fun _ => pure (.int 1))) aNil))) (rdat 4))))))
  (fIfS (fTest (f2 dEq (rdat 5) (fun _ => pure (.int 0)))) (fSet 3 (nDat (rdat 4))) (fSet 2 (nDat (rdat 4))))))))
  (fRet (rdat 3))))))
def F_whole_of : List Sl → M D := fDef 1 (fSeq (fSet 2 (nDat (fCall F_told (aCons (rdat 0) (aCons (rdat 1) aNil)))))
  (fRet (fIf (fTest (f2 dEq (f2 dIx (rdat 2) (fun _ => pure (.int 0))) (fun _ => pure (.str "never")))) (fun _ => pure .none) (f2 dAdd (f2 dMul (f2 dSub (f2 dIx (rdat 2) (fun _ => pure (.int 1))) (fun _ => pure (.int 1))) (rdat 1)) (f2 dIx (rdat 2) (fun _ => pure (.int 2)))))))
def F_whole_paid : List Sl → M D := fDef 0 (fSeq (fDrop (fCall F_check_pay (aCons (rdat 0) (aCons (rdat 1) aNil))))
  (fRet (fCall F_whole_of (aCons (rdat 0) (aCons (rdat 1) aNil)))))
def F_are_pays : List Sl → M D := fDef 1 (fRet (fAndV (fCall F_is_tuple (aCons (rdat 0) (aCons (rdat 1) (aCons (fun _ => pure (.int 12)) aNil)))) (f1 dAll (fList (fLc [2] (fItems (rdat 0)) ((Pat.nm 2)).bind (fun _ => pure true) (fCall F_is_within (aCons (rdat 2) (aCons (fun _ => pure (.int 0)) (aCons (fun _ => pure (.int 2000)) aNil)))))))))
def F_owed_in : List Sl → M D := fDef 3 (fSeq (fDrop (fCall F_check_pawn (aCons (rdat 0) aNil)))
  (fSeq (fIfS (fNotT (fTest (fCall F_are_pays (aCons (rdat 1) (aCons (fun _ => pure (.int 0)) aNil))))) (fRaise "NoPays") fSkip)
  (fSeq (fUnpack (Pat.tp (Pats.cons (Pat.nm 2) (Pats.cons (Pat.nm 3) Pats.nil))) (rdat 0))
  (fSeq (fFor (fItems (rdat 1)) ((Pat.nm 4)).bind (fSet 2 (nDat (f2 dMax2 (fun _ => pure (.int 0)) (f2 dSub (fCall F_grown (aCons (rdat 2) (aCons (rdat 3) aNil))) (rdat 4))))))
  (fRet (rdat 2))))))
def F_doubles_in : List Sl → M D := fDef 2 (fSeq (fDrop (fCall F_check_pawn (aCons (rdat 0) aNil)))
  (fSeq (fSet 1 (nDat (f2 dIx (rdat 0) (fun _ => pure (.int 0)))))
  (fSeq (fFor (fRng2 (fun _ => pure (.int 1)) (f2 dAdd (fun _ => pure (.int 200)) (fun _ => pure (.int 1)))) ((Pat.nm 2)).bind (fSeq (fSet 1 (nDat (fCall F_grown (aCons (rdat 1) (aCons (f2 dIx (rdat 0) (fun _ => pure (.int 1))) aNil)))))
  (fIfS (fTest (f2 dGe (rdat 1) (f2 dMul (fun _ => pure (.int 2)) (f2 dIx (rdat 0) (fun _ => pure (.int 0)))))) (fRet (rdat 2)) fSkip)))
  (fRet (fun _ => pure .none)))))
def F_better_pawn : List Sl → M D := fDef 3 (fSeq (fDrop (fCall F_check_pawn (aCons (rdat 0) aNil)))
  (fSeq (fDrop (fCall F_check_pay (aCons (rdat 1) (aCons (rdat 2) aNil))))
  (fSeq (fSet 3 (nOwn dNil))
  (fSeq (fFor (fIt dEnumT (fTup (dCons (rdat 0) (dCons (rdat 1) dNil)))) ((Pat.tp (Pats.cons (Pat.nm 4) (Pats.cons (Pat.nm 5) Pats.nil)))).bind (fIfS (fTest (f2 dIsNot (fCall F_whole_of (aCons (rdat 5) (aCons (rdat 2) aNil))) (fun _ => pure .none))) (fAppend 3 (fTup (dCons (fCall F_whole_of (aCons (rdat 5) (aCons (rdat 2) aNil))) (dCons (f2 dIx (fCall F_told (aCons (rdat 5) (aCons (rdat 2) aNil))) (fun _ => pure (.int 1))) (dCons (rdat 4) dNil))))) fSkip))
  (fRet (fIf (fTest (f2 dGt (f1 dLen (rany 3)) (fun _ => pure (.int 0)))) (f2 dIx (f1 (dBestL PySem.W.minD) (rany 3)) (fun _ => pure (.int 2))) (fun _ => pure .none)))))))
def F_worth_now : List Sl → M D := fDef 3 (fSeq (fIfS (fNotT (fTest (fCall F_are_pays (aCons (rdat 0) (aCons (fun _ => pure (.int 1)) aNil))))) (fRaise "NoPays") fSkip)
  (fSeq (fIfS (fNotT (fTest (fCall F_is_rate (aCons (rdat 1) aNil)))) (fRaise "NoRate") fSkip)
  (fSeq (fUnpack (Pat.tp (Pats.cons (Pat.nm 2) (Pats.cons (Pat.nm 3) Pats.nil))) (fTup (dCons (fTup (dCons (fun _ => pure (.int 0)) (dCons (fun _ => pure (.int 1)) dNil))) (dCons (fTup (dCons (fun _ => pure (.int 1)) (dCons (fun _ => pure (.int 1)) dNil))) dNil))))
  (fSeq (fFor (fItems (rdat 0)) ((Pat.nm 4)).bind (fSeq (fSet 3 (nDat (fCall F_parted (aCons (rdat 3) (aCons (fCall F_added (aCons (fTup (dCons (fun _ => pure (.int 1)) (dCons (fun _ => pure (.int 1)) dNil))) (aCons (rdat 1) aNil))) aNil)))))
  (fSet 2 (nDat (fCall F_added (aCons (rdat 2) (aCons (fCall F_times (aCons (fTup (dCons (rdat 4) (dCons (fun _ => pure (.int 1)) dNil))) (aCons (rdat 3) aNil))) aNil)))))))
  (fRet (rdat 2))))))
def F__law_grown : List Sl → M D := fDef 0 (fRet (f2 dAdd (rdat 0) (f2 dDiv (f2 dSub (f2 dAdd (f2 dMul (rdat 0) (f2 dIx (rdat 1) (fun _ => pure (.int 0)))) (f2 dIx (rdat 1) (fun _ => pure (.int 1)))) (fun _ => pure (.int 1))) (f2 dIx (rdat 1) (fun _ => pure (.int 1))))))
def F__law_paid : List Sl → M D := fDef 3 (fSeq (fSet 3 (nDat (fun _ => pure (.int 0))))
  (fSeq (fFor (fRng2 (fun _ => pure (.int 1)) (fun _ => pure (.int 5000))) ((Pat.nm 4)).bind (fSeq (fSet 5 (nDat (fCall F__law_grown (aCons (rdat 0) (aCons (rdat 1) aNil)))))
  (fSeq (fIfS (fTest (f2 dLe (rdat 5) (rdat 2))) (fRet (fTup (dCons (fun _ => pure (.str "paid")) (dCons (rdat 4) (dCons (rdat 5) (dCons (f2 dAdd (rdat 3) (rdat 5)) dNil)))))) fSkip)
  (fSeq (fIfS (fTest (f2 dGe (f2 dSub (rdat 5) (rdat 2)) (rdat 0))) (fRet (fTup (dCons (fun _ => pure (.str "never")) (dCons (f2 dSub (rdat 5) (rdat 2)) dNil)))) fSkip)
  (fPar 0 3 (nDat (f2 dSub (rdat 5) (rdat 2))) (nDat (f2 dAdd (rdat 3) (rdat 2))))))))
  (fRet (fun _ => pure .none))))
def F__law_pawn : List Sl → M D := fDef 2 (fSeq (fSet 1 (nDat (fList (dCons (fTup (dCons (fun _ => pure (.int 0)) (dCons (fun _ => pure (.int 1)) dNil))) (dCons (fTup (dCons (fun _ => pure (.int 1)) (dCons (fun _ => pure (.int 1)) dNil))) (dCons (fTup (dCons (fun _ => pure (.int 1)) (dCons (fun _ => pure (.int 2)) dNil))) (dCons (fCall F__law_low (aCons (fCall F__law_draw (aHand 0 (aCons (fun _ => pure (.int 30)) aNil))) (aCons (fun _ => pure (.int 100)) aNil))) (dCons (fCall F__law_low (aCons (f2 dAdd (fun _ => pure (.int 1)) (fCall F__law_draw (aHand 0 (aCons (fun _ => pure (.int 6)) aNil)))) (aCons (fun _ => pure (.int 7)) aNil))) dNil))))))))
  (fSeq (fSet 2 (nDat (fCall F__law_some (aHand 0 (aCons (rdat 1) aNil)))))
  (fRet (fTup (dCons (f2 dAdd (fun _ => pure (.int 1)) (fCall F__law_draw (aHand 0 (aCons (fCall F__law_some (aHand 0 (aCons (fList (dCons (fun _ => pure (.int 5)) (dCons (fun _ => pure (.int 60)) (dCons (fun _ => pure (.int 1000)) dNil)))) aNil))) aNil)))) (dCons (rdat 2) dNil))))))
def F__law_owed : List Sl → M D := fDef 2 (fSeq (fFor (fItems (rdat 2)) ((Pat.nm 3)).bind (fSeq (fSet 4 (nDat (fCall F__law_grown (aCons (rdat 0) (aCons (rdat 1) aNil)))))
  (fSet 0 (nDat (f2 dSub (rdat 4) (f2 dMin2 (rdat 3) (rdat 4)))))))
  (fRet (rdat 0)))
def F__law_is_paid_right : List Sl → M D := fDef 7 (fSeq (fUnpack (Pat.tp (Pats.cons (Pat.nm 3) (Pats.cons (Pat.nm 4) Pats.nil))) (rdat 1))
  (fSeq (fSet 5 (nDat (fCall F__law_paid (aCons (rdat 3) (aCons (rdat 4) (aCons (rdat 2) aNil))))))
  (fSeq (fSet 6 (nDat (fCall F__law_grown (aCons (rdat 3) (aCons (rdat 4) aNil)))))
  (fSeq (fIfS (fTest (f2 dNe (fCall F_month_later (aCons (rdat 1) (aCons (rdat 2) aNil))) (f2 dSub (rdat 6) (f2 dMin2 (rdat 2) (rdat 6))))) (fRet (fun _ => pure (.bool false))) fSkip)
  (fSeq (fIfS (fTest (f2 dIs (rdat 5) (fun _ => pure .none))) (fRet (fun _ => pure (.bool true))) fSkip)
  (fSeq (fSet 7 (nDat (fCall F_paid_or_never (aCons (rdat 1) (aCons (rdat 2) aNil)))))
  (fSeq (fIfS (fTest (f2 dEq (f2 dIx (rdat 5) (fun _ => pure (.int 0))) (fun _ => pure (.str "never")))) (fRet (fAndV (fChain dEq dEq (rdat 7) (fTup (dCons (fun _ => pure (.str "never")) (dCons (f2 dSub (rdat 6) (rdat 2)) dNil))) (rdat 5)) (f2 dIs (fCall F_whole_paid (aCons (rdat 1) (aCons (rdat 2) aNil))) (fun _ => pure .none)))) fSkip)
  (fSeq (fIfS (fOrT (fTest (f2 dNe (rdat 7) (fSlice (rdat 5) oNone (oSome (fun _ => pure (.int 3)))))) (fTest (f2 dNe (fCall F_whole_paid (aCons (rdat 1) (aCons (rdat 2) aNil))) (f2 dIx (rdat 5) (fun _ => pure (.int 3)))))) (fRet (fun _ => pure (.bool false))) fSkip)
  (fSeq (fIfS (fTest (f2 dGt (f2 dIx (rdat 5) (fun _ => pure (.int 1))) (fun _ => pure (.int 12)))) (fRet (fun _ => pure (.bool true))) fSkip)
  (fSeq (fSet 8 (nDat (f2 dAdd (f2 dMul (fTup (dCons (rdat 2) dNil)) (f2 dSub (f2 dIx (rdat 5) (fun _ => pure (.int 1))) (fun _ => pure (.int 1)))) (fTup (dCons (f2 dIx (rdat 5) (fun _ => pure (.int 2))) dNil)))))
  (fSeq (fSet 9 (nDat (fCall F_worth_now (aCons (rdat 8) (aCons (rdat 4) aNil)))))
  (fSeq (fIfS (fOrT (fTest (f2 dNe (fCall F_owed_in (aCons (rdat 1) (aCons (rdat 8) aNil))) (fun _ => pure (.int 0)))) (fTest (f2 dNe (fCall F_owed_in (aCons (rdat 1) (aCons (fSlice (rdat 8) oNone (oSome (f1 dNeg (fun _ => pure (.int 1))))) aNil))) (fCall F__law_owed (aCons (rdat 3) (aCons (rdat 4) (aCons (fSlice (rdat 8) oNone (oSome (f1 dNeg (fun _ => pure (.int 1))))) aNil))))))) (fRet (fun _ => pure (.bool false))) fSkip)
  (fSeq (fIfS (fOrT (fTest (f2 dLt (f2 dIx (rdat 9) (fun _ => pure (.int 0))) (f2 dMul (rdat 3) (f2 dIx (rdat 9) (fun _ => pure (.int 1)))))) (fTest (f2 dGe (f2 dIx (rdat 9) (fun _ => pure (.int 0))) (f2 dMul (f2 dAdd (rdat 3) (f2 dIx (rdat 5) (fun _ => pure (.int 1)))) (f2 dIx (rdat 9) (fun _ => pure (.int 1))))))) (fRet (fun _ => pure (.bool false))) fSkip)
  (fRet (fOrV (f2 dNe (rdat 4) (fTup (dCons (fun _ => pure (.int 0)) (dCons (fun _ => pure (.int 1)) dNil)))) (fAndV (f2 dEq (rdat 9) (fTup (dCons (rdat 3) (dCons (fun _ => pure (.int 1)) dNil)))) (f2 dEq (f1 dSumD (rdat 8)) (rdat 3))))))))))))))))))
def F__law_is_worth_right : List Sl → M D := fDef 5 (fSeq (fSet 1 (nDat (f1 dTuple (fList (fLc [2] (fRng1 (f2 dAdd (fun _ => pure (.int 1)) (fCall F__law_draw (aHand 0 (aCons (fun _ => pure (.int 12)) aNil))))) ((Pat.nm 2)).bind (fun _ => pure true) (fCall F__law_some (aHand 0 (aCons (fList (dCons (fun _ => pure (.int 0)) (dCons (fun _ => pure (.int 1)) (dCons (fCall F__law_draw (aHand 0 (aCons (fun _ => pure (.int 2001)) aNil))) dNil)))) aNil))))))))
  (fSeq (fPar 3 4 (nDat (f2 dIx (fCall F__law_pawn (aHand 0 aNil)) (fun _ => pure (.int 1)))) (nDat (fTup (dCons (fun _ => pure (.int 0)) (dCons (fun _ => pure (.int 1)) dNil)))))
  (fSeq (fFor (fItems (f1 dBackT (rdat 1))) ((Pat.nm 5)).bind (fSeq (fSet 4 (nDat (fCall F__law_plus (aCons (rdat 4) (aCons (fTup (dCons (rdat 5) (dCons (fun _ => pure (.int 1)) dNil))) aNil)))))
  (fSet 4 (nDat (fCall F__law_low (aCons (f2 dMul (f2 dIx (rdat 4) (fun _ => pure (.int 0))) (f2 dIx (rdat 3) (fun _ => pure (.int 1)))) (aCons (f2 dMul (f2 dIx (rdat 4) (fun _ => pure (.int 1))) (f2 dAdd (f2 dIx (rdat 3) (fun _ => pure (.int 0))) (f2 dIx (rdat 3) (fun _ => pure (.int 1))))) aNil)))))))
  (fRet (f2 dEq (fCall F_worth_now (aCons (rdat 1) (aCons (rdat 3) aNil))) (rdat 4))))))
def F__law_is_least_right : List Sl → M D := fDef 4 (fSeq (fSet 2 (nDat (f2 dAdd (fun _ => pure (.int 1)) (fCall F__law_draw (aHand 0 (aCons (fun _ => pure (.int 24)) aNil))))))
  (fSeq (fSet 3 (nDat (fCall F_least_pay (aCons (rdat 1) (aCons (rdat 2) aNil)))))
  (fSeq (fPar 4 5 (nDat (fCall F__law_paid (aCons (f2 dIx (rdat 1) (fun _ => pure (.int 0))) (aCons (f2 dIx (rdat 1) (fun _ => pure (.int 1))) (aCons (rdat 3) aNil))))) (nDat (fIf (fTest (f2 dGt (rdat 3) (fun _ => pure (.int 0)))) (fCall F__law_paid (aCons (f2 dIx (rdat 1) (fun _ => pure (.int 0))) (aCons (f2 dIx (rdat 1) (fun _ => pure (.int 1))) (aCons (f2 dSub (rdat 3) (fun _ => pure (.int 1))) aNil)))) (fun _ => pure .none))))
  (fSeq (fIfS (fOrT (fTest (f2 dIs (rdat 4) (fun _ => pure .none))) (fOrT (fTest (f2 dNe (f2 dIx (rdat 4) (fun _ => pure (.int 0))) (fun _ => pure (.str "paid")))) (fTest (f2 dGt (f2 dIx (rdat 4) (fun _ => pure (.int 1))) (rdat 2))))) (fRet (fun _ => pure (.bool false))) fSkip)
  (fRet (fOrV (f2 dIs (rdat 5) (fun _ => pure .none)) (fOrV (f2 dEq (f2 dIx (rdat 5) (fun _ => pure (.int 0))) (fun _ => pure (.str "never"))) (f2 dGt (f2 dIx (rdat 5) (fun _ => pure (.int 1))) (rdat 2)))))))))
def F__law_are_others_right : List Sl → M D := fDef 8 (fSeq (fPar 3 4 (nDat (f2 dIx (rdat 1) (fun _ => pure (.int 0)))) (nDat (fun _ => pure .none)))
  (fSeq (fFor (fRng2 (fun _ => pure (.int 1)) (fun _ => pure (.int 201))) ((Pat.nm 5)).bind (fSeq (fSet 3 (nDat (fCall F__law_grown (aCons (rdat 3) (aCons (f2 dIx (rdat 1) (fun _ => pure (.int 1))) aNil)))))
  (fSet 4 (nDat (fIf (fAndT (fTest (f2 dIs (rdat 4) (fun _ => pure .none))) (fTest (f2 dGe (rdat 3) (f2 dMul (fun _ => pure (.int 2)) (f2 dIx (rdat 1) (fun _ => pure (.int 0))))))) (rdat 5) (rdat 4))))))
  (fSeq (fIfS (fTest (f2 dNe (fCall F_doubles_in (aCons (rdat 1) aNil)) (rdat 4))) (fRet (fun _ => pure (.bool false))) fSkip)
  (fSeq (fSet 6 (nDat (fCall F__law_some (aHand 0 (aCons (fList (dCons (f2 dIx (rdat 1) (fun _ => pure (.int 0))) (dCons (fCall F__law_grown (aCons (f2 dIx (rdat 1) (fun _ => pure (.int 0))) (aCons (f2 dIx (rdat 1) (fun _ => pure (.int 1))) aNil))) (dCons (f2 dAdd (fun _ => pure (.int 1)) (fCall F__law_draw (aHand 0 (aCons (fun _ => pure (.int 600)) aNil)))) dNil)))) aNil)))))
  (fSeq (fSet 7 (nOwn dNil))
  (fSeq (fFor (fIt dEnumT (fTup (dCons (rdat 1) (dCons (rdat 2) dNil)))) ((Pat.tp (Pats.cons (Pat.nm 8) (Pats.cons (Pat.nm 9) Pats.nil)))).bind (fSeq (fSet 10 (nDat (fCall F__law_paid (aCons (f2 dIx (rdat 9) (fun _ => pure (.int 0))) (aCons (f2 dIx (rdat 9) (fun _ => pure (.int 1))) (aCons (rdat 6) aNil))))))
  (fSeq (fIfS (fTest (f2 dIs (rdat 10) (fun _ => pure .none))) (fRet (fun _ => pure (.bool true))) fSkip)
  (fExtend 7 (fIf (fTest (f2 dEq (f2 dIx (rdat 10) (fun _ => pure (.int 0))) (fun _ => pure (.str "paid")))) (fList (dCons (fTup (dCons (f2 dIx (rdat 10) (fun _ => pure (.int 3))) (dCons (f2 dIx (rdat 10) (fun _ => pure (.int 1))) (dCons (rdat 8) dNil)))) dNil)) (fList dNil))))))
  (fRet (f2 dEq (fCall F_better_pawn (aCons (rdat 1) (aCons (rdat 2) (aCons (rdat 6) aNil)))) (fIf (fTest (f2 dNe (rany 7) (fList dNil))) (f2 dIx (f1 (dBestL PySem.W.minD) (rany 7)) (fun _ => pure (.int 2))) (fun _ => pure .none))))))))))
def B_law : Rho → M Ctl := (fSeq (fFor (fRng1 (fun _ => pure (.int 4))) ((Pat.nm 2)).bind (fSeq (fUnpack (Pat.tp (Pats.cons (Pat.nm 3) (Pats.cons (Pat.nm 4) Pats.nil))) (fTup (dCons (fCall F__law_pawn (aHand 1 aNil)) (dCons (fCall F__law_pawn (aHand 1 aNil)) dNil))))
  (fSeq (fSet 5 (nDat (fList (dCons (fCall F__law_grown (aCons (f2 dIx (rdat 3) (fun _ => pure (.int 0))) (aCons (f2 dIx (rdat 3) (fun _ => pure (.int 1))) aNil))) (dCons (f2 dAdd (f2 dDiv (f2 dIx (rdat 3) (fun _ => pure (.int 0))) (fun _ => pure (.int 2))) (fun _ => pure (.int 1))) (dCons (fCall F__law_draw (aHand 1 (aCons (fun _ => pure (.int 2001)) aNil))) (dCons (f2 dAdd (fun _ => pure (.int 1)) (f2 dDiv (f2 dIx (rdat 3) (fun _ => pure (.int 0))) (fun _ => pure (.int 9)))) dNil)))))))
  (fSeq (fIfS (fOrT (fNotT (fTest (f1 dAll (fList (fLc [6] (fItems (rdat 5)) ((Pat.nm 6)).bind (fun _ => pure true) (fCall F__law_is_paid_right (aHand 1 (aCons (rdat 3) (aCons (f2 dMin2 (fun _ => pure (.int 2000)) (rdat 6)) aNil))))))))) (fNotT (fTest (fCall F__law_is_worth_right (aHand 1 aNil))))) (fRet (fun _ => pure (.bool false))) fSkip)
  (fIfS (fOrT (fNotT (fTest (fCall F__law_is_least_right (aHand 1 (aCons (rdat 3) aNil))))) (fNotT (fTest (fCall F__law_are_others_right (aHand 1 (aCons (rdat 3) (aCons (rdat 4) aNil))))))) (fRet (fun _ => pure (.bool false))) fSkip)))))
  (fRet (fun _ => pure (.bool true))))
end Jw
namespace Jw
open PySem PySem.Spec PyProof.Rows L2
def top (i : Nat) : Stmt := PySem.Challenge.pw_fewjewels_k69_whole_pawns_paid_and_worth.main.body.getD i (.Pass ⟨0, 0, 0, 0⟩)
/-- what the walk asks of the module as the top has made it -/
structure Tx (K : PySem.W.Frag) (mg : Str → Option Value) : Prop where
  d_is_integer : Df K mg "is_integer" (top 1)
  d_is_within : Df K mg "is_within" (top 2)
  d_is_tuple : Df K mg "is_tuple" (top 3)
  d_divisor : Df K mg "divisor" (top 12)
  d_reduced : Df K mg "reduced" (top 13)
  d_added : Df K mg "added" (top 14)
  d_times : Df K mg "times" (top 15)
  d_parted : Df K mg "parted" (top 16)
  d_is_fraction : Df K mg "is_fraction" (top 17)
  d_is_rate : Df K mg "is_rate" (top 24)
  d_check_pawn : Df K mg "check_pawn" (top 25)
  d_check_pay : Df K mg "check_pay" (top 26)
  d_grown : Df K mg "grown" (top 27)
  d_month_later : Df K mg "month_later" (top 28)
  d_told : Df K mg "told" (top 29)
  d_paid_or_never : Df K mg "paid_or_never" (top 30)
  d_least_pay : Df K mg "least_pay" (top 31)
  d_whole_of : Df K mg "whole_of" (top 32)
  d_whole_paid : Df K mg "whole_paid" (top 33)
  d_are_pays : Df K mg "are_pays" (top 34)
  d_owed_in : Df K mg "owed_in" (top 35)
  d_doubles_in : Df K mg "doubles_in" (top 36)
  d_better_pawn : Df K mg "better_pawn" (top 37)
  d_worth_now : Df K mg "worth_now" (top 38)
  d__law_hand : Df K mg "_law_hand" (top 40)
  d__law_draw : Df K mg "_law_draw" (top 41)
  d__law_some : Df K mg "_law_some" (top 42)
  d__law_common : Df K mg "_law_common" (top 43)
  d__law_low : Df K mg "_law_low" (top 44)
  d__law_plus : Df K mg "_law_plus" (top 45)
  d__law_grown : Df K mg "_law_grown" (top 46)
  d__law_paid : Df K mg "_law_paid" (top 47)
  d__law_pawn : Df K mg "_law_pawn" (top 48)
  d__law_owed : Df K mg "_law_owed" (top 50)
  d__law_is_paid_right : Df K mg "_law_is_paid_right" (top 49)
  d__law_is_worth_right : Df K mg "_law_is_worth_right" (top 51)
  d__law_is_least_right : Df K mg "_law_is_least_right" (top 52)
  d__law_are_others_right : Df K mg "_law_are_others_right" (top 53)
  d_law : Df K mg "law" (top 54)
  n_abs : mg "abs" = none
  n_all : mg "all" = none
  n_bool : mg "bool" = none
  n_enumerate : mg "enumerate" = none
  n_int : mg "int" = none
  n_isinstance : mg "isinstance" = none
  n_len : mg "len" = none
  n_max : mg "max" = none
  n_min : mg "min" = none
  n_range : mg "range" = none
  n_sum : mg "sum" = none
  n_tuple : mg "tuple" = none
  m_MOST_DOUBLED : ∃ u, mg "MOST_DOUBLED" = some (.int 200 u)
  m_MOST_MONTHS : ∃ u, mg "MOST_MONTHS" = some (.int 60 u)
  m_MOST_OWED : ∃ u, mg "MOST_OWED" = some (.int 1000 u)
  m_MOST_PAY : ∃ u, mg "MOST_PAY" = some (.int 2000 u)
  m_MOST_PAYS : ∃ u, mg "MOST_PAYS" = some (.int 12 u)
section
variable {P : Program} {w : World} {K : PySem.W.Frag} {mg : Str → Option Value} {base : Heap}
theorem s_is_integer : FnScope ["thing"] ["thing"] (defScope (top 1)) := C8.fnScope_by (by decide +kernel)
theorem c_is_integer (Y : Tx K mg) : Cal P w K mg base [] 1 1 "is_integer" F_is_integer := by
  have S := s_is_integer
  refine cal_mk (k := 0) (m := 0) Y.d_is_integer S rfl rfl (fun _ _ _ _ _ _ us hl => match us, hl with | [_], _ => rfl) fun f cdv A outer s H E hr => ?_
  exact dss_one (ds_ret (de_and (DE.b (e_isi "int" boot_int (by decide) (by decide) Y.n_isinstance Y.n_int (DE.b (de_var 0)))) (de_one (de_not (DE.b (e_isi "bool" boot_bool (by decide) (by decide) Y.n_isinstance Y.n_bool (DE.b (de_var 0))))))))
theorem s_is_within : FnScope ["thing", "low", "high"] ["thing", "low", "high"] (defScope (top 2)) := C8.fnScope_by (by decide +kernel)
theorem c_is_within (Y : Tx K mg) : Cal P w K mg base [] 2 3 "is_within" F_is_within := by
  have S := s_is_within
  refine cal_mk (k := 1) (m := 0) Y.d_is_within S rfl rfl (fun _ _ _ _ _ _ us hl => match us, hl with | [_, _, _], _ => rfl) fun f cdv A outer s H E hr => ?_
  exact dss_one (ds_ret (de_and (DE.b (de_cal (c_is_integer Y) hr (by decide) rfl ((da_cons (de_var 0) (da_nil))))) (de_one (de_chain op_le op_le p_le p_le (DE.b (de_var 1)) (DE.b (de_var 0)) (DE.b (de_var 2))))))
theorem s_is_tuple : FnScope ["thing", "least", "most"] ["thing", "least", "most"] (defScope (top 3)) := C8.fnScope_by (by decide +kernel)
theorem c_is_tuple (Y : Tx K mg) : Cal P w K mg base [] 1 3 "is_tuple" F_is_tuple := by
  have S := s_is_tuple
  refine cal_mk (k := 0) (m := 0) Y.d_is_tuple S rfl rfl (fun _ _ _ _ _ _ us hl => match us, hl with | [_, _, _], _ => rfl) fun f cdv A outer s H E hr => ?_
  exact dss_one (ds_ret (de_and (DE.b (e_isi "tuple" boot_tuple (by decide) (by decide) Y.n_isinstance Y.n_tuple (DE.b (de_var 0)))) (de_one (de_chain op_le op_le p_le p_le (DE.b (de_var 1)) (DE.b (e_len Y.n_len (DE.b (de_var 0)))) (DE.b (de_var 2))))))
theorem s_divisor : FnScope ["one", "other"] ["one", "other"] (defScope (top 12)) := C8.fnScope_by (by decide +kernel)
theorem c_divisor (Y : Tx K mg) : Cal P w K mg base [] 1 2 "divisor" F_divisor := by
  have S := s_divisor
  refine cal_mk (k := 0) (m := 0) Y.d_divisor S rfl rfl (fun _ _ _ _ _ _ us hl => match us, hl with | [_, _], _ => rfl) fun f cdv A outer s H E hr => ?_
  exact dss_cons (ds_par 0 1 rfl S.nd (DE.n (e_abs Y.n_abs (DE.b (de_var 0)))) (DE.n (e_abs Y.n_abs (DE.b (de_var 1)))))
      (dss_cons (ds_whileF PassesOwn.never (dt_cmp (op_neD (hu64 hr)) p_ne (nomark _) (DE.b (de_var 1)) (DE.b (de_int))) (dss_one (ds_par 0 1 rfl S.nd (DE.n (de_var 1)) (DE.n (de_mod (DE.b (de_var 0)) (DE.b (de_var 1)))))))
      (dss_one (ds_ret (de_var 0))))
theorem s_reduced : FnScope ["top", "bottom", "low", "sign"] ["top", "bottom"] (defScope (top 13)) := C8.fnScope_by (by decide +kernel)
theorem c_reduced (Y : Tx K mg) : Cal P w K mg base [] 2 2 "reduced" F_reduced := by
  have S := s_reduced
  refine cal_mk (k := 1) (m := 2) Y.d_reduced S rfl rfl (fun _ _ _ _ _ _ us hl => match us, hl with | [_, _], _ => rfl) fun f cdv A outer s H E hr => ?_
  exact dss_cons (ds_set 2 S.nd (DE.n (de_cal (c_divisor Y) hr (by decide) rfl ((da_cons (de_var 0) ((da_cons (de_var 1) (da_nil))))))))
      (dss_cons (ds_set 3 S.nd (DE.n (de_if (dt_cmp op_gt p_gt (nomark _) (DE.b (de_var 1)) (DE.b (de_int))) (de_int) (de_neg (DE.b (de_int))))))
      (dss_one (ds_ret (de_tup ((dd_cons (de_div (DE.b (de_mul (DE.b (de_var 3)) (DE.b (de_var 0)))) (DE.b (de_var 2))) ((dd_cons (de_div (DE.b (de_mul (DE.b (de_var 3)) (DE.b (de_var 1)))) (DE.b (de_var 2))) (dd_nil)))))))))
theorem s_added : FnScope ["one", "other"] ["one", "other"] (defScope (top 14)) := C8.fnScope_by (by decide +kernel)
theorem c_added (Y : Tx K mg) : Cal P w K mg base [] 3 2 "added" F_added := by
  have S := s_added
  refine cal_mk (k := 2) (m := 0) Y.d_added S rfl rfl (fun _ _ _ _ _ _ us hl => match us, hl with | [_, _], _ => rfl) fun f cdv A outer s H E hr => ?_
  exact dss_one (ds_ret (de_cal (c_reduced Y) hr (by decide) rfl ((da_cons (de_add (DE.b (de_mul (DE.b (de_ix (DE.b (de_var 0)) (DE.b (de_int)))) (DE.b (de_ix (DE.b (de_var 1)) (DE.b (de_int)))))) (DE.b (de_mul (DE.b (de_ix (DE.b (de_var 1)) (DE.b (de_int)))) (DE.b (de_ix (DE.b (de_var 0)) (DE.b (de_int))))))) ((da_cons (de_mul (DE.b (de_ix (DE.b (de_var 0)) (DE.b (de_int)))) (DE.b (de_ix (DE.b (de_var 1)) (DE.b (de_int))))) (da_nil)))))))
theorem s_times : FnScope ["one", "other"] ["one", "other"] (defScope (top 15)) := C8.fnScope_by (by decide +kernel)
theorem c_times (Y : Tx K mg) : Cal P w K mg base [] 3 2 "times" F_times := by
  have S := s_times
  refine cal_mk (k := 2) (m := 0) Y.d_times S rfl rfl (fun _ _ _ _ _ _ us hl => match us, hl with | [_, _], _ => rfl) fun f cdv A outer s H E hr => ?_
  exact dss_one (ds_ret (de_cal (c_reduced Y) hr (by decide) rfl ((da_cons (de_mul (DE.b (de_ix (DE.b (de_var 0)) (DE.b (de_int)))) (DE.b (de_ix (DE.b (de_var 1)) (DE.b (de_int))))) ((da_cons (de_mul (DE.b (de_ix (DE.b (de_var 0)) (DE.b (de_int)))) (DE.b (de_ix (DE.b (de_var 1)) (DE.b (de_int))))) (da_nil)))))))
theorem s_parted : FnScope ["one", "other"] ["one", "other"] (defScope (top 16)) := C8.fnScope_by (by decide +kernel)
theorem c_parted (Y : Tx K mg) : Cal P w K mg base [] 3 2 "parted" F_parted := by
  have S := s_parted
  refine cal_mk (k := 2) (m := 0) Y.d_parted S rfl rfl (fun _ _ _ _ _ _ us hl => match us, hl with | [_, _], _ => rfl) fun f cdv A outer s H E hr => ?_
  exact dss_one (ds_ret (de_cal (c_reduced Y) hr (by decide) rfl ((da_cons (de_mul (DE.b (de_ix (DE.b (de_var 0)) (DE.b (de_int)))) (DE.b (de_ix (DE.b (de_var 1)) (DE.b (de_int))))) ((da_cons (de_mul (DE.b (de_ix (DE.b (de_var 0)) (DE.b (de_int)))) (DE.b (de_ix (DE.b (de_var 1)) (DE.b (de_int))))) (da_nil)))))))
theorem s_is_fraction : FnScope ["thing", "one"] ["thing"] (defScope (top 17)) := C8.fnScope_by (by decide +kernel)
theorem c_is_fraction (Y : Tx K mg) : Cal P w K mg base [] 3 1 "is_fraction" F_is_fraction := by
  have S := s_is_fraction
  refine cal_mk (k := 2) (m := 1) Y.d_is_fraction S rfl rfl (fun _ _ _ _ _ _ us hl => match us, hl with | [_], _ => rfl) fun f cdv A outer s H E hr => ?_
  exact dss_cons (ds_if (DW.t (dw_or (dt_not (dt_val (DE.b (de_cal (c_is_tuple Y) hr (by decide) rfl ((da_cons (de_var 0) ((da_cons (de_int) ((da_cons (de_int) (da_nil))))))))))) (dw_or1 (dt_not (dt_val (DE.b (e_all rfl Y.n_all (DL.b (dl_lc rfl S.nd (own := [("one", 1)]) (blk_by (by rfl)) (by decide) (dib_seq (DE.b (de_var 0))) (fun _ _ _ _ _ => pn 1 S.nd) (fun _ _ _ _ _ => dts_nil) (fun _ _ _ _ _ => de_and (DE.b (e_isi "int" boot_int (by decide) (by decide) Y.n_isinstance Y.n_int (DE.b (de_var 1)))) (de_one (de_not (DE.b (e_isi "bool" boot_bool (by decide) (by decide) Y.n_isinstance Y.n_bool (DE.b (de_var 1)))))))))))))))) (dss_one (ds_ret (de_bl))) (dss_nil))
      (dss_one (ds_ret (de_and (DE.b (de_gt (DE.b (de_ix (DE.b (de_var 0)) (DE.b (de_int)))) (DE.b (de_int)))) (de_one (de_eq (hu64 hr) (DE.b (de_cal (c_reduced Y) hr (by decide) rfl ((da_cons (de_ix (DE.b (de_var 0)) (DE.b (de_int))) ((da_cons (de_ix (DE.b (de_var 0)) (DE.b (de_int))) (da_nil))))))) (DE.b (de_var 0)))))))
theorem s_is_rate : FnScope ["thing"] ["thing"] (defScope (top 24)) := C8.fnScope_by (by decide +kernel)
theorem c_is_rate (Y : Tx K mg) : Cal P w K mg base [] 4 1 "is_rate" F_is_rate := by
  have S := s_is_rate
  refine cal_mk (k := 3) (m := 0) Y.d_is_rate S rfl rfl (fun _ _ _ _ _ _ us hl => match us, hl with | [_], _ => rfl) fun f cdv A outer s H E hr => ?_
  exact dss_one (ds_ret (de_and (DE.b (de_cal (c_is_fraction Y) hr (by decide) rfl ((da_cons (de_var 0) (da_nil))))) (de_one (de_chain op_le op_le p_le p_le (DE.b (de_int)) (DE.b (de_ix (DE.b (de_var 0)) (DE.b (de_int)))) (DE.b (de_ix (DE.b (de_var 0)) (DE.b (de_int))))))))
theorem s_check_pawn : FnScope ["pawn"] ["pawn"] (defScope (top 25)) := C8.fnScope_by (by decide +kernel)
theorem c_check_pawn (Y : Tx K mg) : Cal P w K mg base [] 5 1 "check_pawn" F_check_pawn := by
  have S := s_check_pawn
  refine cal_mk (k := 4) (m := 0) Y.d_check_pawn S rfl rfl (fun _ _ _ _ _ _ us hl => match us, hl with | [_], _ => rfl) fun f cdv A outer s H E hr => ?_
  exact dss_one (ds_if (DW.t (dw_or (dt_not (dt_val (DE.b (de_cal (c_is_tuple Y) hr (by decide) rfl ((da_cons (de_var 0) ((da_cons (de_int) ((da_cons (de_int) (da_nil))))))))))) (dw_or (dt_not (dt_val (DE.b (de_cal (c_is_within Y) hr (by decide) rfl ((da_cons (de_ix (DE.b (de_var 0)) (DE.b (de_int))) ((da_cons (de_int) ((da_cons (e_glob Y.m_MOST_OWED) (da_nil))))))))))) (dw_or1 (dt_not (dt_val (DE.b (de_cal (c_is_rate Y) hr (by decide) rfl ((da_cons (de_ix (DE.b (de_var 0)) (DE.b (de_int))) (da_nil))))))))))) (dss_one (ds_raise0 "NoPawn")) (dss_nil))
theorem s_check_pay : FnScope ["pawn", "pay"] ["pawn", "pay"] (defScope (top 26)) := C8.fnScope_by (by decide +kernel)
theorem c_check_pay (Y : Tx K mg) : Cal P w K mg base [] 6 2 "check_pay" F_check_pay := by
  have S := s_check_pay
  refine cal_mk (k := 5) (m := 0) Y.d_check_pay S rfl rfl (fun _ _ _ _ _ _ us hl => match us, hl with | [_, _], _ => rfl) fun f cdv A outer s H E hr => ?_
  exact dss_cons (ds_expr (de_cal (c_check_pawn Y) hr (by decide) rfl ((da_cons (de_var 0) (da_nil)))))
      (dss_one (ds_if (dt_not (dt_val (DE.b (de_cal (c_is_within Y) hr (by decide) rfl ((da_cons (de_var 1) ((da_cons (de_int) ((da_cons (e_glob Y.m_MOST_PAY) (da_nil))))))))))) (dss_one (ds_raise0 "NoPay")) (dss_nil)))
theorem s_grown : FnScope ["owed", "rate"] ["owed", "rate"] (defScope (top 27)) := C8.fnScope_by (by decide +kernel)
theorem c_grown (Y : Tx K mg) : Cal P w K mg base [] 1 2 "grown" F_grown := by
  have S := s_grown
  refine cal_mk (k := 0) (m := 0) Y.d_grown S rfl rfl (fun _ _ _ _ _ _ us hl => match us, hl with | [_, _], _ => rfl) fun f cdv A outer s H E hr => ?_
  exact dss_one (ds_ret (de_add (DE.b (de_var 0)) (DE.b (de_div (DE.b (de_sub (DE.b (de_add (DE.b (de_mul (DE.b (de_var 0)) (DE.b (de_ix (DE.b (de_var 1)) (DE.b (de_int)))))) (DE.b (de_ix (DE.b (de_var 1)) (DE.b (de_int)))))) (DE.b (de_int)))) (DE.b (de_ix (DE.b (de_var 1)) (DE.b (de_int))))))))
theorem s_month_later : FnScope ["pawn", "pay"] ["pawn", "pay"] (defScope (top 28)) := C8.fnScope_by (by decide +kernel)
theorem c_month_later (Y : Tx K mg) : Cal P w K mg base [] 7 2 "month_later" F_month_later := by
  have S := s_month_later
  refine cal_mk (k := 6) (m := 0) Y.d_month_later S rfl rfl (fun _ _ _ _ _ _ us hl => match us, hl with | [_, _], _ => rfl) fun f cdv A outer s H E hr => ?_
  exact dss_cons (ds_expr (de_cal (c_check_pay Y) hr (by decide) rfl ((da_cons (de_var 0) ((da_cons (de_var 1) (da_nil)))))))
      (dss_one (ds_ret (e_max2 rfl Y.n_max (DE.b (de_int)) (DE.b (de_sub (DE.b (de_cal (c_grown Y) hr (by decide) rfl ((da_cons (de_ix (DE.b (de_var 0)) (DE.b (de_int))) ((da_cons (de_ix (DE.b (de_var 0)) (DE.b (de_int))) (da_nil))))))) (DE.b (de_var 1)))))))
theorem s_told : FnScope ["pawn", "pay", "owed", "rate", "later", "months", "more", "last"] ["pawn", "pay"] (defScope (top 29)) := C8.fnScope_by (by decide +kernel)
theorem c_told (Y : Tx K mg) : Cal P w K mg base [] 2 2 "told" F_told := by
  have S := s_told
  refine cal_mk (k := 1) (m := 6) Y.d_told S rfl rfl (fun _ _ _ _ _ _ us hl => match us, hl with | [_, _], _ => rfl) fun f cdv A outer s H E hr => ?_
  exact dss_cons (ds_unpack (pt rfl (ptc (pn 2 S.nd) (ptc (pn 3 S.nd) (ptn)))) (de_var 0))
      (dss_cons (ds_set 4 S.nd (DE.n (de_sub (DE.b (de_cal (c_grown Y) hr (by decide) rfl ((da_cons (de_var 2) ((da_cons (de_var 3) (da_nil))))))) (DE.b (de_var 1)))))
      (dss_cons (ds_if (dt_cmp op_ge p_ge (nomark _) (DE.b (de_var 4)) (DE.b (de_var 2))) (dss_one (ds_ret (de_tup ((dd_cons (de_str) ((dd_cons (de_var 4) (dd_nil)))))))) (dss_nil))
      (dss_cons (ds_set 5 S.nd (DE.n (de_int)))
      (dss_cons (ds_whileF PassesOwn.never (dt_cmp op_gt p_gt (nomark _) (DE.b (de_var 2)) (DE.b (de_int))) (dss_cons (ds_par 6 5 rfl S.nd (DE.n (de_cal (c_grown Y) hr (by decide) rfl ((da_cons (de_var 2) ((da_cons (de_var 3) (da_nil))))))) (DE.n (de_add (DE.b (de_var 5)) (DE.b (de_int)))))
      (dss_one (ds_par 7 2 rfl S.nd (DE.n (e_min2 rfl Y.n_min (DE.b (de_var 1)) (DE.b (de_var 6)))) (DE.n (e_max2 rfl Y.n_max (DE.b (de_int)) (DE.b (de_sub (DE.b (de_var 6)) (DE.b (de_var 1))))))))))
      (dss_one (ds_ret (de_tup ((dd_cons (de_str) ((dd_cons (de_var 5) ((dd_cons (de_var 7) (dd_nil))))))))))))))
theorem s_paid_or_never : FnScope ["pawn", "pay"] ["pawn", "pay"] (defScope (top 30)) := C8.fnScope_by (by decide +kernel)
theorem c_paid_or_never (Y : Tx K mg) : Cal P w K mg base [] 7 2 "paid_or_never" F_paid_or_never := by
  have S := s_paid_or_never
  refine cal_mk (k := 6) (m := 0) Y.d_paid_or_never S rfl rfl (fun _ _ _ _ _ _ us hl => match us, hl with | [_, _], _ => rfl) fun f cdv A outer s H E hr => ?_
  exact dss_cons (ds_expr (de_cal (c_check_pay Y) hr (by decide) rfl ((da_cons (de_var 0) ((da_cons (de_var 1) (da_nil)))))))
      (dss_one (ds_ret (de_cal (c_told Y) hr (by decide) rfl ((da_cons (de_var 0) ((da_cons (de_var 1) (da_nil))))))))
theorem s_least_pay : FnScope ["pawn", "months", "low", "high", "middle", "owed", "month"] ["pawn", "months"] (defScope (top 31)) := C8.fnScope_by (by decide +kernel)
theorem c_least_pay (Y : Tx K mg) : Cal P w K mg base [] 6 2 "least_pay" F_least_pay := by
  have S := s_least_pay
  refine cal_mk (k := 5) (m := 5) Y.d_least_pay S rfl rfl (fun _ _ _ _ _ _ us hl => match us, hl with | [_, _], _ => rfl) fun f cdv A outer s H E hr => ?_
  exact dss_cons (ds_expr (de_cal (c_check_pawn Y) hr (by decide) rfl ((da_cons (de_var 0) (da_nil)))))
      (dss_cons (ds_if (dt_not (dt_val (DE.b (de_cal (c_is_within Y) hr (by decide) rfl ((da_cons (de_var 1) ((da_cons (de_int) ((da_cons (e_glob Y.m_MOST_MONTHS) (da_nil))))))))))) (dss_one (ds_raise0 "NoNumber")) (dss_nil))
      (dss_cons (ds_par 2 3 rfl S.nd (DE.n (de_int)) (DE.n (de_cal (c_grown Y) hr (by decide) rfl ((da_cons (de_ix (DE.b (de_var 0)) (DE.b (de_int))) ((da_cons (de_ix (DE.b (de_var 0)) (DE.b (de_int))) (da_nil))))))))
      (dss_cons (ds_whileF PassesOwn.never (dt_cmp op_gt p_gt (nomark _) (DE.b (de_sub (DE.b (de_var 3)) (DE.b (de_var 2)))) (DE.b (de_int))) (dss_cons (ds_set 4 S.nd (DE.n (de_div (DE.b (de_add (DE.b (de_var 2)) (DE.b (de_var 3)))) (DE.b (de_int)))))
      (dss_cons (ds_set 5 S.nd (DE.n (de_ix (DE.b (de_var 0)) (DE.b (de_int)))))
      (dss_cons (ds_for PassesOwn.never rfl ((di_rng1 Y.n_range rfl (DE.b (de_var 1)))) (pn 6 S.nd) (dss_one (ds_set 5 S.nd (DE.n (e_max2 rfl Y.n_max (DE.b (de_int)) (DE.b (de_sub (DE.b (de_cal (c_grown Y) hr (by decide) rfl ((da_cons (de_var 5) ((da_cons (de_ix (DE.b (de_var 0)) (DE.b (de_int))) (da_nil))))))) (DE.b (de_var 4)))))))))
      (dss_one (ds_if (dt_cmp (op_eqD (hu64 hr)) p_eq (nomark _) (DE.b (de_var 5)) (DE.b (de_int))) (dss_one (ds_set 3 S.nd (DE.n (de_var 4)))) (dss_one (ds_set 2 S.nd (DE.n (de_var 4))))))))))
      (dss_one (ds_ret (de_var 3))))))
theorem s_whole_of : FnScope ["pawn", "pay", "some"] ["pawn", "pay"] (defScope (top 32)) := C8.fnScope_by (by decide +kernel)
theorem c_whole_of (Y : Tx K mg) : Cal P w K mg base [] 3 2 "whole_of" F_whole_of := by
  have S := s_whole_of
  refine cal_mk (k := 2) (m := 1) Y.d_whole_of S rfl rfl (fun _ _ _ _ _ _ us hl => match us, hl with | [_, _], _ => rfl) fun f cdv A outer s H E hr => ?_
  exact dss_cons (ds_set 2 S.nd (DE.n (de_cal (c_told Y) hr (by decide) rfl ((da_cons (de_var 0) ((da_cons (de_var 1) (da_nil))))))))
      (dss_one (ds_ret (de_if (dt_cmp (op_eqD (hu64 hr)) p_eq (nomark _) (DE.b (de_ix (DE.b (de_var 2)) (DE.b (de_int)))) (DE.b (de_str))) (de_non) (de_add (DE.b (de_mul (DE.b (de_sub (DE.b (de_ix (DE.b (de_var 2)) (DE.b (de_int)))) (DE.b (de_int)))) (DE.b (de_var 1)))) (DE.b (de_ix (DE.b (de_var 2)) (DE.b (de_int))))))))
theorem s_whole_paid : FnScope ["pawn", "pay"] ["pawn", "pay"] (defScope (top 33)) := C8.fnScope_by (by decide +kernel)
theorem c_whole_paid (Y : Tx K mg) : Cal P w K mg base [] 7 2 "whole_paid" F_whole_paid := by
  have S := s_whole_paid
  refine cal_mk (k := 6) (m := 0) Y.d_whole_paid S rfl rfl (fun _ _ _ _ _ _ us hl => match us, hl with | [_, _], _ => rfl) fun f cdv A outer s H E hr => ?_
  exact dss_cons (ds_expr (de_cal (c_check_pay Y) hr (by decide) rfl ((da_cons (de_var 0) ((da_cons (de_var 1) (da_nil)))))))
      (dss_one (ds_ret (de_cal (c_whole_of Y) hr (by decide) rfl ((da_cons (de_var 0) ((da_cons (de_var 1) (da_nil))))))))
theorem s_are_pays : FnScope ["thing", "least", "pay"] ["thing", "least"] (defScope (top 34)) := C8.fnScope_by (by decide +kernel)
theorem c_are_pays (Y : Tx K mg) : Cal P w K mg base [] 3 2 "are_pays" F_are_pays := by
  have S := s_are_pays
  refine cal_mk (k := 2) (m := 1) Y.d_are_pays S rfl rfl (fun _ _ _ _ _ _ us hl => match us, hl with | [_, _], _ => rfl) fun f cdv A outer s H E hr => ?_
  exact dss_one (ds_ret (de_and (DE.b (de_cal (c_is_tuple Y) hr (by decide) rfl ((da_cons (de_var 0) ((da_cons (de_var 1) ((da_cons (e_glob Y.m_MOST_PAYS) (da_nil))))))))) (de_one (e_all rfl Y.n_all (DL.b (dl_lc rfl S.nd (own := [("pay", 2)]) (blk_by (by rfl)) (by decide) (dib_seq (DE.b (de_var 0))) (fun _ _ _ _ _ => pn 2 S.nd) (fun _ _ _ _ _ => dts_nil) (fun _ _ _ _ _ => de_cal (c_is_within Y) hr (by decide) rfl ((da_cons (de_var 2) ((da_cons (de_int) ((da_cons (e_glob Y.m_MOST_PAY) (da_nil))))))))))))))
theorem s_owed_in : FnScope ["pawn", "pays", "owed", "rate", "pay"] ["pawn", "pays"] (defScope (top 35)) := C8.fnScope_by (by decide +kernel)
theorem c_owed_in (Y : Tx K mg) : Cal P w K mg base [] 6 2 "owed_in" F_owed_in := by
  have S := s_owed_in
  refine cal_mk (k := 5) (m := 3) Y.d_owed_in S rfl rfl (fun _ _ _ _ _ _ us hl => match us, hl with | [_, _], _ => rfl) fun f cdv A outer s H E hr => ?_
  exact dss_cons (ds_expr (de_cal (c_check_pawn Y) hr (by decide) rfl ((da_cons (de_var 0) (da_nil)))))
      (dss_cons (ds_if (dt_not (dt_val (DE.b (de_cal (c_are_pays Y) hr (by decide) rfl ((da_cons (de_var 1) ((da_cons (de_int) (da_nil))))))))) (dss_one (ds_raise0 "NoPays")) (dss_nil))
      (dss_cons (ds_unpack (pt rfl (ptc (pn 2 S.nd) (ptc (pn 3 S.nd) (ptn)))) (de_var 0))
      (dss_cons (ds_for PassesOwn.never rfl (di_seq (de_var 1)) (pn 4 S.nd) (dss_one (ds_set 2 S.nd (DE.n (e_max2 rfl Y.n_max (DE.b (de_int)) (DE.b (de_sub (DE.b (de_cal (c_grown Y) hr (by decide) rfl ((da_cons (de_var 2) ((da_cons (de_var 3) (da_nil))))))) (DE.b (de_var 4)))))))))
      (dss_one (ds_ret (de_var 2))))))
theorem s_doubles_in : FnScope ["pawn", "owed", "month"] ["pawn"] (defScope (top 36)) := C8.fnScope_by (by decide +kernel)
theorem c_doubles_in (Y : Tx K mg) : Cal P w K mg base [] 6 1 "doubles_in" F_doubles_in := by
  have S := s_doubles_in
  refine cal_mk (k := 5) (m := 2) Y.d_doubles_in S rfl rfl (fun _ _ _ _ _ _ us hl => match us, hl with | [_], _ => rfl) fun f cdv A outer s H E hr => ?_
  exact dss_cons (ds_expr (de_cal (c_check_pawn Y) hr (by decide) rfl ((da_cons (de_var 0) (da_nil)))))
      (dss_cons (ds_set 1 S.nd (DE.n (de_ix (DE.b (de_var 0)) (DE.b (de_int)))))
      (dss_cons (ds_for PassesOwn.never rfl ((di_rng2 Y.n_range rfl (DE.b (de_int)) (DE.b (de_add (DE.b (e_glob Y.m_MOST_DOUBLED)) (DE.b (de_int)))))) (pn 2 S.nd) (dss_cons (ds_set 1 S.nd (DE.n (de_cal (c_grown Y) hr (by decide) rfl ((da_cons (de_var 1) ((da_cons (de_ix (DE.b (de_var 0)) (DE.b (de_int))) (da_nil))))))))
      (dss_one (ds_if (dt_cmp op_ge p_ge (nomark _) (DE.b (de_var 1)) (DE.b (de_mul (DE.b (de_int)) (DE.b (de_ix (DE.b (de_var 0)) (DE.b (de_int))))))) (dss_one (ds_ret (de_var 2))) (dss_nil)))))
      (dss_one (ds_ret (de_non)))))
theorem s_better_pawn : FnScope ["one", "other", "pay", "some", "at", "pawn"] ["one", "other", "pay"] (defScope (top 37)) := C8.fnScope_by (by decide +kernel)
theorem c_better_pawn (Y : Tx K mg) : Cal P w K mg base [] 7 3 "better_pawn" F_better_pawn := by
  have S := s_better_pawn
  refine cal_mk (k := 6) (m := 3) Y.d_better_pawn S rfl rfl (fun _ _ _ _ _ _ us hl => match us, hl with | [_, _, _], _ => rfl) fun f cdv A outer s H E hr => ?_
  exact dss_cons (ds_expr (de_cal (c_check_pawn Y) hr (by decide) rfl ((da_cons (de_var 0) (da_nil)))))
      (dss_cons (ds_expr (de_cal (c_check_pay Y) hr (by decide) rfl ((da_cons (de_var 1) ((da_cons (de_var 2) (da_nil)))))))
      (dss_cons (ds_set 3 S.nd (DL.n (dl_lst (dd_nil))))
      (dss_cons (ds_for PassesOwn.never rfl ((di_enumT Y.n_enumerate rfl (de_tup ((dd_cons (de_var 0) ((dd_cons (de_var 1) (dd_nil)))))))) (pt rfl (ptc (pn 4 S.nd) (ptc (pn 5 S.nd) (ptn)))) (dss_one (ds_if (dt_cmp op_notN p_isNot (nomark _) (DE.b (de_cal (c_whole_of Y) hr (by decide) rfl ((da_cons (de_var 5) ((da_cons (de_var 2) (da_nil))))))) (DE.b (de_non))) (dss_one (ds_append 3 (de_tup ((dd_cons (de_cal (c_whole_of Y) hr (by decide) rfl ((da_cons (de_var 5) ((da_cons (de_var 2) (da_nil)))))) ((dd_cons (de_ix (DE.b (de_cal (c_told Y) hr (by decide) rfl ((da_cons (de_var 5) ((da_cons (de_var 2) (da_nil))))))) (DE.b (de_int))) ((dd_cons (de_var 4) (dd_nil)))))))))) (dss_nil))))
      (dss_one (ds_ret (de_if (dt_cmp op_gt p_gt (nomark _) (DE.b (e_len Y.n_len ((db_var 3)))) (DE.b (de_int))) (de_ix (DE.b (e_min rfl hr Y.n_min ((db_var 3)))) (DE.b (de_int))) (de_non)))))))
theorem s_worth_now : FnScope ["pays", "rate", "found", "by", "pay"] ["pays", "rate"] (defScope (top 38)) := C8.fnScope_by (by decide +kernel)
theorem c_worth_now (Y : Tx K mg) : Cal P w K mg base [] 5 2 "worth_now" F_worth_now := by
  have S := s_worth_now
  refine cal_mk (k := 4) (m := 3) Y.d_worth_now S rfl rfl (fun _ _ _ _ _ _ us hl => match us, hl with | [_, _], _ => rfl) fun f cdv A outer s H E hr => ?_
  exact dss_cons (ds_if (dt_not (dt_val (DE.b (de_cal (c_are_pays Y) hr (by decide) rfl ((da_cons (de_var 0) ((da_cons (de_int) (da_nil))))))))) (dss_one (ds_raise0 "NoPays")) (dss_nil))
      (dss_cons (ds_if (dt_not (dt_val (DE.b (de_cal (c_is_rate Y) hr (by decide) rfl ((da_cons (de_var 1) (da_nil))))))) (dss_one (ds_raise0 "NoRate")) (dss_nil))
      (dss_cons (ds_unpack (pt rfl (ptc (pn 2 S.nd) (ptc (pn 3 S.nd) (ptn)))) (de_tup ((dd_cons (de_tup ((dd_cons (de_int) ((dd_cons (de_int) (dd_nil)))))) ((dd_cons (de_tup ((dd_cons (de_int) ((dd_cons (de_int) (dd_nil)))))) (dd_nil)))))))
      (dss_cons (ds_for PassesOwn.never rfl (di_seq (de_var 0)) (pn 4 S.nd) (dss_cons (ds_set 3 S.nd (DE.n (de_cal (c_parted Y) hr (by decide) rfl ((da_cons (de_var 3) ((da_cons (de_cal (c_added Y) hr (by decide) rfl ((da_cons (de_tup ((dd_cons (de_int) ((dd_cons (de_int) (dd_nil)))))) ((da_cons (de_var 1) (da_nil)))))) (da_nil))))))))
      (dss_one (ds_set 2 S.nd (DE.n (de_cal (c_added Y) hr (by decide) rfl ((da_cons (de_var 2) ((da_cons (de_cal (c_times Y) hr (by decide) rfl ((da_cons (de_tup ((dd_cons (de_var 4) ((dd_cons (de_int) (dd_nil)))))) ((da_cons (de_var 3) (da_nil)))))) (da_nil)))))))))))
      (dss_one (ds_ret (de_var 2))))))
theorem s__law_hand : FnScope ["script", "cells", "cell"] ["script"] (defScope (top 40)) := C8.fnScope_by (by decide +kernel)
theorem c__law_hand (Y : Tx K mg) : CalH P w K mg base 1 "_law_hand" 22697 := by
  have S := s__law_hand
  obtain ⟨f, fd, Fu, hm⟩ := Y.d__law_hand.ex
  refine ⟨f, fd, _, hand_ok (k := 0) Fu S fun cdv A outer s H E hr => ?_, hm, Fu.kp, Fu.binds fun _ _ _ _ _ _ us hl => match us, hl with | [_], _ => rfl⟩
  exact pss_cons (ps_setLc rfl S.nd rfl rfl rfl (own := [("cell", 2)]) (pi_seqD (pe_slice sl_data (pv 0) po_none (po_some pe_int))) (blk_by (by rfl)) (fun _ _ _ _ _ => pg_name S.nd rfl (Or.inl rfl) (Or.inr rfl)) (fun _ _ _ _ _ => pts_nil)
      (fun _ _ _ _ _ => pe_callB call_abs rfl Y.n_abs boot_abs (pa_cons (pe_callTy call_int1 rfl Y.n_int boot_int (pa_cons (pv 2) pa_nil)) pa_nil)))
    (pss_one (ps_ret (pe_lst (pa_cons (pv 1) (pa_cons pe_int (pa_cons pe_int (pa_cons (pe_op op_add pe_int (pe_op op_mulX pe_int (pe_callB call_len rfl Y.n_len boot_len (pa_cons (pv 1) pa_nil)))) (pa_cons pe_int pa_nil))))))))
theorem s__law_draw : FnScope ["hand", "many", "cell", "digit", "number"] ["hand", "many"] (defScope (top 41)) := C8.fnScope_by (by decide +kernel)
theorem c__law_draw (Y : Tx K mg) : Cal P w K mg base [] 1 2 "_law_draw" F__law_draw := by
  have S := s__law_draw
  refine cal_mk (k := 0) (m := 3) Y.d__law_draw S rfl rfl (fun _ _ _ _ _ _ us hl => match us, hl with | [_, _], _ => rfl) fun f cdv A outer s H E hr => ?_
  exact dss_cons (ds_if (DW.t (dw_and (dt_cmp (op_eqD (hu64 hr)) p_eq (nomark _) (DE.b (de_hix 0 2)) (DE.b (de_int))) (dw_and1 (dt_cmp op_lt p_lt (nomark _) (DE.b (de_hix 0 1)) (DE.b (e_len Y.n_len (DE.b (de_hix 0 0)))))))) (dss_cons (ds_set 2 S.nd (DE.n (de_ix (DE.b (de_hix 0 0)) (DE.b (de_hix 0 1)))))
      (dss_cons (ds_hput 0 1 (de_add (DE.b (de_hix 0 1)) (DE.b (de_int))))
      (dss_cons (ds_hput 0 3 (de_mod (DE.b (e_int Y.n_int (DE.b (de_add (DE.b (de_add (DE.b (de_mul (DE.b (de_hix 0 3)) (DE.b (de_int)))) (DE.b (de_mul (DE.b (de_var 2)) (DE.b (de_int)))))) (DE.b (de_int)))))) (DE.b (de_int))))
      (dss_one (ds_if (dt_cmp op_ge p_ge (nomark _) (DE.b (de_var 2)) (DE.b (de_pow (DE.b (de_int)) (DE.b (de_int))))) (dss_one (ds_hput 0 2 (de_var 2))) (dss_nil)))))) (dss_nil))
      (dss_cons (ds_if (dt_cmp op_gt p_gt (nomark _) (DE.b (de_hix 0 2)) (DE.b (de_int))) (dss_cons (ds_set 3 S.nd (DE.n (de_mod (DE.b (e_int Y.n_int (DE.b (de_hix 0 2)))) (DE.b (de_var 1)))))
      (dss_cons (ds_hput 0 2 (de_div (DE.b (de_hix 0 2)) (DE.b (de_var 1))))
      (dss_one (ds_ret (de_var 3))))) (dss_nil))
      (dss_cons (ds_hput 0 4 (de_add (DE.b (de_hix 0 4)) (DE.b (de_int))))
      (dss_cons (ds_set 4 S.nd (DE.n (de_mod (DE.b (e_int Y.n_int (DE.b (de_mul (DE.b (e_int Y.n_int (DE.b (de_add (DE.b (de_hix 0 3)) (DE.b (de_mul (DE.b (de_int)) (DE.b (de_hix 0 4)))))))) (DE.b (de_int)))))) (DE.b (de_int)))))
      (dss_cons (ds_set 4 S.nd (DE.n (de_mod (DE.b (e_int Y.n_int (DE.b (de_mul (DE.b (de_var 4)) (DE.b (de_add (DE.b (de_div (DE.b (de_var 4)) (DE.b (de_int)))) (DE.b (de_int)))))))) (DE.b (de_int)))))
      (dss_cons (ds_set 4 S.nd (DE.n (de_mod (DE.b (e_int Y.n_int (DE.b (de_mul (DE.b (de_var 4)) (DE.b (de_add (DE.b (de_div (DE.b (de_var 4)) (DE.b (de_int)))) (DE.b (de_int)))))))) (DE.b (de_int)))))
      (dss_one (ds_ret (de_mod (DE.b (e_int Y.n_int (DE.b (de_div (DE.b (de_var 4)) (DE.b (de_int)))))) (DE.b (de_var 1))))))))))
theorem s__law_some : FnScope ["hand", "things"] ["hand", "things"] (defScope (top 42)) := C8.fnScope_by (by decide +kernel)
theorem c__law_some (Y : Tx K mg) : Cal P w K mg base [] 2 2 "_law_some" F__law_some := by
  have S := s__law_some
  refine cal_mk (k := 1) (m := 0) Y.d__law_some S rfl rfl (fun _ _ _ _ _ _ us hl => match us, hl with | [_, _], _ => rfl) fun f cdv A outer s H E hr => ?_
  exact dss_one (ds_ret (de_ix (DE.b (de_var 1)) (DE.b (de_cal (c__law_draw Y) hr (by decide) rfl ((da_hand 0 ((da_cons (e_len Y.n_len (DE.b (de_var 1))) (da_nil)))))))))
theorem s__law_common : FnScope ["a", "b"] ["a", "b"] (defScope (top 43)) := C8.fnScope_by (by decide +kernel)
theorem c__law_common (Y : Tx K mg) : Cal P w K mg base [] 1 2 "_law_common" F__law_common := by
  have S := s__law_common
  refine cal_mk (k := 0) (m := 0) Y.d__law_common S rfl rfl (fun _ _ _ _ _ _ us hl => match us, hl with | [_, _], _ => rfl) fun f cdv A outer s H E hr => ?_
  exact dss_cons (ds_whileF PassesOwn.never (dt_cmp op_gt p_gt (nomark _) (DE.b (de_var 1)) (DE.b (de_int))) (dss_one (ds_par 0 1 rfl S.nd (DE.n (de_var 1)) (DE.n (de_mod (DE.b (e_int Y.n_int (DE.b (de_var 0)))) (DE.b (de_var 1)))))))
      (dss_one (ds_ret (de_var 0)))
theorem s__law_low : FnScope ["top", "bottom", "one"] ["top", "bottom"] (defScope (top 44)) := C8.fnScope_by (by decide +kernel)
theorem c__law_low (Y : Tx K mg) : Cal P w K mg base [] 2 2 "_law_low" F__law_low := by
  have S := s__law_low
  refine cal_mk (k := 1) (m := 1) Y.d__law_low S rfl rfl (fun _ _ _ _ _ _ us hl => match us, hl with | [_, _], _ => rfl) fun f cdv A outer s H E hr => ?_
  exact dss_cons (ds_set 2 S.nd (DE.n (de_cal (c__law_common Y) hr (by decide) rfl ((da_cons (e_abs Y.n_abs (DE.b (de_var 0))) ((da_cons (de_var 1) (da_nil))))))))
      (dss_one (ds_ret (de_tup ((dd_cons (de_div (DE.b (de_var 0)) (DE.b (de_var 2))) ((dd_cons (de_div (DE.b (de_var 1)) (DE.b (de_var 2))) (dd_nil))))))))
theorem s__law_plus : FnScope ["one", "other"] ["one", "other"] (defScope (top 45)) := C8.fnScope_by (by decide +kernel)
theorem c__law_plus (Y : Tx K mg) : Cal P w K mg base [] 3 2 "_law_plus" F__law_plus := by
  have S := s__law_plus
  refine cal_mk (k := 2) (m := 0) Y.d__law_plus S rfl rfl (fun _ _ _ _ _ _ us hl => match us, hl with | [_, _], _ => rfl) fun f cdv A outer s H E hr => ?_
  exact dss_one (ds_ret (de_cal (c__law_low Y) hr (by decide) rfl ((da_cons (de_add (DE.b (de_mul (DE.b (de_ix (DE.b (de_var 0)) (DE.b (de_int)))) (DE.b (de_ix (DE.b (de_var 1)) (DE.b (de_int)))))) (DE.b (de_mul (DE.b (de_ix (DE.b (de_var 1)) (DE.b (de_int)))) (DE.b (de_ix (DE.b (de_var 0)) (DE.b (de_int))))))) ((da_cons (de_mul (DE.b (de_ix (DE.b (de_var 0)) (DE.b (de_int)))) (DE.b (de_ix (DE.b (de_var 1)) (DE.b (de_int))))) (da_nil)))))))
theorem s__law_grown : FnScope ["owed", "rate"] ["owed", "rate"] (defScope (top 46)) := C8.fnScope_by (by decide +kernel)
theorem c__law_grown (Y : Tx K mg) : Cal P w K mg base [] 1 2 "_law_grown" F__law_grown := by
  have S := s__law_grown
  refine cal_mk (k := 0) (m := 0) Y.d__law_grown S rfl rfl (fun _ _ _ _ _ _ us hl => match us, hl with | [_, _], _ => rfl) fun f cdv A outer s H E hr => ?_
  exact dss_one (ds_ret (de_add (DE.b (de_var 0)) (DE.b (de_div (DE.b (de_sub (DE.b (de_add (DE.b (de_mul (DE.b (de_var 0)) (DE.b (de_ix (DE.b (de_var 1)) (DE.b (de_int)))))) (DE.b (de_ix (DE.b (de_var 1)) (DE.b (de_int)))))) (DE.b (de_int)))) (DE.b (de_ix (DE.b (de_var 1)) (DE.b (de_int))))))))
theorem s__law_paid : FnScope ["owed", "rate", "pay", "whole", "month", "grown_v"] ["owed", "rate", "pay"] (defScope (top 47)) := C8.fnScope_by (by decide +kernel)
theorem c__law_paid (Y : Tx K mg) : Cal P w K mg base [] 2 3 "_law_paid" F__law_paid := by
  have S := s__law_paid
  refine cal_mk (k := 1) (m := 3) Y.d__law_paid S rfl rfl (fun _ _ _ _ _ _ us hl => match us, hl with | [_, _, _], _ => rfl) fun f cdv A outer s H E hr => ?_
  exact dss_cons (ds_set 3 S.nd (DE.n (de_int)))
      (dss_cons (ds_for PassesOwn.never rfl ((di_rng2 Y.n_range rfl (DE.b (de_int)) (DE.b (de_int)))) (pn 4 S.nd) (dss_cons (ds_set 5 S.nd (DE.n (de_cal (c__law_grown Y) hr (by decide) rfl ((da_cons (de_var 0) ((da_cons (de_var 1) (da_nil))))))))
      (dss_cons (ds_if (dt_cmp op_le p_le (nomark _) (DE.b (de_var 5)) (DE.b (de_var 2))) (dss_one (ds_ret (de_tup ((dd_cons (de_str) ((dd_cons (de_var 4) ((dd_cons (de_var 5) ((dd_cons (de_add (DE.b (de_var 3)) (DE.b (de_var 5))) (dd_nil)))))))))))) (dss_nil))
      (dss_cons (ds_if (dt_cmp op_ge p_ge (nomark _) (DE.b (de_sub (DE.b (de_var 5)) (DE.b (de_var 2)))) (DE.b (de_var 0))) (dss_one (ds_ret (de_tup ((dd_cons (de_str) ((dd_cons (de_sub (DE.b (de_var 5)) (DE.b (de_var 2))) (dd_nil)))))))) (dss_nil))
      (dss_one (ds_par 0 3 rfl S.nd (DE.n (de_sub (DE.b (de_var 5)) (DE.b (de_var 2)))) (DE.n (de_add (DE.b (de_var 3)) (DE.b (de_var 2))))))))))
      (dss_one (ds_ret (de_non))))
theorem s__law_pawn : FnScope ["hand", "rates", "rate"] ["hand"] (defScope (top 48)) := C8.fnScope_by (by decide +kernel)
theorem c__law_pawn (Y : Tx K mg) : Cal P w K mg base [] 3 1 "_law_pawn" F__law_pawn := by
  have S := s__law_pawn
  refine cal_mk (k := 2) (m := 2) Y.d__law_pawn S rfl rfl (fun _ _ _ _ _ _ us hl => match us, hl with | [_], _ => rfl) fun f cdv A outer s H E hr => ?_
  exact dss_cons (ds_set 1 S.nd (DE.n (DL.e (dl_lst ((dd_cons (de_tup ((dd_cons (de_int) ((dd_cons (de_int) (dd_nil)))))) ((dd_cons (de_tup ((dd_cons (de_int) ((dd_cons (de_int) (dd_nil)))))) ((dd_cons (de_tup ((dd_cons (de_int) ((dd_cons (de_int) (dd_nil)))))) ((dd_cons (de_cal (c__law_low Y) hr (by decide) rfl ((da_cons (de_cal (c__law_draw Y) hr (by decide) rfl ((da_hand 0 ((da_cons (de_int) (da_nil)))))) ((da_cons (de_int) (da_nil)))))) ((dd_cons (de_cal (c__law_low Y) hr (by decide) rfl ((da_cons (de_add (DE.b (de_int)) (DE.b (de_cal (c__law_draw Y) hr (by decide) rfl ((da_hand 0 ((da_cons (de_int) (da_nil)))))))) ((da_cons (de_int) (da_nil)))))) (dd_nil)))))))))))))))
      (dss_cons (ds_set 2 S.nd (DE.n (de_cal (c__law_some Y) hr (by decide) rfl ((da_hand 0 ((da_cons (de_var 1) (da_nil))))))))
      (dss_one (ds_ret (de_tup ((dd_cons (de_add (DE.b (de_int)) (DE.b (de_cal (c__law_draw Y) hr (by decide) rfl ((da_hand 0 ((da_cons (de_cal (c__law_some Y) hr (by decide) rfl ((da_hand 0 ((da_cons (DL.e (dl_lst ((dd_cons (de_int) ((dd_cons (de_int) ((dd_cons (de_int) (dd_nil))))))))) (da_nil)))))) (da_nil)))))))) ((dd_cons (de_var 2) (dd_nil)))))))))
theorem s__law_owed : FnScope ["owed", "rate", "pays", "pay", "grown_v"] ["owed", "rate", "pays"] (defScope (top 50)) := C8.fnScope_by (by decide +kernel)
theorem c__law_owed (Y : Tx K mg) : Cal P w K mg base [] 2 3 "_law_owed" F__law_owed := by
  have S := s__law_owed
  refine cal_mk (k := 1) (m := 2) Y.d__law_owed S rfl rfl (fun _ _ _ _ _ _ us hl => match us, hl with | [_, _, _], _ => rfl) fun f cdv A outer s H E hr => ?_
  exact dss_cons (ds_for PassesOwn.never rfl (di_seq (de_var 2)) (pn 3 S.nd) (dss_cons (ds_set 4 S.nd (DE.n (de_cal (c__law_grown Y) hr (by decide) rfl ((da_cons (de_var 0) ((da_cons (de_var 1) (da_nil))))))))
      (dss_one (ds_set 0 S.nd (DE.n (de_sub (DE.b (de_var 4)) (DE.b (e_min2 rfl Y.n_min (DE.b (de_var 3)) (DE.b (de_var 4))))))))))
      (dss_one (ds_ret (de_var 0)))
theorem s__law_is_paid_right : FnScope ["hand", "pawn", "pay", "owed", "rate", "due", "grown_v", "told_v", "pays", "now"] ["hand", "pawn", "pay"] (defScope (top 49)) := C8.fnScope_by (by decide +kernel)
theorem c__law_is_paid_right (Y : Tx K mg) : Cal P w K mg base [] 8 3 "_law_is_paid_right" F__law_is_paid_right := by
  have S := s__law_is_paid_right
  refine cal_mk (k := 7) (m := 7) Y.d__law_is_paid_right S rfl rfl (fun _ _ _ _ _ _ us hl => match us, hl with | [_, _, _], _ => rfl) fun f cdv A outer s H E hr => ?_
  exact dss_cons (ds_unpack (pt rfl (ptc (pn 3 S.nd) (ptc (pn 4 S.nd) (ptn)))) (de_var 1))
      (dss_cons (ds_set 5 S.nd (DE.n (de_cal (c__law_paid Y) hr (by decide) rfl ((da_cons (de_var 3) ((da_cons (de_var 4) ((da_cons (de_var 2) (da_nil))))))))))
      (dss_cons (ds_set 6 S.nd (DE.n (de_cal (c__law_grown Y) hr (by decide) rfl ((da_cons (de_var 3) ((da_cons (de_var 4) (da_nil))))))))
      (dss_cons (ds_if (dt_cmp (op_neD (hu64 hr)) p_ne (nomark _) (DE.b (de_cal (c_month_later Y) hr (by decide) rfl ((da_cons (de_var 1) ((da_cons (de_var 2) (da_nil))))))) (DE.b (de_sub (DE.b (de_var 6)) (DE.b (e_min2 rfl Y.n_min (DE.b (de_var 2)) (DE.b (de_var 6))))))) (dss_one (ds_ret (de_bl))) (dss_nil))
      (dss_cons (ds_if (dt_cmp op_isN p_is (nomark _) (DE.b (de_var 5)) (DE.b (de_non))) (dss_one (ds_ret (de_bl))) (dss_nil))
      (dss_cons (ds_set 7 S.nd (DE.n (de_cal (c_paid_or_never Y) hr (by decide) rfl ((da_cons (de_var 1) ((da_cons (de_var 2) (da_nil))))))))
      (dss_cons (ds_if (dt_cmp (op_eqD (hu64 hr)) p_eq (nomark _) (DE.b (de_ix (DE.b (de_var 5)) (DE.b (de_int)))) (DE.b (de_str))) (dss_one (ds_ret (de_and (DE.b (de_chain (op_eqD (hu64 hr)) (op_eqD (hu64 hr)) p_eq p_eq (DE.b (de_var 7)) (DE.b (de_tup ((dd_cons (de_str) ((dd_cons (de_sub (DE.b (de_var 6)) (DE.b (de_var 2))) (dd_nil))))))) (DE.b (de_var 5)))) (de_one (de_is (DE.b (de_cal (c_whole_paid Y) hr (by decide) rfl ((da_cons (de_var 1) ((da_cons (de_var 2) (da_nil))))))) (DE.b (de_non))))))) (dss_nil))
      (dss_cons (ds_if (DW.t (dw_or (dt_cmp (op_neD (hu64 hr)) p_ne (nomark _) (DE.b (de_var 7)) (DE.b (de_slice (DE.b (de_var 5)) (do_none) (do_some (DE.b (de_int)))))) (dw_or1 (dt_cmp (op_neD (hu64 hr)) p_ne (nomark _) (DE.b (de_cal (c_whole_paid Y) hr (by decide) rfl ((da_cons (de_var 1) ((da_cons (de_var 2) (da_nil))))))) (DE.b (de_ix (DE.b (de_var 5)) (DE.b (de_int)))))))) (dss_one (ds_ret (de_bl))) (dss_nil))
      (dss_cons (ds_if (dt_cmp op_gt p_gt (nomark _) (DE.b (de_ix (DE.b (de_var 5)) (DE.b (de_int)))) (DE.b (de_int))) (dss_one (ds_ret (de_bl))) (dss_nil))
      (dss_cons (ds_set 8 S.nd (DE.n (de_add (DE.b (de_mul (DE.b (de_tup ((dd_cons (de_var 2) (dd_nil))))) (DE.b (de_sub (DE.b (de_ix (DE.b (de_var 5)) (DE.b (de_int)))) (DE.b (de_int)))))) (DE.b (de_tup ((dd_cons (de_ix (DE.b (de_var 5)) (DE.b (de_int))) (dd_nil))))))))
      (dss_cons (ds_set 9 S.nd (DE.n (de_cal (c_worth_now Y) hr (by decide) rfl ((da_cons (de_var 8) ((da_cons (de_var 4) (da_nil))))))))
      (dss_cons (ds_if (DW.t (dw_or (dt_cmp (op_neD (hu64 hr)) p_ne (nomark _) (DE.b (de_cal (c_owed_in Y) hr (by decide) rfl ((da_cons (de_var 1) ((da_cons (de_var 8) (da_nil))))))) (DE.b (de_int))) (dw_or1 (dt_cmp (op_neD (hu64 hr)) p_ne (nomark _) (DE.b (de_cal (c_owed_in Y) hr (by decide) rfl ((da_cons (de_var 1) ((da_cons (de_slice (DE.b (de_var 8)) (do_none) (do_some (DE.b (de_neg (DE.b (de_int)))))) (da_nil))))))) (DE.b (de_cal (c__law_owed Y) hr (by decide) rfl ((da_cons (de_var 3) ((da_cons (de_var 4) ((da_cons (de_slice (DE.b (de_var 8)) (do_none) (do_some (DE.b (de_neg (DE.b (de_int)))))) (da_nil))))))))))))) (dss_one (ds_ret (de_bl))) (dss_nil))
      (dss_cons (ds_if (DW.t (dw_or (dt_cmp op_lt p_lt (nomark _) (DE.b (de_ix (DE.b (de_var 9)) (DE.b (de_int)))) (DE.b (de_mul (DE.b (de_var 3)) (DE.b (de_ix (DE.b (de_var 9)) (DE.b (de_int))))))) (dw_or1 (dt_cmp op_ge p_ge (nomark _) (DE.b (de_ix (DE.b (de_var 9)) (DE.b (de_int)))) (DE.b (de_mul (DE.b (de_add (DE.b (de_var 3)) (DE.b (de_ix (DE.b (de_var 5)) (DE.b (de_int)))))) (DE.b (de_ix (DE.b (de_var 9)) (DE.b (de_int)))))))))) (dss_one (ds_ret (de_bl))) (dss_nil))
      (dss_one (ds_ret (de_or (DE.b (de_ne (hu64 hr) (DE.b (de_var 4)) (DE.b (de_tup ((dd_cons (de_int) ((dd_cons (de_int) (dd_nil))))))))) (de_one (de_and (DE.b (de_eq (hu64 hr) (DE.b (de_var 9)) (DE.b (de_tup ((dd_cons (de_var 3) ((dd_cons (de_int) (dd_nil))))))))) (de_one (de_eq (hu64 hr) (DE.b (e_sum rfl Y.n_sum (DE.b (de_var 8)))) (DE.b (de_var 3)))))))))))))))))))))
theorem s__law_is_worth_right : FnScope ["hand", "pays", "month", "rate", "worth", "pay"] ["hand"] (defScope (top 51)) := C8.fnScope_by (by decide +kernel)
theorem c__law_is_worth_right (Y : Tx K mg) : Cal P w K mg base [] 6 1 "_law_is_worth_right" F__law_is_worth_right := by
  have S := s__law_is_worth_right
  refine cal_mk (k := 5) (m := 5) Y.d__law_is_worth_right S rfl rfl (fun _ _ _ _ _ _ us hl => match us, hl with | [_], _ => rfl) fun f cdv A outer s H E hr => ?_
  exact dss_cons (ds_set 1 S.nd (DE.n (e_tuple Y.n_tuple (DL.b (dl_lc rfl S.nd (own := [("month", 2)]) (blk_by (by rfl)) (by decide) (DI.b (di_rng1 Y.n_range rfl (DE.b (de_add (DE.b (de_int)) (DE.b (de_cal (c__law_draw Y) hr (by decide) rfl ((da_hand 0 ((da_cons (de_int) (da_nil))))))))))) (fun _ _ _ _ _ => pn 2 S.nd) (fun _ _ _ _ _ => dts_nil) (fun _ _ _ _ _ => de_cal (c__law_some Y) hr (by decide) rfl ((da_hand 0 ((da_cons (DL.e (dl_lst ((dd_cons (de_int) ((dd_cons (de_int) ((dd_cons (de_cal (c__law_draw Y) hr (by decide) rfl ((da_hand 0 ((da_cons (de_int) (da_nil)))))) (dd_nil))))))))) (da_nil)))))))))))
      (dss_cons (ds_par 3 4 rfl S.nd (DE.n (de_ix (DE.b (de_cal (c__law_pawn Y) hr (by decide) rfl ((da_hand 0 (da_nil))))) (DE.b (de_int)))) (DE.n (de_tup ((dd_cons (de_int) ((dd_cons (de_int) (dd_nil))))))))
      (dss_cons (ds_for PassesOwn.never rfl (di_seq (de_backT (DE.b (de_var 1)))) (pn 5 S.nd) (dss_cons (ds_set 4 S.nd (DE.n (de_cal (c__law_plus Y) hr (by decide) rfl ((da_cons (de_var 4) ((da_cons (de_tup ((dd_cons (de_var 5) ((dd_cons (de_int) (dd_nil)))))) (da_nil))))))))
      (dss_one (ds_set 4 S.nd (DE.n (de_cal (c__law_low Y) hr (by decide) rfl ((da_cons (de_mul (DE.b (de_ix (DE.b (de_var 4)) (DE.b (de_int)))) (DE.b (de_ix (DE.b (de_var 3)) (DE.b (de_int))))) ((da_cons (de_mul (DE.b (de_ix (DE.b (de_var 4)) (DE.b (de_int)))) (DE.b (de_add (DE.b (de_ix (DE.b (de_var 3)) (DE.b (de_int)))) (DE.b (de_ix (DE.b (de_var 3)) (DE.b (de_int))))))) (da_nil)))))))))))
      (dss_one (ds_ret (de_eq (hu64 hr) (DE.b (de_cal (c_worth_now Y) hr (by decide) rfl ((da_cons (de_var 1) ((da_cons (de_var 3) (da_nil))))))) (DE.b (de_var 4)))))))
theorem s__law_is_least_right : FnScope ["hand", "pawn", "months", "pay", "told_v", "less"] ["hand", "pawn"] (defScope (top 52)) := C8.fnScope_by (by decide +kernel)
theorem c__law_is_least_right (Y : Tx K mg) : Cal P w K mg base [] 7 2 "_law_is_least_right" F__law_is_least_right := by
  have S := s__law_is_least_right
  refine cal_mk (k := 6) (m := 4) Y.d__law_is_least_right S rfl rfl (fun _ _ _ _ _ _ us hl => match us, hl with | [_, _], _ => rfl) fun f cdv A outer s H E hr => ?_
  exact dss_cons (ds_set 2 S.nd (DE.n (de_add (DE.b (de_int)) (DE.b (de_cal (c__law_draw Y) hr (by decide) rfl ((da_hand 0 ((da_cons (de_int) (da_nil))))))))))
      (dss_cons (ds_set 3 S.nd (DE.n (de_cal (c_least_pay Y) hr (by decide) rfl ((da_cons (de_var 1) ((da_cons (de_var 2) (da_nil))))))))
      (dss_cons (ds_par 4 5 rfl S.nd (DE.n (de_cal (c__law_paid Y) hr (by decide) rfl ((da_cons (de_ix (DE.b (de_var 1)) (DE.b (de_int))) ((da_cons (de_ix (DE.b (de_var 1)) (DE.b (de_int))) ((da_cons (de_var 3) (da_nil))))))))) (DE.n (de_if (dt_cmp op_gt p_gt (nomark _) (DE.b (de_var 3)) (DE.b (de_int))) (de_cal (c__law_paid Y) hr (by decide) rfl ((da_cons (de_ix (DE.b (de_var 1)) (DE.b (de_int))) ((da_cons (de_ix (DE.b (de_var 1)) (DE.b (de_int))) ((da_cons (de_sub (DE.b (de_var 3)) (DE.b (de_int))) (da_nil)))))))) (de_non))))
      (dss_cons (ds_if (DW.t (dw_or (dt_cmp op_isN p_is (nomark _) (DE.b (de_var 4)) (DE.b (de_non))) (dw_or (dt_cmp (op_neD (hu64 hr)) p_ne (nomark _) (DE.b (de_ix (DE.b (de_var 4)) (DE.b (de_int)))) (DE.b (de_str))) (dw_or1 (dt_cmp op_gt p_gt (nomark _) (DE.b (de_ix (DE.b (de_var 4)) (DE.b (de_int)))) (DE.b (de_var 2))))))) (dss_one (ds_ret (de_bl))) (dss_nil))
      (dss_one (ds_ret (de_or (DE.b (de_is (DE.b (de_var 5)) (DE.b (de_non)))) (de_or (DE.b (de_eq (hu64 hr) (DE.b (de_ix (DE.b (de_var 5)) (DE.b (de_int)))) (DE.b (de_str)))) (de_one (de_gt (DE.b (de_ix (DE.b (de_var 5)) (DE.b (de_int)))) (DE.b (de_var 2)))))))))))
theorem s__law_are_others_right : FnScope ["hand", "one", "other", "owed", "due", "month", "pay", "rows", "at", "pawn", "told_v"] ["hand", "one", "other"] (defScope (top 53)) := C8.fnScope_by (by decide +kernel)
theorem c__law_are_others_right (Y : Tx K mg) : Cal P w K mg base [] 8 3 "_law_are_others_right" F__law_are_others_right := by
  have S := s__law_are_others_right
  refine cal_mk (k := 7) (m := 8) Y.d__law_are_others_right S rfl rfl (fun _ _ _ _ _ _ us hl => match us, hl with | [_, _, _], _ => rfl) fun f cdv A outer s H E hr => ?_
  exact dss_cons (ds_par 3 4 rfl S.nd (DE.n (de_ix (DE.b (de_var 1)) (DE.b (de_int)))) (DE.n (de_non)))
      (dss_cons (ds_for PassesOwn.never rfl ((di_rng2 Y.n_range rfl (DE.b (de_int)) (DE.b (de_int)))) (pn 5 S.nd) (dss_cons (ds_set 3 S.nd (DE.n (de_cal (c__law_grown Y) hr (by decide) rfl ((da_cons (de_var 3) ((da_cons (de_ix (DE.b (de_var 1)) (DE.b (de_int))) (da_nil))))))))
      (dss_one (ds_set 4 S.nd (DE.n (de_if (DW.t (dw_and (dt_cmp op_isN p_is (nomark _) (DE.b (de_var 4)) (DE.b (de_non))) (dw_and1 (dt_cmp op_ge p_ge (nomark _) (DE.b (de_var 3)) (DE.b (de_mul (DE.b (de_int)) (DE.b (de_ix (DE.b (de_var 1)) (DE.b (de_int)))))))))) (de_var 5) (de_var 4)))))))
      (dss_cons (ds_if (dt_cmp (op_neD (hu64 hr)) p_ne (nomark _) (DE.b (de_cal (c_doubles_in Y) hr (by decide) rfl ((da_cons (de_var 1) (da_nil))))) (DE.b (de_var 4))) (dss_one (ds_ret (de_bl))) (dss_nil))
      (dss_cons (ds_set 6 S.nd (DE.n (de_cal (c__law_some Y) hr (by decide) rfl ((da_hand 0 ((da_cons (DL.e (dl_lst ((dd_cons (de_ix (DE.b (de_var 1)) (DE.b (de_int))) ((dd_cons (de_cal (c__law_grown Y) hr (by decide) rfl ((da_cons (de_ix (DE.b (de_var 1)) (DE.b (de_int))) ((da_cons (de_ix (DE.b (de_var 1)) (DE.b (de_int))) (da_nil)))))) ((dd_cons (de_add (DE.b (de_int)) (DE.b (de_cal (c__law_draw Y) hr (by decide) rfl ((da_hand 0 ((da_cons (de_int) (da_nil)))))))) (dd_nil))))))))) (da_nil))))))))
      (dss_cons (ds_set 7 S.nd (DL.n (dl_lst (dd_nil))))
      (dss_cons (ds_for PassesOwn.never rfl ((di_enumT Y.n_enumerate rfl (de_tup ((dd_cons (de_var 1) ((dd_cons (de_var 2) (dd_nil)))))))) (pt rfl (ptc (pn 8 S.nd) (ptc (pn 9 S.nd) (ptn)))) (dss_cons (ds_set 10 S.nd (DE.n (de_cal (c__law_paid Y) hr (by decide) rfl ((da_cons (de_ix (DE.b (de_var 9)) (DE.b (de_int))) ((da_cons (de_ix (DE.b (de_var 9)) (DE.b (de_int))) ((da_cons (de_var 6) (da_nil))))))))))
      (dss_cons (ds_if (dt_cmp op_isN p_is (nomark _) (DE.b (de_var 10)) (DE.b (de_non))) (dss_one (ds_ret (de_bl))) (dss_nil))
      (dss_one (ds_extend 7 (DE.b (de_if (dt_cmp (op_eqD (hu64 hr)) p_eq (nomark _) (DE.b (de_ix (DE.b (de_var 10)) (DE.b (de_int)))) (DE.b (de_str))) (DL.e (dl_lst ((dd_cons (de_tup ((dd_cons (de_ix (DE.b (de_var 10)) (DE.b (de_int))) ((dd_cons (de_ix (DE.b (de_var 10)) (DE.b (de_int))) ((dd_cons (de_var 8) (dd_nil)))))))) (dd_nil))))) (DL.e (dl_lst (dd_nil))))))))))
      (dss_one (ds_ret (de_eq (hu64 hr) (DE.b (de_cal (c_better_pawn Y) hr (by decide) rfl ((da_cons (de_var 1) ((da_cons (de_var 2) ((da_cons (de_var 6) (da_nil))))))))) (DE.b (de_if (dt_cmp (op_neD (hu64 hr)) p_ne (nomark _) ((db_var 7)) (DL.b (dl_lst (dd_nil)))) (de_ix (DE.b (e_min rfl hr Y.n_min ((db_var 7)))) (DE.b (de_int))) (de_non)))))))))))
theorem s_law : FnScope ["script", "hand", "turn", "one", "other", "pays", "pay"] ["script"] (defScope (top 54)) := C8.fnScope_by (by decide +kernel)
theorem c_law (Y : Tx K mg) {f : Addr} {fd : FuncData} (Fu : L2.Fun K "law" "law" (top 54) f fd) : FnOk P w K mg base L2.CX0 9 f fd ["script"] (spLaw K 22697 5 B_law) := by
  have S := s_law
  refine law_ok (k := 8) Fu S rfl ((c__law_hand Y).mono (by decide)) rfl (fun cdv A outer s H E te h => ps_set S.nd rfl (by first | exact Or.inl rfl | exact Or.inr rfl) h) (fun cdv A outer s H E f1 fd1 ps1 hr F1 m1 k1 b1 => pe_call F1 hr rfl m1 k1 b1 .nil pass0 (pa_cons (pv 0) pa_nil)) fun cdv A outer s H E hr => ?_
  exact dss_cons (ds_for PassesOwn.never rfl ((di_rng1 Y.n_range rfl (DE.b (de_int)))) (pn 2 S.nd) (dss_cons (ds_unpack (pt rfl (ptc (pn 3 S.nd) (ptc (pn 4 S.nd) (ptn)))) (de_tup ((dd_cons (de_cal (c__law_pawn Y) hr (by decide) rfl ((da_hand 1 (da_nil)))) ((dd_cons (de_cal (c__law_pawn Y) hr (by decide) rfl ((da_hand 1 (da_nil)))) (dd_nil)))))))
      (dss_cons (ds_set 5 S.nd (DE.n (DL.e (dl_lst ((dd_cons (de_cal (c__law_grown Y) hr (by decide) rfl ((da_cons (de_ix (DE.b (de_var 3)) (DE.b (de_int))) ((da_cons (de_ix (DE.b (de_var 3)) (DE.b (de_int))) (da_nil)))))) ((dd_cons (de_add (DE.b (de_div (DE.b (de_ix (DE.b (de_var 3)) (DE.b (de_int)))) (DE.b (de_int)))) (DE.b (de_int))) ((dd_cons (de_cal (c__law_draw Y) hr (by decide) rfl ((da_hand 1 ((da_cons (de_int) (da_nil)))))) ((dd_cons (de_add (DE.b (de_int)) (DE.b (de_div (DE.b (de_ix (DE.b (de_var 3)) (DE.b (de_int)))) (DE.b (de_int))))) (dd_nil)))))))))))))
      (dss_cons (ds_if (DW.t (dw_or (dt_not (dt_val (DE.b (e_all rfl Y.n_all (DL.b (dl_lc rfl S.nd (own := [("pay", 6)]) (blk_by (by rfl)) (by decide) (dib_seq (DE.b (de_var 5))) (fun _ _ _ _ _ => pn 6 S.nd) (fun _ _ _ _ _ => dts_nil) (fun _ _ _ _ _ => de_cal (c__law_is_paid_right Y) hr (by decide) rfl ((da_hand 1 ((da_cons (de_var 3) ((da_cons (e_min2 rfl Y.n_min (DE.b (de_int)) (DE.b (de_var 6))) (da_nil)))))))))))))) (dw_or1 (dt_not (dt_val (DE.b (de_cal (c__law_is_worth_right Y) hr (by decide) rfl ((da_hand 1 (da_nil)))))))))) (dss_one (ds_ret (de_bl))) (dss_nil))
      (dss_one (ds_if (DW.t (dw_or (dt_not (dt_val (DE.b (de_cal (c__law_is_least_right Y) hr (by decide) rfl ((da_hand 1 ((da_cons (de_var 3) (da_nil))))))))) (dw_or1 (dt_not (dt_val (DE.b (de_cal (c__law_are_others_right Y) hr (by decide) rfl ((da_hand 1 ((da_cons (de_var 3) ((da_cons (de_var 4) (da_nil)))))))))))))) (dss_one (ds_ret (de_bl))) (dss_nil)))))))
      (dss_one (ds_ret (de_bl)))
end
end Jw
namespace Jw
open PySem
/-! ### rates -/
structure Rt (r : Rat) : Prop where
  h0 : 0 ≤ r.num
  h1 : r.num ≤ r.den
  h2 : r.den ≤ 100
theorem Rt.pos {r : Rat} (h : Rt r) : (0 : Int) < (r.den : Int) := by
  have := r.den_nz
  omega
theorem Rt.lg {r : Rat} (h : Rt r) : Lg r.num ≤ 6 ∧ Lg (r.den : Int) ≤ 6 := by
  have := h.h0
  have := h.h1
  have := h.h2
  have e : (2 : Nat) ^ (6 + 1) = 128 := by decide
  exact ⟨Lg_le (by omega), Lg_le (by omega)⟩
theorem frQ_self (r : Rat) : Rat.divInt r.num r.den = r := Rat.num_divInt_den r
theorem eq_self (d : D) (h : SeqAt.shaped d = true) : dEq d d = some (.bool true) := by
  unfold dEq
  rw [if_pos ⟨h, h⟩, SeqAt.eqv_refl d (SeqAt.canLay_of_shaped h)]
theorem ne_self (d : D) (h : SeqAt.shaped d = true) : dNe d d = some (.bool false) := by
  unfold dNe
  rw [if_pos ⟨h, h⟩, SeqAt.eqv_refl d (SeqAt.canLay_of_shaped h)]
  rfl
theorem shaped_frQ (r : Rat) : SeqAt.shaped (frQ r) = true := by
  unfold frQ
  simp [SeqAt.shaped, PyData.canLay0, PyData.canLayAll0, PyData.depth, PyData.depthAll]
theorem is_fraction_eq (r : Rat) (h : Hq r < 7000) : F_is_fraction [.dat (frQ r)] = pure (.bool true) := by
  unfold Hq at h
  have hr := reduced_eq r.num r.den (den_ne r) (by omega) (by omega)
  rw [frQ_self] at hr
  have he := eq_self (frQ r) (shaped_frQ r)
  have ht := is_tuple_eq [.int r.num, .int r.den] 2 2 (by simp) (by simp)
  have hp : 0 < r.den := Nat.pos_of_ne_zero r.den_nz
  unfold frQ at hr he ⊢
  simp [F_is_fraction, ht, fLc, fItems, dItems, lcL, wipeR, nm_bind, noexc_p, dAll, dBools, hr, he, hp]
theorem is_rate_eq (r : Rat) (h : Rt r) : F_is_rate [.dat (frQ r)] = pure (.bool true) := by
  have hl := h.lg
  have hf := is_fraction_eq r (by unfold Hq; omega)
  have h0 := h.h0
  have h1 := h.h1
  unfold frQ at hf ⊢
  simp [F_is_rate, hf, h0, h1]
def gr (o : Int) (r : Rat) : Int := o + (o * r.num + r.den - 1) / r.den
theorem grown_eq (o : Int) (r : Rat) (h : Rt r) (ho : Lg o < 100000) : F_grown [.dat (.int o), .dat (frQ r)] = pure (.int (gr o r)) := by
  have hp := h.pos
  have hl := h.lg
  have m1 : dMul (.int o) (.int r.num) = some (.int (o * r.num)) := mulI (by omega)
  have m2 : dDiv (.int (o * r.num + r.den - 1)) (.int (r.den : Int)) = some (.int ((o * r.num + r.den - 1) / r.den)) := divI hp (by omega)
  unfold frQ gr
  simp [F_grown, m1, m2]
theorem lgrown_eq (o : Int) (r : Rat) (h : Rt r) (ho : Lg o < 100000) : F__law_grown [.dat (.int o), .dat (frQ r)] = pure (.int (gr o r)) := grown_eq o r h ho
/-! ### pawns -/
def pw (o : Int) (r : Rat) : D := .tuple [.int o, frQ r]
structure Pw (o : Int) (r : Rat) : Prop where
  rt : Rt r
  h1 : 1 ≤ o
  h2 : o ≤ 1000
theorem Pw.lg {o : Int} {r : Rat} (h : Pw o r) : Lg o ≤ 10 := Lg_le (by
  have := h.h1
  have := h.h2
  have e : (2 : Nat) ^ (10 + 1) = 2048 := by decide
  omega)
theorem check_pawn_eq {o : Int} {r : Rat} (h : Pw o r) : F_check_pawn [.dat (pw o r)] = pure .none := by
  have h1 := is_tuple_eq [.int o, frQ r] 2 2 (by simp) (by simp)
  have h2 := is_within_eq o 1 1000 h.h1 h.h2
  have h3 := is_rate_eq r h.rt
  unfold pw
  simp [F_check_pawn, h1, h2, h3]
theorem check_pay_eq {o p : Int} {r : Rat} (h : Pw o r) (h0 : 0 ≤ p) (h2 : p ≤ 2000) : F_check_pay [.dat (pw o r), .dat (.int p)] = pure .none := by
  have h1 := check_pawn_eq h
  have h2 := is_within_eq p 0 2000 h0 h2
  simp [F_check_pay, h1, h2]
theorem month_later_eq {o p : Int} {r : Rat} (h : Pw o r) (h0 : 0 ≤ p) (h2 : p ≤ 2000) : F_month_later [.dat (pw o r), .dat (.int p)] = pure (.int (if gr o r - p > 0 then gr o r - p else 0)) := by
  have h1 := check_pay_eq h h0 h2
  have h3 := grown_eq o r h.rt (by have := h.lg; omega)
  unfold pw at h1 ⊢
  simp [F_month_later, h1, h3]
theorem gr_mono {x y : Int} {r : Rat} (h : Rt r) (hxy : x ≤ y) : gr x r - x ≤ gr y r - y := by
  unfold gr
  have h1 : x * r.num ≤ y * r.num := Int.mul_le_mul_of_nonneg_right hxy h.h0
  have h2 : (x * r.num + r.den - 1) / r.den ≤ (y * r.num + r.den - 1) / r.den := Int.ediv_le_ediv h.pos (by omega)
  omega
theorem gr_ge {x : Int} {r : Rat} (h : Rt r) (h0 : 0 ≤ x) : x ≤ gr x r := by
  unfold gr
  have h1 : 0 ≤ x * r.num := Int.mul_nonneg h0 h.h0
  have hp := h.pos
  have h2 : 0 ≤ (x * r.num + r.den - 1) / r.den := Int.ediv_nonneg (by omega) (by omega)
  omega
theorem gr_le {x : Int} {r : Rat} (h : Rt r) (h0 : 0 ≤ x) : gr x r ≤ 2 * x := by
  unfold gr
  have hp := h.pos
  have h1 : x * r.num ≤ x * r.den := Int.mul_le_mul_of_nonneg_left h.h1 h0
  have h2 : (x * r.num + r.den - 1) / r.den < x + 1 := by
    refine Int.ediv_lt_of_lt_mul hp ?_
    rw [Int.add_mul, Int.one_mul]
    omega
  omega
theorem gr_zero {r : Rat} (h : Rt r) : gr 0 r = 0 := by
  have := gr_ge h (x := 0) (by omega)
  have := gr_le h (x := 0) (by omega)
  omega
/-- the law's own reckoning -/
def lp (r : Rat) (p : Int) : Nat → Int → Int → Int → D
  | 0, _, _, _ => .none
  | k + 1, m, o, w => if gr o r ≤ p then .tuple [.str "paid", .int m, .int (gr o r), .int (w + gr o r)] else if o ≤ gr o r - p then .tuple [.str "never", .int (gr o r - p)] else lp r p k (m + 1) (gr o r - p) (w + p)
def paidB : Rho → M Ctl := (fSeq (fSet 5 (nDat (fCall F__law_grown (aCons (rdat 0) (aCons (rdat 1) aNil)))))
  (fSeq (fIfS (fTest (f2 dLe (rdat 5) (rdat 2))) (fRet (fTup (dCons (fun _ => pure (.str "paid")) (dCons (rdat 4) (dCons (rdat 5) (dCons (f2 dAdd (rdat 3) (rdat 5)) dNil)))))) fSkip)
  (fSeq (fIfS (fTest (f2 dGe (f2 dSub (rdat 5) (rdat 2)) (rdat 0))) (fRet (fTup (dCons (fun _ => pure (.str "never")) (dCons (f2 dSub (rdat 5) (rdat 2)) dNil)))) fSkip)
  (fPar 0 3 (nDat (f2 dSub (rdat 5) (rdat 2))) (nDat (f2 dAdd (rdat 3) (rdat 2)))))))
theorem paidB_eq {o p w m : Int} {r : Rat} {x : Sl} (h : Rt r) (ho : Lg o < 100000) : paidB [.dat (.int o), .dat (frQ r), .dat (.int p), .dat (.int w), .dat (.int m), x] =
    if gr o r ≤ p then pure (.rt (.tuple [.str "paid", .int m, .int (gr o r), .int (w + gr o r)])) else if o ≤ gr o r - p then pure (.rt (.tuple [.str "never", .int (gr o r - p)])) else
      pure (.nx [.dat (.int (gr o r - p)), .dat (frQ r), .dat (.int p), .dat (.int (w + p)), .dat (.int m), .dat (.int (gr o r))]) := by
  have h1 := lgrown_eq o r h ho
  by_cases c1 : gr o r ≤ p
  · simp [paidB, h1, c1]
  · by_cases c2 : o ≤ gr o r - p
    · simp [paidB, h1, c1, c2]
    · simp [paidB, h1, c1, c2]
theorem Lg_1000000 {o : Int} (h0 : 0 ≤ o) (h : o ≤ 1000000) : Lg o ≤ 20 := Lg_le (by
  have e : (2 : Nat) ^ (20 + 1) = 2097152 := by decide
  omega)
theorem paid_loop {r : Rat} {p : Int} (h : Rt r) : ∀ (k : Nat) (m o w : Int) (x y : Sl), 0 ≤ o → o ≤ 1000000 → ∃ ρ, forL (Pat.nm 4).bind paidB (rng m k) [.dat (.int o), .dat (frQ r), .dat (.int p), .dat (.int w), x, y] = (match lp r p k m o w with
    | .none => pure (.nx ρ)
    | d => pure (.rt d))
  | 0, m, o, w, x, y, h0, h1 => ⟨_, rfl⟩
  | k + 1, m, o, w, x, y, h0, h1 => by
    have hl := Lg_1000000 h0 h1
    rw [rng_succ]
    unfold forL lp
    rw [nm_bind _ _ _ (by simp), ls, pb]
    simp only [List.set_cons_succ, List.set_cons_zero]
    rw [paidB_eq h (by omega)]
    by_cases c1 : gr o r ≤ p
    · exact ⟨[], by simp [c1]⟩
    · by_cases c2 : o ≤ gr o r - p
      · exact ⟨[], by simp [c1, c2]⟩
      · obtain ⟨ρ, e⟩ := paid_loop h k (m + 1) (gr o r - p) (w + p) (.dat (.int m)) (.dat (.int (gr o r))) (by omega) (by omega)
        refine ⟨ρ, ?_⟩
        simp only [c1, c2, if_false, pb]
        exact e
theorem paid_eq {o p : Int} {r : Rat} (h : Rt r) (h0 : 0 ≤ o) (h1 : o ≤ 1000000) : F__law_paid [.dat (.int o), .dat (frQ r), .dat (.int p)] = pure (lp r p 4999 1 o 0) := by
  obtain ⟨ρ, e⟩ := paid_loop (p := p) h 4999 1 o 0 .un .un h0 h1
  have hr : dRng2 (.int 1) (.int 5000) = some (rng 1 4999) := rng2_eq 1 5000 (by decide) (by decide) (by decide) (by decide)
  unfold paidB at e
  simp [F__law_paid, fFor, fRng2, hr] at e ⊢
  rw [e]
  cases lp r p 4999 1 o 0 <;> rfl
end Jw
namespace Jw
open PySem
/-- k months to the end, the last pay g -/
inductive Path (r : Rat) (p : Int) : Int → Nat → Int → Prop
  | last {o : Int} : 0 < o → gr o r ≤ p → Path r p o 1 (gr o r)
  | more {o : Int} {k : Nat} {g : Int} : 0 < o → p < gr o r → gr o r - p < o → Path r p (gr o r - p) k g → Path r p o (k + 1) g
theorem path_ex {r : Rat} {p : Int} (h : Rt r) : ∀ (n : Nat) (o : Int), o.toNat ≤ n → 0 < o → gr o r - o < p → ∃ k g, Path r p o k g ∧ k ≤ n := by
  intro n
  induction n with
  | zero => intro o h1 h2; omega
  | succ n ih =>
    intro o h1 h2 h3
    by_cases c : gr o r ≤ p
    · exact ⟨1, _, .last h2 c, by omega⟩
    · have hm := gr_mono (x := gr o r - p) (y := o) h (by omega)
      obtain ⟨k, g, q, hk⟩ := ih (gr o r - p) (by omega) (by omega) (by omega)
      exact ⟨k + 1, g, .more h2 (by omega) (by omega) q, by omega⟩
theorem Path.pos {r : Rat} {p o g : Int} {k : Nat} (q : Path r p o k g) : 0 < o ∧ 1 ≤ k ∧ gr o r - o < p := by
  cases q with
  | last h1 h2 => exact ⟨h1, by omega, by omega⟩
  | more h1 h2 h3 q => exact ⟨h1, by omega, by omega⟩
theorem Path.lastLe {r : Rat} {p o g : Int} {k : Nat} (h : Rt r) (q : Path r p o k g) : 0 < g ∧ g ≤ p := by
  induction q with
  | last h1 h2 =>
    have := gr_ge h (Int.le_of_lt h1)
    omega
  | more h1 h2 h3 q ih => exact ih
theorem Path.lp {r : Rat} {p o g : Int} {k : Nat} (q : Path r p o k g) : ∀ (n : Nat) (m w : Int), k ≤ n → Jw.lp r p n m o w = .tuple [.str "paid", .int (m + k - 1), .int g, .int (w + (k - 1) * p + g)] := by
  induction q with
  | last h1 h2 =>
    intro n m w hn
    obtain ⟨n, rfl⟩ : ∃ j, n = j + 1 := ⟨n - 1, by omega⟩
    unfold Jw.lp
    rw [if_pos h2]
    congr 4
    · congr 1
      simp
    · congr 2
      simp
  | more h1 h2 h3 q ih =>
    rename_i o k g
    intro n m w hn
    obtain ⟨n, rfl⟩ : ∃ j, n = j + 1 := ⟨n - 1, by omega⟩
    unfold Jw.lp
    rw [if_neg (by omega), if_neg (by omega), ih n (m + 1) (w + p) (by omega)]
    have e1 : m + 1 + (k : Int) - 1 = m + ((k + 1 : Nat) : Int) - 1 := by omega
    have e2 : w + p + ((k : Int) - 1) * p + g = w + (((k + 1 : Nat) : Int) - 1) * p + g := by
      have : (((k + 1 : Nat) : Int) - 1) = (k : Int) - 1 + 1 := by omega
      rw [this, Int.add_mul, Int.one_mul]
      omega
    rw [e1, e2]
/-- what is owed a month later -/
def st (r : Rat) (p o : Int) : Int := if gr o r - p > 0 then gr o r - p else 0
def ow (r : Rat) (o : Int) (ps : List Int) : Int := ps.foldl (fun o p => st r p o) o
theorem Path.ow {r : Rat} {p o g : Int} {k : Nat} (q : Path r p o k g) : Jw.ow r o (List.replicate (k - 1) p ++ [g]) = 0 := by
  induction q with
  | last h1 h2 =>
    unfold Jw.ow
    simp [st]
  | more h1 h2 h3 q ih =>
    rename_i o k g
    have hk := q.pos.2.1
    obtain ⟨j, rfl⟩ : ∃ j, k = j + 1 := ⟨k - 1, by omega⟩
    unfold Jw.ow at ih ⊢
    have e : j + 1 + 1 - 1 = j + 1 := by omega
    rw [e, List.replicate_succ, List.cons_append, List.foldl_cons]
    have e2 : st r p o = gr o r - p := by unfold st; rw [if_pos (by omega)]
    rw [e2]
    exact ih
/-! ### told -/
def toldT : Rho → M Bool := fTest (f2 dGt (rdat 2) (fun _ => pure (.int 0)))
def toldB : Rho → M Ctl := (fSeq (fPar 6 5 (nDat (fCall F_grown (aCons (rdat 2) (aCons (rdat 3) aNil)))) (nDat (f2 dAdd (rdat 5) (fun _ => pure (.int 1)))))
  (fPar 7 2 (nDat (f2 dMin2 (rdat 1) (rdat 6))) (nDat (f2 dMax2 (fun _ => pure (.int 0)) (f2 dSub (rdat 6) (rdat 1))))))
theorem toldT_eq {a b d e : D} {o m : Int} {x y : Sl} : toldT [.dat a, .dat b, .dat (.int o), .dat d, .dat e, .dat (.int m), x, y] = pure (decide (0 < o)) := by simp [toldT]
theorem toldB_eq {a e : D} {o m p : Int} {r : Rat} {x y : Sl} (h : Rt r) (hl : Lg o < 100000) : toldB [.dat a, .dat (.int p), .dat (.int o), .dat (frQ r), .dat e, .dat (.int m), x, y] =
    pure (.nx [.dat a, .dat (.int p), .dat (.int (st r p o)), .dat (frQ r), .dat e, .dat (.int (m + 1)), .dat (.int (gr o r)), .dat (.int (if gr o r < p then gr o r else p))]) := by
  have h1 := grown_eq o r h hl
  simp [toldB, h1, st]
theorem told_loop {r : Rat} {p o g : Int} {k : Nat} (h : Rt r) (q : Path r p o k g) {a e : D} : ∀ (n : Nat) (m : Int) (x y : Sl), k < n → o ≤ 1000000 → ∃ x', whileL toldT toldB n [.dat a, .dat (.int p), .dat (.int o), .dat (frQ r), .dat e, .dat (.int m), x, y] =
    pure (.nx [.dat a, .dat (.int p), .dat (.int 0), .dat (frQ r), .dat e, .dat (.int (m + k)), x', .dat (.int g)]) := by
  induction q with
  | last h1 h2 =>
    rename_i o
    intro n m x y hn hs
    obtain ⟨n, rfl⟩ : ∃ j, n = j + 2 := ⟨n - 2, by omega⟩
    refine ⟨.dat (.int (gr o r)), ?_⟩
    have hl := Lg_1000000 (o := o) (by omega) hs
    unfold whileL
    rw [toldT_eq, pb, if_pos (by simpa using h1), toldB_eq h (by omega), pb]
    have e1 : st r p o = 0 := by unfold st; rw [if_neg (by omega)]
    have e2 : (if gr o r < p then gr o r else p) = gr o r := by split <;> omega
    rw [e1, e2]
    show whileL toldT toldB (n + 1) _ = _
    unfold whileL
    rw [toldT_eq, pb, if_neg (by simp)]
    rfl
  | more h1 h2 h3 q ih =>
    rename_i o k g
    intro n m x y hn hs
    obtain ⟨n, rfl⟩ : ∃ j, n = j + 1 := ⟨n - 1, by omega⟩
    have hl := Lg_1000000 (o := o) (by omega) hs
    unfold whileL
    rw [toldT_eq, pb, if_pos (by simpa using h1), toldB_eq h (by omega), pb]
    have e1 : st r p o = gr o r - p := by unfold st; rw [if_pos (by omega)]
    rw [e1]
    obtain ⟨x', e⟩ := ih n (m + 1) (.dat (.int (gr o r))) (.dat (.int (if gr o r < p then gr o r else p))) (by omega) (by omega)
    refine ⟨x', ?_⟩
    have e3 : m + 1 + (k : Int) = m + ((k + 1 : Nat) : Int) := by omega
    rw [e3] at e
    exact e
theorem told_never {r : Rat} {o p : Int} (h : Pw o r) (hn : o ≤ gr o r - p) : F_told [.dat (pw o r), .dat (.int p)] = pure (.tuple [.str "never", .int (gr o r - p)]) := by
  have h1 := grown_eq o r h.rt (by have := h.lg; omega)
  unfold pw
  simp [F_told, Pat.bind, Pats.binds, h1, hn]
theorem told_paid {r : Rat} {o p g : Int} {k : Nat} (h : Pw o r) (q : Path r p o k g) : F_told [.dat (pw o r), .dat (.int p)] = pure (.tuple [.str "paid", .int k, .int g]) := by
  have h1 := grown_eq o r h.rt (by have := h.lg; omega)
  have hn : ¬ o ≤ gr o r - p := by
    have := q.pos
    omega
  have h2 := h.h2
  have hk : k ≤ o.toNat := by
    obtain ⟨k', g', q', hk'⟩ := path_ex h.rt o.toNat o (Nat.le_refl _) q.pos.1 q.pos.2.2
    have e1 := q.lp (k + k') 0 0 (by omega)
    have e2 := q'.lp (k + k') 0 0 (by omega)
    rw [e1] at e2
    injection e2 with e2
    injection e2 with _ e2
    injection e2 with e2 _
    injection e2 with e2
    omega
  have hw : ∃ x', fWhile toldT toldB [.dat (pw o r), .dat (.int p), .dat (.int o), .dat (frQ r), .dat (.int (gr o r - p)), .dat (.int 0), .un, .un] = pure (.nx [.dat (pw o r), .dat (.int p), .dat (.int 0), .dat (frQ r), .dat (.int (gr o r - p)), .dat (.int k), x', .dat (.int g)]) := by
    unfold fWhile
    obtain ⟨x', e⟩ := told_loop h.rt q (a := pw o r) (e := .int (gr o r - p)) (fuelR [.dat (pw o r), .dat (.int p), .dat (.int o), .dat (frQ r), .dat (.int (gr o r - p)), .dat (.int 0), .un, .un]) 0 .un .un (by
      simp [fuelR, szD]
      omega) (by omega)
    rw [Int.zero_add] at e
    exact ⟨x', e⟩
  obtain ⟨x', hw⟩ := hw
  unfold toldT toldB at hw
  unfold pw at hw ⊢
  simp [F_told, Pat.bind, Pats.binds, h1, hn] at hw ⊢
  rw [hw]
  simp
end Jw
namespace Jw
open PySem
theorem sq {f g : Rho → M Ctl} {ρ ρ' : Rho} (h : f ρ = pure (.nx ρ')) : fSeq f g ρ = g ρ' := by
  unfold fSeq
  rw [h]
  rfl
theorem sq_rt {f g : Rho → M Ctl} {ρ : Rho} {d : D} (h : f ρ = pure (.rt d)) : fSeq f g ρ = pure (.rt d) := by
  unfold fSeq
  rw [h]
  rfl
theorem dfr {m : Nat} {f : Rho → M Ctl} {as : List Sl} {d : D} (h : f (as ++ List.replicate m .un) = pure (.rt d)) : fDef m f as = pure d := by
  unfold fDef run
  rw [h]
  rfl
theorem dfn {m : Nat} {f : Rho → M Ctl} {as : List Sl} {ρ : Rho} (h : f (as ++ List.replicate m .un) = pure (.nx ρ)) : fDef m f as = pure .none := by
  unfold fDef run
  rw [h]
  rfl
theorem eqS (a b : Str) (ha : PyData.strOk a = true) (hb : PyData.strOk b = true) : dEq (.str a) (.str b) = some (.bool (a == b)) := by
  unfold dEq
  rw [if_pos ⟨by simp [SeqAt.shaped, PyData.canLay0, PyData.depth, ha], by simp [SeqAt.shaped, PyData.canLay0, PyData.depth, hb]⟩]
  rfl
@[simp] theorem eqNN : dEq (.str "never") (.str "never") = some (.bool true) := by
  rw [eqS _ _ (by decide +kernel) (by decide +kernel)]
  congr 2
@[simp] theorem eqPN : dEq (.str "paid") (.str "never") = some (.bool false) := by
  rw [eqS _ _ (by decide +kernel) (by decide +kernel), show ((("paid" : Str) == ("never" : Str)) : Bool) = false by decide +kernel]
@[simp] theorem eqPP : dEq (.str "paid") (.str "paid") = some (.bool true) := by
  rw [eqS _ _ (by decide +kernel) (by decide +kernel)]
  congr 2
@[simp] theorem eqNP : dEq (.str "never") (.str "paid") = some (.bool false) := by
  rw [eqS _ _ (by decide +kernel) (by decide +kernel), show ((("never" : Str) == ("paid" : Str)) : Bool) = false by decide +kernel]
@[simp] theorem tix0 (a : D) (r : List D) : dIx (.tuple (a :: r)) (.int 0) = some a := by
  show L2.atI (a :: r) 0 = _
  exact at0 a r
@[simp] theorem tix1 (a b : D) (r : List D) : dIx (.tuple (a :: b :: r)) (.int 1) = some b := by
  show L2.atI (a :: b :: r) 1 = _
  unfold L2.atI L2.ixN
  simp
  rw [if_pos (by omega)]
  rfl
@[simp] theorem tix2 (a b c : D) (r : List D) : dIx (.tuple (a :: b :: c :: r)) (.int 2) = some c := by
  show L2.atI (a :: b :: c :: r) 2 = _
  unfold L2.atI L2.ixN
  simp
  rw [if_pos (by omega)]
  rfl
@[simp] theorem tix3 (a b c d : D) (r : List D) : dIx (.tuple (a :: b :: c :: d :: r)) (.int 3) = some d := by
  show L2.atI (a :: b :: c :: d :: r) 3 = _
  unfold L2.atI L2.ixN
  simp
  rw [if_pos (by omega)]
  rfl
theorem lg2000 {p : Int} (h0 : 0 ≤ p) (h2 : p ≤ 2000) : Lg p ≤ 10 := Lg_le (by
  have e : (2 : Nat) ^ (10 + 1) = 2048 := by decide
  omega)
theorem whole_of_never {r : Rat} {o p : Int} (h : Pw o r) (hn : o ≤ gr o r - p) : F_whole_of [.dat (pw o r), .dat (.int p)] = pure .none := by
  have h1 := told_never h hn
  simp [F_whole_of, h1]
theorem Path.le {r : Rat} {o p g : Int} {k : Nat} (h : Rt r) (q : Path r p o k g) : k ≤ o.toNat := by
  obtain ⟨k', g', q', hk'⟩ := path_ex h o.toNat o (Nat.le_refl _) q.pos.1 q.pos.2.2
  have e1 := q.lp (k + k') 0 0 (by omega)
  have e2 := q'.lp (k + k') 0 0 (by omega)
  rw [e1] at e2
  injection e2 with e2
  injection e2 with _ e2
  injection e2 with e2 _
  injection e2 with e2
  omega
theorem whole_of_paid {r : Rat} {o p g : Int} {k : Nat} (h : Pw o r) (h0 : 0 ≤ p) (h2 : p ≤ 2000) (q : Path r p o k g) : F_whole_of [.dat (pw o r), .dat (.int p)] = pure (.int ((k - 1) * p + g)) := by
  have h1 := told_paid h q
  have hk := q.le h.rt
  have hk1 := q.pos.2.1
  have ho := h.h2
  have hm : dMul (.int ((k : Int) - 1)) (.int p) = some (.int (((k : Int) - 1) * p)) := by
    have a := lg2000 h0 h2
    have b := Lg_1000000 (o := (k : Int) - 1) (by omega) (by omega)
    exact mulI (by omega)
  simp [F_whole_of, h1, hm]
theorem whole_paid_eq {r : Rat} {o p : Int} (h : Pw o r) (h0 : 0 ≤ p) (h2 : p ≤ 2000) : F_whole_paid [.dat (pw o r), .dat (.int p)] = F_whole_of [.dat (pw o r), .dat (.int p)] := by
  have h1 := check_pay_eq h h0 h2
  simp [F_whole_paid, h1]
theorem paid_or_never_eq {r : Rat} {o p : Int} (h : Pw o r) (h0 : 0 ≤ p) (h2 : p ≤ 2000) : F_paid_or_never [.dat (pw o r), .dat (.int p)] = F_told [.dat (pw o r), .dat (.int p)] := by
  have h1 := check_pay_eq h h0 h2
  simp [F_paid_or_never, h1]
/-! ### pays -/
def tps (ps : List Int) : D := .tuple (ps.map PyData.int)
structure Ps (ps : List Int) : Prop where
  len : ps.length ≤ 12
  all : ∀ p ∈ ps, 0 ≤ p ∧ p ≤ 2000
theorem are_pays_eq {ps : List Int} (least : Int) (h : Ps ps) (hl : least ≤ ps.length) : F_are_pays [.dat (tps ps), .dat (.int least)] = pure (.bool true) := by
  have h1 := is_tuple_eq (ps.map PyData.int) least 12 (by simpa using hl) (by have := h.len; simp; omega)
  have h2 : lcL (Pat.nm 2).bind (fun _ => pure true) (fCall F_is_within (aCons (rdat 2) (aCons (fun _ => pure (.int 0)) (aCons (fun _ => pure (.int 2000)) aNil)))) [.dat (tps ps), .dat (.int least), .un] (ps.map PyData.int) = pure ((ps.map PyData.int).map fun _ => .bool true) := by
    refine lc_all _ fun x hx => ?_
    obtain ⟨p, hp, rfl⟩ := List.mem_map.mp hx
    refine ⟨_, nm_bind _ _ _ (by simp), ?_⟩
    have hw := is_within_eq p 0 2000 (h.all p hp).1 (h.all p hp).2
    simp [hw]
  have h3 := all_true ((ps.map PyData.int).map fun _ => .bool true) (fun d hd => by
    obtain ⟨_, _, e⟩ := List.mem_map.mp hd
    exact e.symm)
  have hlen : ps.length < 16777216 := by have := h.len; omega
  unfold tps at h2 ⊢
  have h4 : fLc [2] (fItems (rdat 0)) (Pat.nm 2).bind (fun _ => pure true) (fCall F_is_within (aCons (rdat 2) (aCons (fun _ => pure (.int 0)) (aCons (fun _ => pure (.int 2000)) aNil)))) [.dat (.tuple (ps.map PyData.int)), .dat (.int least), .un] = pure ((ps.map PyData.int).map fun _ => .bool true) := by
    show (if (ps.map PyData.int).length < 16777216 then lcL _ _ _ [.dat (.tuple (ps.map PyData.int)), .dat (.int least), .un] _ else _) = _
    rw [if_pos (by rw [List.length_map]; exact hlen)]
    exact h2
  simp only [F_are_pays, fDef, run, fRet, fAndV, fCall, aCons, aNil, rdat, List.cons_append, List.nil_append, List.replicate_succ, List.replicate_zero, get0, getS, pb, h1, f1, fList, h4, h3, ls]
theorem st_bounds {r : Rat} {o p : Int} (h : Rt r) (h0 : 0 ≤ o) (hp : 0 ≤ p) : 0 ≤ st r p o ∧ st r p o ≤ 2 * o := by
  have := gr_le h h0
  unfold st
  split <;> omega
def owB : Rho → M Ctl := (fSet 2 (nDat (f2 dMax2 (fun _ => pure (.int 0)) (f2 dSub (fCall F_grown (aCons (rdat 2) (aCons (rdat 3) aNil))) (rdat 4)))))
theorem ow_loop {r : Rat} (h : Rt r) {a b : D} : ∀ (ps : List Int) (o : Int) (x : Sl), (∀ p ∈ ps, 0 ≤ p ∧ p ≤ 2000) → 0 ≤ o → o * 2 ^ ps.length ≤ 10000000 → ∃ x', forL (Pat.nm 4).bind owB (ps.map PyData.int) [.dat a, .dat b, .dat (.int o), .dat (frQ r), x] = pure (.nx [.dat a, .dat b, .dat (.int (ow r o ps)), .dat (frQ r), x'])
  | [], o, x, _, _, _ => ⟨x, rfl⟩
  | p :: ps, o, x, hp, h0, h1 => by
    have hpp := hp p List.mem_cons_self
    have hb := st_bounds h h0 hpp.1
    have e2 : (2 : Int) ^ (p :: ps).length = 2 ^ ps.length * 2 := by rw [List.length_cons, Int.pow_succ]
    have hpos : (0 : Int) < 2 ^ ps.length := Int.pow_pos (by omega)
    have hbig : o ≤ o * 2 ^ (p :: ps).length := by
      have : o * 1 ≤ o * 2 ^ (p :: ps).length := Int.mul_le_mul_of_nonneg_left (by omega) h0
      omega
    have hl : Lg o ≤ 23 := Lg_le (by
      have e : (2 : Nat) ^ (23 + 1) = 16777216 := by decide
      omega)
    have hg := grown_eq o r h (by omega)
    have hnext : st r p o * 2 ^ ps.length ≤ 10000000 := by
      have a1 : st r p o * 2 ^ ps.length ≤ 2 * o * 2 ^ ps.length := Int.mul_le_mul_of_nonneg_right hb.2 (by omega)
      have a2 : o * 2 ^ (p :: ps).length = 2 * o * 2 ^ ps.length := by rw [e2]; grind
      omega
    obtain ⟨x', e⟩ := ow_loop h ps (st r p o) (.dat (.int p)) (fun q hq => hp q (List.mem_cons_of_mem _ hq)) hb.1 hnext
    refine ⟨x', ?_⟩
    rw [List.map_cons]
    unfold forL
    rw [nm_bind _ _ _ (by simp), ls, pb]
    have eb : owB [.dat a, .dat b, .dat (.int o), .dat (frQ r), .dat (.int p)] = pure (.nx [.dat a, .dat b, .dat (.int (st r p o)), .dat (frQ r), .dat (.int p)]) := by
      simp [owB, hg, st]
    simp only [List.set_cons_succ, List.set_cons_zero]
    rw [eb, pb]
    exact e
theorem owed_in_eq {r : Rat} {o : Int} {ps : List Int} (h : Pw o r) (hp : Ps ps) : F_owed_in [.dat (pw o r), .dat (tps ps)] = pure (.int (ow r o ps)) := by
  have h1 := check_pawn_eq h
  have h2 := are_pays_eq 0 hp (by omega)
  have hk : o * 2 ^ ps.length ≤ 10000000 := by
    have a : (2 : Int) ^ ps.length ≤ 2 ^ 12 := by
      have := Nat.pow_le_pow_right (n := 2) (by omega) hp.len
      exact_mod_cast this
    have b : o * 2 ^ ps.length ≤ o * 2 ^ 12 := Int.mul_le_mul_of_nonneg_left a (by have := h.h1; omega)
    have := h.h2
    omega
  obtain ⟨x', e⟩ := ow_loop h.rt (a := pw o r) (b := tps ps) ps o .un hp.all (by have := h.h1; omega) hk
  unfold owB at e
  unfold F_owed_in
  refine dfr ?_
  rw [sq (ρ' := [.dat (pw o r), .dat (tps ps), .un, .un, .un]) (by simp [h1]), sq (ρ' := [.dat (pw o r), .dat (tps ps), .un, .un, .un]) (by simp [h2]), sq (ρ' := [.dat (pw o r), .dat (tps ps), .dat (.int o), .dat (frQ r), .un]) (by simp [pw, Pat.bind, Pats.binds]),
    sq (ρ' := [.dat (pw o r), .dat (tps ps), .dat (.int (ow r o ps)), .dat (frQ r), x']) (by
      unfold fFor
      show (O.lift (dItems (tps ps)) >>= fun ds => _) = _
      exact e)]
  simp
def lowB : Rho → M Ctl := (fSeq (fSet 4 (nDat (fCall F__law_grown (aCons (rdat 0) (aCons (rdat 1) aNil)))))
  (fSet 0 (nDat (f2 dSub (rdat 4) (f2 dMin2 (rdat 3) (rdat 4))))))
theorem low_loop {r : Rat} (h : Rt r) {b : D} : ∀ (ps : List Int) (o : Int) (x y : Sl), (∀ p ∈ ps, 0 ≤ p ∧ p ≤ 2000) → 0 ≤ o → o * 2 ^ ps.length ≤ 10000000 → ∃ x' y', forL (Pat.nm 3).bind lowB (ps.map PyData.int) [.dat (.int o), .dat (frQ r), .dat b, x, y] = pure (.nx [.dat (.int (ow r o ps)), .dat (frQ r), .dat b, x', y'])
  | [], o, x, y, _, _, _ => ⟨x, y, rfl⟩
  | p :: ps, o, x, y, hp, h0, h1 => by
    have hpp := hp p List.mem_cons_self
    have hb := st_bounds h h0 hpp.1
    have e2 : (2 : Int) ^ (p :: ps).length = 2 ^ ps.length * 2 := by rw [List.length_cons, Int.pow_succ]
    have hpos : (0 : Int) < 2 ^ ps.length := Int.pow_pos (by omega)
    have hbig : o ≤ o * 2 ^ (p :: ps).length := by
      have : o * 1 ≤ o * 2 ^ (p :: ps).length := Int.mul_le_mul_of_nonneg_left (by omega) h0
      omega
    have hl : Lg o ≤ 23 := Lg_le (by
      have e : (2 : Nat) ^ (23 + 1) = 16777216 := by decide
      omega)
    have hg := lgrown_eq o r h (by omega)
    have hnext : st r p o * 2 ^ ps.length ≤ 10000000 := by
      have a1 : st r p o * 2 ^ ps.length ≤ 2 * o * 2 ^ ps.length := Int.mul_le_mul_of_nonneg_right hb.2 (by omega)
      have a2 : o * 2 ^ (p :: ps).length = 2 * o * 2 ^ ps.length := by rw [e2]; grind
      omega
    obtain ⟨x', y', e⟩ := low_loop h ps (st r p o) (.dat (.int p)) (.dat (.int (gr o r))) (fun q hq => hp q (List.mem_cons_of_mem _ hq)) hb.1 hnext
    refine ⟨x', y', ?_⟩
    rw [List.map_cons]
    unfold forL
    rw [nm_bind _ _ _ (by simp), ls, pb]
    have es : gr o r - (if gr o r < p then gr o r else p) = st r p o := by
      unfold st
      split <;> split <;> omega
    have eb : lowB [.dat (.int o), .dat (frQ r), .dat b, .dat (.int p), y] = pure (.nx [.dat (.int (st r p o)), .dat (frQ r), .dat b, .dat (.int p), .dat (.int (gr o r))]) := by
      simp [lowB, hg, es]
    simp only [List.set_cons_succ, List.set_cons_zero]
    rw [eb, pb]
    exact e
theorem law_owed_eq {r : Rat} {o : Int} {ps : List Int} (h : Pw o r) (hp : Ps ps) : F__law_owed [.dat (.int o), .dat (frQ r), .dat (tps ps)] = pure (.int (ow r o ps)) := by
  have hk : o * 2 ^ ps.length ≤ 10000000 := by
    have a : (2 : Int) ^ ps.length ≤ 2 ^ 12 := by
      have := Nat.pow_le_pow_right (n := 2) (by omega) hp.len
      exact_mod_cast this
    have b : o * 2 ^ ps.length ≤ o * 2 ^ 12 := Int.mul_le_mul_of_nonneg_left a (by have := h.h1; omega)
    have := h.h2
    omega
  obtain ⟨x', y', e⟩ := low_loop h.rt (b := tps ps) ps o .un .un hp.all (by have := h.h1; omega) hk
  unfold lowB at e
  unfold F__law_owed
  refine dfr ?_
  rw [sq (ρ' := [.dat (.int (ow r o ps)), .dat (frQ r), .dat (tps ps), x', y']) (by
      unfold fFor
      show (O.lift (dItems (tps ps)) >>= fun ds => _) = _
      exact e)]
  simp
end Jw
namespace Jw
open PySem
theorem rdm {a c : Rat} (h : 0 < c) : a / c * c = a := by grind
theorem rdl {a b c : Rat} (h : 0 < c) (k : a ≤ b * c) : a / c ≤ b := by
  refine Classical.byContradiction fun n => ?_
  have n2 : b < a / c := by grind
  have := Rat.mul_lt_mul_of_pos_right n2 h
  rw [rdm h] at this
  grind
theorem rld {a b c : Rat} (h : 0 < c) (k : a * c ≤ b) : a ≤ b / c := by
  refine Classical.byContradiction fun n => ?_
  have n2 : b / c < a := by grind
  have := Rat.mul_lt_mul_of_pos_right n2 h
  rw [rdm h] at this
  grind
theorem rdlt {a b c : Rat} (h : 0 < c) (k : a < b * c) : a / c < b := by
  refine Classical.byContradiction fun n => ?_
  have n2 : b ≤ a / c := by grind
  have := Rat.mul_le_mul_of_nonneg_right n2 (Rat.le_of_lt h)
  rw [rdm h] at this
  grind
theorem rltd {a b c : Rat} (h : 0 < c) (k : a * c < b) : a < b / c := by
  refine Classical.byContradiction fun n => ?_
  have n2 : b / c ≤ a := by grind
  have := Rat.mul_le_mul_of_nonneg_right n2 (Rat.le_of_lt h)
  rw [rdm h] at this
  grind
theorem Rt.nn {r : Rat} (h : Rt r) : 0 ≤ r := Rat.num_nonneg.mp h.h0
theorem Rt.one {r : Rat} (h : Rt r) : 1 + r ≠ 0 := by
  have := h.nn
  grind
theorem Rt.H {r : Rat} (h : Rt r) : Hq r ≤ 6 := by
  have := h.lg
  unfold Hq
  omega
theorem frQ_one : frQ (1 : Rat) = .tuple [.int 1, .int 1] := rfl
theorem frQ_zero : frQ (0 : Rat) = .tuple [.int 0, .int 1] := rfl
theorem Hq_one : Hq 1 = 0 := rfl
theorem Hq_zero : Hq 0 = 0 := rfl
theorem Hq_int (i : Int) : Hq (i : Rat) = Lg i := by
  unfold Hq
  have : Lg ((((i : Rat).den : Nat) : Int)) = 0 := rfl
  rw [this]
  show max (Lg i) 0 = Lg i
  omega
def wstep (r : Rat) (z : Rat × Rat) (p : Int) : Rat × Rat := (z.1 + p * (z.2 / (1 + r)), z.2 / (1 + r))
def wnow (r : Rat) (ps : List Int) : Rat := (ps.foldl (wstep r) (0, 1)).1
def wB : Rho → M Ctl := (fSeq (fSet 3 (nDat (fCall F_parted (aCons (rdat 3) (aCons (fCall F_added (aCons (fTup (dCons (fun _ => pure (.int 1)) (dCons (fun _ => pure (.int 1)) dNil))) (aCons (rdat 1) aNil))) aNil)))))
  (fSet 2 (nDat (fCall F_added (aCons (rdat 2) (aCons (fCall F_times (aCons (fTup (dCons (rdat 4) (dCons (fun _ => pure (.int 1)) dNil))) (aCons (rdat 3) aNil))) aNil))))))
theorem wB_eq {r f y : Rat} {p : Int} (h : Rt r) (hp : 0 ≤ p ∧ p ≤ 2000) (hy : Hq y ≤ 200) (hf : Hq f ≤ 3000) {a : D} : wB [.dat a, .dat (frQ r), .dat (frQ f), .dat (frQ y), .dat (.int p)] = pure (.nx [.dat a, .dat (frQ r), .dat (frQ (wstep r (f, y) p).1), .dat (frQ (wstep r (f, y) p).2), .dat (.int p)]) := by
  have h1 := added_eq 1 r (by rw [Hq_one]; have := h.H; omega)
  rw [frQ_one] at h1
  have l1 := Hq_add 1 r
  rw [Hq_one] at l1
  have hH := h.H
  have h2 := parted_eq y (1 + r) h.one (by omega)
  have l2 := Hq_div y (1 + r) h.one
  have lp := lg2000 hp.1 hp.2
  have h3 := times_eq (p : Rat) (y / (1 + r)) (by rw [Hq_int]; omega)
  rw [frQ_int] at h3
  have l3 := Hq_mul (p : Rat) (y / (1 + r))
  rw [Hq_int] at l3
  have h4 := added_eq f ((p : Rat) * (y / (1 + r))) (by omega)
  unfold wstep
  simp [wB, h1, h2, h3, h4]
theorem w_loop {r : Rat} (h : Rt r) {a : D} : ∀ (ps : List Int) (f y : Rat) (x : Sl) (k : Nat), (∀ p ∈ ps, 0 ≤ p ∧ p ≤ 2000) → Hq y ≤ 9 * k → Hq f ≤ 130 * k → k + ps.length ≤ 12 →
    ∃ x', forL (Pat.nm 4).bind wB (ps.map PyData.int) [.dat a, .dat (frQ r), .dat (frQ f), .dat (frQ y), x] = pure (.nx [.dat a, .dat (frQ r), .dat (frQ (ps.foldl (wstep r) (f, y)).1), .dat (frQ (ps.foldl (wstep r) (f, y)).2), x']) ∧ Hq (ps.foldl (wstep r) (f, y)).1 ≤ 130 * 12
  | [], f, y, x, k, _, _, hf, hk => ⟨x, rfl, by
    show Hq f ≤ _
    have : k ≤ 12 := by simpa using hk
    omega⟩
  | p :: ps, f, y, x, k, hp, hy, hf, hk => by
    rw [List.length_cons] at hk
    have hpp := hp p List.mem_cons_self
    have l1 := Hq_add 1 r
    rw [Hq_one] at l1
    have hH := h.H
    have l2 := Hq_div y (1 + r) h.one
    have lp := lg2000 hpp.1 hpp.2
    have l3 := Hq_mul (p : Rat) (y / (1 + r))
    rw [Hq_int] at l3
    have l4 := Hq_add f ((p : Rat) * (y / (1 + r)))
    obtain ⟨x', e, b⟩ := w_loop h (a := a) ps (wstep r (f, y) p).1 (wstep r (f, y) p).2 (.dat (.int p)) (k + 1) (fun q hq => hp q (List.mem_cons_of_mem _ hq)) (by unfold wstep; dsimp only; omega) (by unfold wstep; dsimp only; omega) (by omega)
    refine ⟨x', ?_, b⟩
    rw [List.map_cons]
    unfold forL
    rw [nm_bind _ _ _ (by simp), ls, pb]
    simp only [List.set_cons_succ, List.set_cons_zero]
    rw [wB_eq h hpp (by omega) (by omega), pb]
    exact e
theorem worth_eq {r : Rat} {ps : List Int} (h : Rt r) (hp : Ps ps) (h1 : 1 ≤ ps.length) : F_worth_now [.dat (tps ps), .dat (frQ r)] = pure (frQ (wnow r ps)) ∧ Hq (wnow r ps) ≤ 1560 := by
  have e1 := are_pays_eq 1 hp (by omega)
  have e2 := is_rate_eq r h
  obtain ⟨x', e, b⟩ := w_loop h (a := tps ps) ps 0 1 .un 0 hp.all (by rw [Hq_one]; omega) (by rw [Hq_zero]; omega) (by have := hp.len; omega)
  refine ⟨?_, b⟩
  unfold wB at e
  unfold F_worth_now
  refine dfr ?_
  rw [sq (ρ' := [.dat (tps ps), .dat (frQ r), .un, .un, .un]) (by simp [e1]), sq (ρ' := [.dat (tps ps), .dat (frQ r), .un, .un, .un]) (by simp [e2]), sq (ρ' := [.dat (tps ps), .dat (frQ r), .dat (frQ 0), .dat (frQ 1), .un]) (by simp [Pat.bind, Pats.binds, frQ_one, frQ_zero]), sq (by
      unfold fFor
      show (O.lift (dItems (tps ps)) >>= fun ds => _) = _
      exact e)]
  simp [wnow]
/-! ### from the end backwards -/
def wback (r : Rat) : List Int → Rat
  | [] => 0
  | p :: ps => (wback r ps + p) / (1 + r)
theorem wfold {r : Rat} (h : Rt r) : ∀ (ps : List Int) (f y : Rat), (ps.foldl (wstep r) (f, y)).1 = f + y * wback r ps
  | [], f, y => by
    show f = f + y * 0
    grind
  | p :: ps, f, y => by
    have h1 := h.one
    rw [List.foldl_cons]
    have e : wstep r (f, y) p = (f + p * (y / (1 + r)), y / (1 + r)) := rfl
    rw [e, wfold h ps]
    show _ = f + y * ((wback r ps + p) / (1 + r))
    grind
theorem wnow_back {r : Rat} (h : Rt r) (ps : List Int) : wnow r ps = wback r ps := by
  unfold wnow
  rw [wfold h]
  grind
/-! ### between what is owed and a little more -/
theorem st_ceil {r : Rat} {o p : Int} (h : Rt r) (h0 : 0 ≤ o) (hg : p ≤ gr o r) : (o : Rat) * (1 + r) - p ≤ (st r p o : Rat) ∧ (st r p o : Rat) < o * (1 + r) - p + 1 := by
  have e : st r p o = gr o r - p := by unfold st; split <;> omega
  have hp := h.pos
  have a1 : o * r.num ≤ (o * r.num + r.den - 1) / r.den * r.den := by
    have := Int.lt_ediv_add_one_mul_self (o * r.num + r.den - 1) hp
    rw [Int.add_mul, Int.one_mul] at this
    omega
  have a2 : (o * r.num + r.den - 1) / r.den * r.den < o * r.num + r.den := by
    have := Int.ediv_mul_le (o * r.num + r.den - 1) (b := (r.den : Int)) (by omega)
    omega
  have b1 : ((o * r.num : Int) : Rat) ≤ (((o * r.num + r.den - 1) / r.den * r.den : Int) : Rat) := by exact_mod_cast a1
  have b2 : (((o * r.num + r.den - 1) / r.den * r.den : Int) : Rat) < ((o * r.num + r.den : Int) : Rat) := by exact_mod_cast a2
  have hq := q_is r
  have hd : (0 : Rat) < (r.den : Rat) := by exact_mod_cast hp
  rw [e]
  unfold gr
  generalize (o * r.num + r.den - 1) / r.den = c at *
  push_cast at b1 b2 ⊢
  have e2 : (o : Rat) * r = (o : Rat) * (r.num : Rat) / (r.den : Rat) := by
    have : (o : Rat) * r = o * ((r.num : Rat) / (r.den : Rat)) := by rw [← hq]
    rw [this]
    grind
  have c1 : (o : Rat) * r ≤ c := by
    rw [e2]
    exact rdl hd b1
  have c2 : (c : Rat) < o * r + 1 := by
    rw [e2]
    have : (c : Rat) < ((o : Rat) * (r.num : Rat) + (r.den : Rat)) / (r.den : Rat) := by
      exact rltd hd b2
    have e3 : ((o : Rat) * (r.num : Rat) + (r.den : Rat)) / (r.den : Rat) = o * r.num / r.den + 1 := by grind
    rw [← e3]
    exact this
  constructor <;> grind
theorem Path.worth {r : Rat} {p o g : Int} {k : Nat} (h : Rt r) (q : Path r p o k g) : (o : Rat) ≤ wback r (List.replicate (k - 1) p ++ [g]) ∧ wback r (List.replicate (k - 1) p ++ [g]) < o + k := by
  have hpos : (0 : Rat) < 1 + r := by have := h.nn; grind
  have hge : (1 : Rat) ≤ 1 + r := by have := h.nn; grind
  have key : ∀ (o z : Int) (w k : Rat), 0 ≤ o → z ≤ gr o r → 0 ≤ k → (st r z o : Rat) ≤ w → w < st r z o + k ∨ (k = 0 ∧ w = st r z o) → (o : Rat) ≤ (w + z) / (1 + r) ∧ (w + z) / (1 + r) < o + (k + 1) := by
    intro o z w k h0 hz hk h1 h2
    obtain ⟨c1, c2⟩ := st_ceil h h0 hz
    have h2' : w ≤ st r z o + k := by
      rcases h2 with h2 | ⟨h2, h3⟩
      · exact Rat.le_of_lt h2
      · grind
    constructor
    · refine rld hpos ?_
      grind
    · refine rdlt hpos ?_
      have : (k + 1) * 1 ≤ (k + 1) * (1 + r) := Rat.mul_le_mul_of_nonneg_left hge (by grind)
      grind
  induction q with
  | last h1 h2 =>
    rename_i o
    have e : st r (gr o r) o = 0 := by unfold st; rw [if_neg (by omega)]
    have := key o (gr o r) 0 0 (by omega) (Int.le_refl _) (by grind) (by rw [e]; grind) (.inr ⟨rfl, by rw [e]; rfl⟩)
    show (o : Rat) ≤ (0 + (gr o r : Rat)) / (1 + r) ∧ (0 + (gr o r : Rat)) / (1 + r) < o + ((1 : Nat) : Rat)
    refine ⟨this.1, ?_⟩
    have := this.2
    grind
  | more h1 h2 h3 q ih =>
    rename_i o k g
    have hk := q.pos.2.1
    obtain ⟨j, rfl⟩ : ∃ j, k = j + 1 := ⟨k - 1, by omega⟩
    have e2 : st r p o = gr o r - p := by unfold st; rw [if_pos (by omega)]
    have := key o p (wback r (List.replicate (j + 1 - 1) p ++ [g])) ((j + 1 : Nat) : Rat) (by omega) (by omega) (by exact_mod_cast Nat.zero_le _) (by rw [e2]; exact ih.1) (.inl (by rw [e2]; exact ih.2))
    have e3 : j + 1 + 1 - 1 = j + 1 := by omega
    rw [e3, List.replicate_succ, List.cons_append]
    refine ⟨this.1, ?_⟩
    have := this.2
    show (wback r (List.replicate j p ++ [g]) + p) / (1 + r) < _
    have e4 : j + 1 - 1 = j := by omega
    rw [e4] at this
    push_cast at this ⊢
    grind
end Jw
namespace Jw
open PySem
theorem sh_int (i : Int) : SeqAt.shaped (.int i) = true := rfl
theorem sh_never (x : Int) : SeqAt.shaped (.tuple [.str "never", .int x]) = true := by
  have : PyData.strOk "never" = true := by decide +kernel
  simp [SeqAt.shaped, PyData.canLay0, PyData.canLayAll0, PyData.depth, PyData.depthAll, this]
theorem sh_paid (x y : Int) : SeqAt.shaped (.tuple [.str "paid", .int x, .int y]) = true := by
  have : PyData.strOk "paid" = true := by decide +kernel
  simp [SeqAt.shaped, PyData.canLay0, PyData.canLayAll0, PyData.depth, PyData.depthAll, this]
theorem rep_one {α : Type} (a : α) : ∀ n : Nat, (List.replicate n [a]).flatten = List.replicate n a
  | 0 => rfl
  | n + 1 => by rw [List.replicate_succ, List.flatten_cons, rep_one a n, List.replicate_succ]; rfl
theorem mul_pays (p : Int) (k : Nat) (h : k ≤ 1000) (z : Int) (hz : z = k) : dMul (.tuple [.int p]) (.int z) = some (tps (List.replicate k p)) := by
  subst hz
  unfold dMul tps
  show (if _ then _ else _) = _
  rw [if_pos ⟨by omega, by omega, by simp⟩, Int.toNat_natCast, rep_one, List.map_replicate]
theorem add_pays (ps : List Int) (g : Int) (h : ps.length ≤ 1000) : dAdd (tps ps) (.tuple [.int g]) = some (tps (ps ++ [g])) := by
  unfold dAdd tps
  show (if _ then _ else _) = _
  rw [if_pos (by simp; omega), List.map_append]
  rfl
theorem cut_last (ps : List Int) (g : Int) : dSlice (tps (ps ++ [g])) none (some (-1)) = some (tps ps) := by
  show some (PyData.tuple (cut ((ps ++ [g]).map PyData.int) none (some (-1)))) = _
  unfold cut tps
  have e1 : HT.sIx ((ps ++ [g]).map PyData.int).length ((ps ++ [g]).map PyData.int).length (some (-1)) = ps.length := by
    unfold HT.sIx
    simp
    omega
  have e0 : HT.sIx ((ps ++ [g]).map PyData.int).length 0 none = 0 := rfl
  rw [e1, e0, List.drop_zero, Nat.sub_zero, List.map_append, List.take_left' (by simp)]
theorem cut3 (a b c d : D) : dSlice (.tuple [a, b, c, d]) none (some 3) = some (.tuple [a, b, c]) := rfl
theorem sum_pays (ps : List Int) : dSumD (tps ps) = some (.int ps.sum) := by
  unfold dSumD tps
  show (dInts (ps.map PyData.int)).map _ = _
  rw [dInts_map]
  rfl
theorem Path.len {r : Rat} {p o g : Int} {k : Nat} (q : Path r p o k g) : (List.replicate (k - 1) p ++ [g]).length = k := by
  have := q.pos.2.1
  simp
  omega
theorem Path.ps {r : Rat} {p o g : Int} {k : Nat} (h : Rt r) (q : Path r p o k g) (h0 : 0 ≤ p) (h2 : p ≤ 2000) (hk : k ≤ 12) : Ps (List.replicate (k - 1) p ++ [g]) := by
  have hg := q.lastLe h
  refine ⟨by rw [q.len]; exact hk, fun x hx => ?_⟩
  rcases List.mem_append.mp hx with hx | hx
  · rw [(List.mem_replicate.mp hx).2]
    exact ⟨h0, h2⟩
  · rw [List.mem_singleton.mp hx]
    omega
theorem gr_r0 (o : Int) : gr o 0 = o := by
  unfold gr
  show o + (o * 0 + 1 - 1) / 1 = o
  simp
theorem Path.sum0 {p o g : Int} {k : Nat} (q : Path 0 p o k g) : (List.replicate (k - 1) p ++ [g]).sum = o := by
  induction q with
  | last h1 h2 =>
    rename_i o
    show (gr o 0 + 0 : Int) = o
    rw [gr_r0]
    omega
  | more h1 h2 h3 q ih =>
    rename_i o k g
    have hk := q.pos.2.1
    obtain ⟨j, rfl⟩ : ∃ j, k = j + 1 := ⟨k - 1, by omega⟩
    have e3 : j + 1 + 1 - 1 = j + 1 := by omega
    rw [e3, List.replicate_succ, List.cons_append, List.sum_cons]
    have e4 : j + 1 - 1 = j := by omega
    rw [e4] at ih
    rw [ih, gr_r0]
    omega
theorem wback0 : ∀ ps : List Int, wback 0 ps = (ps.sum : Int)
  | [] => rfl
  | p :: ps => by
    show (wback 0 ps + p) / (1 + 0) = _
    rw [wback0 ps, List.sum_cons]
    push_cast
    grind
theorem q_lt (q : Rat) (o : Int) (h : (o : Rat) ≤ q) : ¬ q.num < o * q.den := by
  intro z
  have hd : (0 : Rat) < (q.den : Rat) := by
    have := Nat.pos_of_ne_zero q.den_nz
    exact_mod_cast this
  have z2 : (q.num : Rat) < o * q.den := by exact_mod_cast z
  have e := q_is q
  have := Rat.mul_le_mul_of_nonneg_right h (Rat.le_of_lt hd)
  rw [e] at this
  have e2 : (q.num : Rat) / q.den * q.den = q.num := rdm hd
  have e3 : ((q.num : Rat) / (q.den : Rat)).den = q.den := by rw [← e]
  grind
theorem q_ge (q : Rat) (o : Int) (h : q < (o : Rat)) : ¬ o * q.den ≤ q.num := by
  intro z
  have hd : (0 : Rat) < (q.den : Rat) := by
    have := Nat.pos_of_ne_zero q.den_nz
    exact_mod_cast this
  have z2 : (o : Rat) * q.den ≤ (q.num : Rat) := by exact_mod_cast z
  have e := q_is q
  have e2 : q * q.den = q.num := by
    have := rdm (a := (q.num : Rat)) hd
    rw [← e] at this
    exact this
  have := Rat.mul_lt_mul_of_pos_right h hd
  grind
theorem ne_zero_rate (r : Rat) (h : r ≠ 0) : dNe (frQ r) (.tuple [.int 0, .int 1]) = some (.bool true) := by
  unfold dNe
  rw [if_pos ⟨shaped_frQ r, rfl⟩]
  have hn := num_ne h
  have : PyData.eqv (frQ r) (.tuple [.int 0, .int 1]) = false := by
    unfold frQ
    simp [PyData.eqv, PyData.eqvAll, hn]
  rw [this]
  rfl
theorem ne_zero_rate0 : dNe (frQ 0) (.tuple [.int 0, .int 1]) = some (.bool false) := ne_self (frQ 0) (shaped_frQ 0)
theorem paid_right {r : Rat} {o p : Int} (h : Pw o r) (h0 : 0 ≤ p) (h2 : p ≤ 2000) : F__law_is_paid_right [.hand, .dat (pw o r), .dat (.int p)] = pure (.bool true) := by
  have ho1 := h.h1
  have ho2 := h.h2
  have e1 := paid_eq (p := p) h.rt (o := o) (by omega) (by omega)
  have e2 := lgrown_eq o r h.rt (by have := h.lg; omega)
  have e3 : F_month_later [.dat (pw o r), .dat (.int p)] = pure (.int (st r p o)) := month_later_eq h h0 h2
  have e4 : dNe (.int (st r p o)) (.int (gr o r - (if gr o r < p then gr o r else p))) = some (.bool false) := by
    rw [neI]
    have : st r p o = gr o r - (if gr o r < p then gr o r else p) := by
      unfold st
      split <;> split <;> omega
    rw [this]
    simp
  have e5 := paid_or_never_eq h h0 h2
  have e6 := whole_paid_eq h h0 h2
  unfold F__law_is_paid_right
  refine dfr ?_
  rw [sq (ρ' := [.hand, .dat (pw o r), .dat (.int p), .dat (.int o), .dat (frQ r), .un, .un, .un, .un, .un]) (by simp [pw, Pat.bind, Pats.binds]),
    sq (ρ' := [.hand, .dat (pw o r), .dat (.int p), .dat (.int o), .dat (frQ r), .dat (lp r p 4999 1 o 0), .un, .un, .un, .un]) (by simp [e1]),
    sq (ρ' := [.hand, .dat (pw o r), .dat (.int p), .dat (.int o), .dat (frQ r), .dat (lp r p 4999 1 o 0), .dat (.int (gr o r)), .un, .un, .un]) (by simp [e2]),
    sq (ρ' := [.hand, .dat (pw o r), .dat (.int p), .dat (.int o), .dat (frQ r), .dat (lp r p 4999 1 o 0), .dat (.int (gr o r)), .un, .un, .un]) (by simp [e3, e4, -neI])]
  by_cases c : gr o r - o < p
  · obtain ⟨k, g, q, hk⟩ := path_ex h.rt o.toNat o (Nat.le_refl _) (by omega) c
    have el := q.lp 4999 1 0 (by omega)
    have ek : 1 + (k : Int) - 1 = k := by omega
    rw [ek] at el
    have et := told_paid h q
    have ew := whole_of_paid h h0 h2 q
    have hk1 := q.pos.2.1
    rw [el]
    rw [sq (ρ' := [.hand, .dat (pw o r), .dat (.int p), .dat (.int o), .dat (frQ r), .dat (.tuple [.str "paid", .int k, .int g, .int (0 + (k - 1) * p + g)]), .dat (.int (gr o r)), .un, .un, .un]) (by simp),
      sq (ρ' := [.hand, .dat (pw o r), .dat (.int p), .dat (.int o), .dat (frQ r), .dat (.tuple [.str "paid", .int k, .int g, .int (0 + (k - 1) * p + g)]), .dat (.int (gr o r)), .dat (.tuple [.str "paid", .int k, .int g]), .un, .un]) (by simp [e5, et]),
      sq (ρ' := [.hand, .dat (pw o r), .dat (.int p), .dat (.int o), .dat (frQ r), .dat (.tuple [.str "paid", .int k, .int g, .int (0 + (k - 1) * p + g)]), .dat (.int (gr o r)), .dat (.tuple [.str "paid", .int k, .int g]), .un, .un]) (by simp),
      sq (ρ' := [.hand, .dat (pw o r), .dat (.int p), .dat (.int o), .dat (frQ r), .dat (.tuple [.str "paid", .int k, .int g, .int (0 + (k - 1) * p + g)]), .dat (.int (gr o r)), .dat (.tuple [.str "paid", .int k, .int g]), .un, .un]) (by
        have z := ne_self _ (sh_paid k g)
        simp [fSlice, oNone, oSome, dI, cut3, z, e6, ew])]
    by_cases c12 : (12 : Int) < k
    · rw [sq_rt (d := .bool true) (by simp [c12])]
    · have hkk : k ≤ 12 := by omega
      have hps := q.ps h.rt h0 h2 hkk
      have m1 := mul_pays p (k - 1) (by omega) ((k : Int) - 1) (by omega)
      have m2 := add_pays (List.replicate (k - 1) p) g (by simp; omega)
      have m3 := (worth_eq h.rt hps (by rw [q.len]; exact hk1))
      have m4 := owed_in_eq h hps
      rw [q.ow] at m4
      have m5 := cut_last (List.replicate (k - 1) p) g
      have hps2 : Ps (List.replicate (k - 1) p) := ⟨by simp; omega, fun x hx => hps.all x (List.mem_append_left _ hx)⟩
      have m6 := owed_in_eq h hps2
      have m7 := law_owed_eq h hps2
      have hw := q.worth h.rt
      rw [← wnow_back h.rt] at hw
      have n1 := q_lt _ o hw.1
      have n2 := q_ge (wnow r (List.replicate (k - 1) p ++ [g])) (o + (k : Int)) (by push_cast; exact hw.2)
      have hl := m3.2
      unfold Hq at hl
      have lgo := h.lg
      have lgk := Lg_1000000 (o := o + (k : Int)) (by omega) (by omega)
      have m8 : dMul (.int o) (.int ((wnow r (List.replicate (k - 1) p ++ [g])).den : Int)) = some (.int (o * (wnow r (List.replicate (k - 1) p ++ [g])).den)) := mulI (by omega)
      have m9 : dMul (.int (o + (k : Int))) (.int ((wnow r (List.replicate (k - 1) p ++ [g])).den : Int)) = some (.int ((o + (k : Int)) * (wnow r (List.replicate (k - 1) p ++ [g])).den)) := mulI (by omega)
      have m10 := sum_pays (List.replicate (k - 1) p ++ [g])
      have m3' := m3.1
      generalize hA : (Sl.dat (.tuple [.str "paid", .int (k : Int), .int g, .int (0 + (k - 1) * p + g)])) = A
      have hA1 : ∀ ρ : Rho, ρ[5]? = some A → f2 dIx (rdat 5) (fun _ => pure (.int 1)) ρ = pure (.int (k : Int)) := fun ρ e => by simp [e, ← hA]
      have hA2 : ∀ ρ : Rho, ρ[5]? = some A → f2 dIx (rdat 5) (fun _ => pure (.int 2)) ρ = pure (.int g) := fun ρ e => by simp [e, ← hA]
      generalize hB : (Sl.dat (.tuple [.str "paid", .int (k : Int), .int g])) = B
      rw [sq (ρ' := [.hand, .dat (pw o r), .dat (.int p), .dat (.int o), .dat (frQ r), A, .dat (.int (gr o r)), B, .un, .un]) (by simp [← hA, c12]),
        sq (ρ' := [.hand, .dat (pw o r), .dat (.int p), .dat (.int o), .dat (frQ r), A, .dat (.int (gr o r)), B, .dat (tps (List.replicate (k - 1) p ++ [g])), .un]) (by simp [← hA, m1, m2]),
        sq (ρ' := [.hand, .dat (pw o r), .dat (.int p), .dat (.int o), .dat (frQ r), A, .dat (.int (gr o r)), B, .dat (tps (List.replicate (k - 1) p ++ [g])), .dat (frQ (wnow r (List.replicate (k - 1) p ++ [g])))]) (by simp [m3']),
        sq (ρ' := [.hand, .dat (pw o r), .dat (.int p), .dat (.int o), .dat (frQ r), A, .dat (.int (gr o r)), B, .dat (tps (List.replicate (k - 1) p ++ [g])), .dat (frQ (wnow r (List.replicate (k - 1) p ++ [g])))]) (by simp [m4, fSlice, oNone, oSome, dI, m5, m6, m7]),
        sq (ρ' := [.hand, .dat (pw o r), .dat (.int p), .dat (.int o), .dat (frQ r), A, .dat (.int (gr o r)), B, .dat (tps (List.replicate (k - 1) p ++ [g])), .dat (frQ (wnow r (List.replicate (k - 1) p ++ [g])))]) (by
          have q0 : dIx (frQ (wnow r (List.replicate (k - 1) p ++ [g]))) (.int 0) = some (.int (wnow r (List.replicate (k - 1) p ++ [g])).num) := rfl
          have q1 : dIx (frQ (wnow r (List.replicate (k - 1) p ++ [g]))) (.int 1) = some (.int (wnow r (List.replicate (k - 1) p ++ [g])).den) := rfl
          simp [q0, q1, m8, m9, n1, n2, ← hA])]
      by_cases hr0 : r = 0
      · subst hr0
        have s1 := q.sum0
        have s2 : wnow 0 (List.replicate (k - 1) p ++ [g]) = (o : Rat) := by rw [wnow_back h.rt, wback0, s1]
        rw [s1] at m10
        have s3 := eq_self (frQ (o : Rat)) (shaped_frQ _)
        have s4 := frQ_int o
        rw [s2]
        rw [s4] at s3 ⊢
        simp [ne_zero_rate0, s3, m10]
      · simp [ne_zero_rate r hr0]
  · have hn : o ≤ gr o r - p := by omega
    have el : lp r p 4999 1 o 0 = .tuple [.str "never", .int (gr o r - p)] := by
      show lp r p (4998 + 1) 1 o 0 = _
      unfold lp
      rw [if_neg (by omega), if_pos hn]
    have et := told_never h hn
    have ew := whole_of_never h hn
    have z := eq_self _ (sh_never (gr o r - p))
    rw [el]
    rw [sq (ρ' := [.hand, .dat (pw o r), .dat (.int p), .dat (.int o), .dat (frQ r), .dat (.tuple [.str "never", .int (gr o r - p)]), .dat (.int (gr o r)), .un, .un, .un]) (by simp),
      sq (ρ' := [.hand, .dat (pw o r), .dat (.int p), .dat (.int o), .dat (frQ r), .dat (.tuple [.str "never", .int (gr o r - p)]), .dat (.int (gr o r)), .dat (.tuple [.str "never", .int (gr o r - p)]), .un, .un]) (by simp [e5, et]),
      sq_rt (d := .bool true) (by simp [z, e6, ew])]
end Jw
namespace Jw
open PySem
theorem defT {m : Nat} {f : Rho → M Ctl} {as : List Sl} {s : HS} {P : D → HS → Prop} (h : Tr (f (as ++ List.replicate m .un) s) fun c s' => ∃ d, c = .rt d ∧ P d s') : Tr (fDef m f as s) P := by
  unfold fDef run
  refine Tr.bind (h.imp fun c s' ⟨d, e, k⟩ => ?_)
  subst e
  exact k
theorem seqT {f g : Rho → M Ctl} {ρ : Rho} {s : HS} {P : Ctl → HS → Prop} (h : Tr (f ρ s) fun c s' => ∃ ρ', c = .nx ρ' ∧ Tr (g ρ' s') P) : Tr (fSeq f g ρ s) P := by
  unfold fSeq
  refine Tr.bind (h.imp fun c s' ⟨ρ', e, k⟩ => ?_)
  subst e
  exact k
theorem lgN {i : Int} (n : Nat) (h0 : 0 ≤ i) (h : i < 2 ^ (n + 1)) : Lg i ≤ n := Lg_le (by
  have : ((2 ^ (n + 1) : Nat) : Int) = 2 ^ (n + 1) := by push_cast; rfl
  omega)
theorem rt_div {x y : Int} (h0 : 0 ≤ x) (h1 : x ≤ y) (hy : 0 < y) (h2 : y ≤ 100) : Rt (Rat.divInt x y) := by
  have hn := Rat.num_divInt x y
  have hd := Rat.den_divInt x y
  rw [if_neg (by omega)] at hd
  rw [Int.sign_eq_one_of_pos hy, Int.one_mul] at hn
  have hg : 0 < y.gcd x := Int.gcd_pos_of_ne_zero_left x (by omega)
  have hdv : (y.gcd x : Int) ∣ y := Int.gcd_dvd_left ..
  refine ⟨?_, ?_, ?_⟩
  · rw [hn]
    exact Int.ediv_nonneg h0 (by omega)
  · rw [hn, hd, Int.natCast_ediv]
    have e : ((y.natAbs : Nat) : Int) = y := by omega
    rw [e]
    exact Int.ediv_le_ediv (by omega) h1
  · rw [hd]
    have : y.natAbs / y.gcd x ≤ y.natAbs := Nat.div_le_self _ _
    omega
theorem rt0 : Rt 0 := ⟨by decide, by decide, by decide⟩
theorem rt1 : Rt 1 := ⟨by decide, by decide, by decide⟩
theorem rth : Rt (Rat.divInt 1 2) := rt_div (by omega) (by omega) (by omega) (by omega)
theorem frh : frQ (Rat.divInt 1 2) = .tuple [.int 1, .int 2] := rfl
theorem pawn_ok {n : Nat} {s : HS} (w : Wf n s) (hn : n < 950000000) : Tr (F__law_pawn [.hand] s) fun d s' => Wf (n + 5) s' ∧ ∃ o r, d = pw o r ∧ Pw o r := by
  have l30 : Lg 30 < 9000 := by decide
  have l6 : Lg 6 < 9000 := by decide
  have l100 : Lg 100 = 6 := by decide
  have l7 : Lg 7 = 2 := by decide
  unfold F__law_pawn
  refine defT (seqT ?_)
  have e : (fSet 1 (nDat (fList (dCons (fTup (dCons (fun _ => pure (.int 0)) (dCons (fun _ => pure (.int 1)) dNil))) (dCons (fTup (dCons (fun _ => pure (.int 1)) (dCons (fun _ => pure (.int 1)) dNil))) (dCons (fTup (dCons (fun _ => pure (.int 1)) (dCons (fun _ => pure (.int 2)) dNil))) (dCons (fCall F__law_low (aCons (fCall F__law_draw (aHand 0 (aCons (fun _ => pure (.int 30)) aNil))) (aCons (fun _ => pure (.int 100)) aNil))) (dCons (fCall F__law_low (aCons (f2 dAdd (fun _ => pure (.int 1)) (fCall F__law_draw (aHand 0 (aCons (fun _ => pure (.int 6)) aNil)))) (aCons (fun _ => pure (.int 7)) aNil))) dNil)))))))) ([.hand] ++ List.replicate 2 .un) =
      (F__law_draw [.hand, .dat (.int 30)] >>= fun a => F__law_low [.dat a, .dat (.int 100)] >>= fun x => F__law_draw [.hand, .dat (.int 6)] >>= fun b => O.lift (dAdd (.int 1) b) >>= fun c => F__law_low [.dat c, .dat (.int 7)] >>= fun y =>
        pure (.nx [.hand, .dat (.list [.tuple [.int 0, .int 1], .tuple [.int 1, .int 1], .tuple [.int 1, .int 2], x, y]), .un])) := by simp
  rw [e]
  refine Tr.bind ((draw_ok w (by omega) (by omega) l30).imp ?_)
  rintro a s1 ⟨w1, v, rfl, v0, v1⟩
  rw [low_eq v 100 (by omega) (by have := lgN 40 v0 (by omega); omega) (by omega), pb]
  refine Tr.bind ((draw_ok w1 (by omega) (by omega) l6).imp ?_)
  rintro b s2 ⟨w2, u, rfl, u0, u1⟩
  rw [addI, ls, pb, low_eq (1 + u) 7 (by omega) (by have := lgN (i := 1 + u) 40 (by omega) (by omega); omega) (by omega), pb]
  refine ⟨_, rfl, seqT ?_⟩
  have e2 : ∀ xs : List D, (fSet 2 (nDat (fCall F__law_some (aHand 0 (aCons (rdat 1) aNil))))) [.hand, .dat (.list xs), .un] = (F__law_some [.hand, .dat (.list xs)] >>= fun x => pure (.nx [.hand, .dat (.list xs), .dat x])) := fun xs => by simp
  rw [e2]
  refine Tr.bind ((some_ok w2 (by omega) (by simp) (by simp)).imp ?_)
  rintro d s3 ⟨w3, hd⟩
  refine ⟨_, rfl, ?_⟩
  have hr : ∃ r, d = frQ r ∧ Rt r := by
    simp only [List.mem_cons, List.not_mem_nil, or_false] at hd
    rcases hd with rfl | rfl | rfl | rfl | rfl
    · exact ⟨0, rfl, rt0⟩
    · exact ⟨1, rfl, rt1⟩
    · exact ⟨_, frh.symm, rth⟩
    · exact ⟨_, rfl, rt_div v0 (by omega) (by omega) (by omega)⟩
    · exact ⟨_, rfl, rt_div (by omega) (by omega) (by omega) (by omega)⟩
  obtain ⟨r, rfl, hr⟩ := hr
  have e3 : ∀ y : Sl, (fRet (fTup (dCons (f2 dAdd (fun _ => pure (.int 1)) (fCall F__law_draw (aHand 0 (aCons (fCall F__law_some (aHand 0 (aCons (fList (dCons (fun _ => pure (.int 5)) (dCons (fun _ => pure (.int 60)) (dCons (fun _ => pure (.int 1000)) dNil)))) aNil))) aNil)))) (dCons (rdat 2) dNil)))) [.hand, y, .dat (frQ r)] =
      (F__law_some [.hand, .dat (.list [.int 5, .int 60, .int 1000])] >>= fun a => F__law_draw [.hand, .dat a] >>= fun b => O.lift (dAdd (.int 1) b) >>= fun c => pure (.rt (.tuple [c, frQ r]))) := fun y => by simp
  rw [e3]
  refine Tr.bind ((some_ok w3 (by omega) (by simp) (by simp)).imp ?_)
  rintro a s4 ⟨w4, ha⟩
  have hm : ∃ m : Int, a = .int m ∧ 0 < m ∧ m ≤ 1000 := by
    simp only [List.mem_cons, List.not_mem_nil, or_false] at ha
    rcases ha with rfl | rfl | rfl
    · exact ⟨5, rfl, by omega, by omega⟩
    · exact ⟨60, rfl, by omega, by omega⟩
    · exact ⟨1000, rfl, by omega, by omega⟩
  obtain ⟨m, rfl, m0, m1⟩ := hm
  refine Tr.bind ((draw_ok w4 (by omega) m0 (by have := lgN (i := m) 40 (by omega) (by omega); omega)).imp ?_)
  rintro b s5 ⟨w5, z, rfl, z0, z1⟩
  exact ⟨_, rfl, w5, 1 + z, r, rfl, ⟨hr, by omega, by omega⟩⟩
end Jw
namespace Jw
open PySem
theorem hdiv {w r : Rat} (h : Rt r) : Rat.divInt (w.num * r.den) (w.den * (r.num + r.den)) = w / (1 + r) := by
  have h1 := q_is w
  have h2 := q_is r
  have h3 := den_ne' w
  have h4 := den_ne' r
  have h5 := h.one
  rw [Rat.divInt_eq_div]
  have h6 : (r.num : Rat) + r.den ≠ 0 := by
    intro z
    apply h5
    rw [h2]
    grind
  generalize w.num = a at *
  generalize w.den = b at *
  generalize r.num = c at *
  generalize r.den = d at *
  push_cast
  rw [h1, h2]
  have e : 1 + (c : Rat) / d = (c + d) / d := by grind
  rw [e]
  grind
def hB : Rho → M Ctl := (fSeq (fSet 4 (nDat (fCall F__law_plus (aCons (rdat 4) (aCons (fTup (dCons (rdat 5) (dCons (fun _ => pure (.int 1)) dNil))) aNil)))))
  (fSet 4 (nDat (fCall F__law_low (aCons (f2 dMul (f2 dIx (rdat 4) (fun _ => pure (.int 0))) (f2 dIx (rdat 3) (fun _ => pure (.int 1)))) (aCons (f2 dMul (f2 dIx (rdat 4) (fun _ => pure (.int 1))) (f2 dAdd (f2 dIx (rdat 3) (fun _ => pure (.int 0))) (f2 dIx (rdat 3) (fun _ => pure (.int 1))))) aNil))))))
theorem fq0 (r : Rat) : dIx (frQ r) (.int 0) = some (.int r.num) := rfl
theorem fq1 (r : Rat) : dIx (frQ r) (.int 1) = some (.int r.den) := rfl
theorem hB_eq {r w : Rat} {p : Int} {a x : Sl} (h : Rt r) (hp : 0 ≤ p ∧ p ≤ 2000) (hw : Hq w ≤ 3000) : hB [.hand, a, x, .dat (frQ r), .dat (frQ w), .dat (.int p)] = pure (.nx [.hand, a, x, .dat (frQ r), .dat (frQ ((w + p) / (1 + r))), .dat (.int p)]) ∧ Hq ((w + p) / (1 + r)) ≤ Hq w + 30 := by
  have lp := lg2000 hp.1 hp.2
  have h1 := plus_eq w (p : Rat) (by rw [Hq_int]; omega)
  rw [frQ_int] at h1
  have l1 := Hq_add w (p : Rat)
  rw [Hq_int] at l1
  have hl := h.lg
  have hpos : (0 : Int) < ((w + (p : Rat)).den : Int) * (r.num + r.den) := Int.mul_pos (by have := den_ne (w + (p : Rat)); omega) (by have := h.pos; have := h.h0; omega)
  have l2 : Lg (w + (p : Rat)).num ≤ Hq (w + (p : Rat)) := by unfold Hq; omega
  have l3 : Lg ((w + (p : Rat)).den : Int) ≤ Hq (w + (p : Rat)) := by unfold Hq; omega
  have l4 := Lg_add r.num r.den
  have m1 : dMul (.int (w + (p : Rat)).num) (.int (r.den : Int)) = some (.int ((w + (p : Rat)).num * r.den)) := mulI (by omega)
  have m2 : dMul (.int ((w + (p : Rat)).den : Int)) (.int (r.num + r.den)) = some (.int ((w + (p : Rat)).den * (r.num + r.den))) := mulI (by omega)
  have l5 := Lg_mul (w + (p : Rat)).num r.den
  have l6 := Lg_mul ((w + (p : Rat)).den : Int) (r.num + r.den)
  have h2 := low_eq ((w + (p : Rat)).num * r.den) ((w + (p : Rat)).den * (r.num + r.den)) hpos (by omega) (by omega)
  have h3 := Hq_divInt ((w + (p : Rat)).num * r.den) ((w + (p : Rat)).den * (r.num + r.den)) (by omega)
  rw [hdiv h] at h2 h3
  refine ⟨?_, by omega⟩
  unfold hB
  rw [sq (ρ' := [.hand, a, x, .dat (frQ r), .dat (frQ (w + p)), .dat (.int p)]) (by simp [h1])]
  simp [fq0, fq1, m1, m2, h2]
theorem h_loop {r : Rat} (h : Rt r) {a x : Sl} : ∀ (ps : List Int) (w : Rat) (y : Sl), (∀ p ∈ ps, 0 ≤ p ∧ p ≤ 2000) → Hq w + 30 * ps.length ≤ 3000 → ∃ y', forL (Pat.nm 5).bind hB (ps.map PyData.int) [.hand, a, x, .dat (frQ r), .dat (frQ w), y] = pure (.nx [.hand, a, x, .dat (frQ r), .dat (frQ (ps.foldl (fun (w : Rat) (p : Int) => (w + p) / (1 + r)) w)), y'])
  | [], w, y, _, _ => ⟨y, rfl⟩
  | p :: ps, w, y, hp, hw => by
    rw [List.length_cons] at hw
    obtain ⟨e1, b1⟩ := hB_eq (a := a) (x := x) h (hp p List.mem_cons_self) (w := w) (by omega)
    obtain ⟨y', e⟩ := h_loop h (a := a) (x := x) ps ((w + p) / (1 + r)) (.dat (.int p)) (fun q hq => hp q (List.mem_cons_of_mem _ hq)) (by omega)
    refine ⟨y', ?_⟩
    rw [List.map_cons]
    unfold forL
    rw [nm_bind _ _ _ (by simp), ls, pb]
    simp only [List.set_cons_succ, List.set_cons_zero]
    rw [e1, pb]
    exact e
theorem wback_fold (r : Rat) : ∀ ps : List Int, ps.foldr (fun (p : Int) (w : Rat) => (w + p) / (1 + r)) 0 = wback r ps
  | [] => rfl
  | p :: ps => by rw [List.foldr_cons, wback_fold r ps]; rfl
theorem ints_of : ∀ {ds : List D} {P : Int → Prop}, (∀ d ∈ ds, ∃ p, d = .int p ∧ P p) → ∃ ps : List Int, ds = ps.map PyData.int ∧ ∀ p ∈ ps, P p
  | [], _, _ => ⟨[], rfl, fun _ z => (nomatch z)⟩
  | d :: ds, P, h => by
    obtain ⟨p, rfl, hp⟩ := h d List.mem_cons_self
    obtain ⟨ps, rfl, hps⟩ := ints_of (fun d hd => h d (List.mem_cons_of_mem _ hd))
    refine ⟨p :: ps, rfl, fun q hq => ?_⟩
    rcases List.mem_cons.mp hq with rfl | hq
    · exact hp
    · exact hps q hq
theorem worth_right {n : Nat} {s : HS} (w : Wf n s) (hn : n < 920000000) : Tr (F__law_is_worth_right [.hand] s) fun d s' => Wf (n + 40) s' ∧ d = .bool true := by
  have l12 : Lg 12 < 9000 := by decide
  have l2001 : Lg 2001 < 9000 := by decide
  unfold F__law_is_worth_right
  refine defT (seqT ?_)
  -- the pays
  refine Tr.imp (P := fun c s' => Wf (n + 25) s' ∧ ∃ ps, c = .nx [.hand, .dat (tps ps), .un, .un, .un, .un] ∧ Ps ps ∧ 1 ≤ ps.length) ?_ ?_
  · have e : ∀ L : Rho → M (List D), (fSet 1 (nDat (f1 dTuple (fList L)))) ([.hand] ++ List.replicate 5 .un) = (L [.hand, .un, .un, .un, .un, .un] >>= fun xs => pure (.nx [.hand, .dat (.tuple xs), .un, .un, .un, .un])) := fun L => by simp [dTuple]
    rw [e]
    refine Tr.bind ?_
    unfold fLc
    have e2 : (fRng1 (f2 dAdd (fun _ => pure (.int 1)) (fCall F__law_draw (aHand 0 (aCons (fun _ => pure (.int 12)) aNil))))) [.hand, .un, .un, .un, .un, .un] = (F__law_draw [.hand, .dat (.int 12)] >>= fun a => O.lift (dAdd (.int 1) a) >>= fun c => O.lift (dRng1 c)) := by simp [fRng1]
    refine Tr.bind ?_
    rw [e2]
    refine Tr.bind ((draw_ok w (by omega) (by omega) l12).imp ?_)
    rintro a s1 ⟨w1, v, rfl, v0, v1⟩
    rw [addI, ls, pb, rng1_eq (1 + v) (by omega) (by omega)]
    have hlen : (rng 0 (1 + v).toNat).length = (1 + v).toNat := rng_len _ _
    refine Tr.ret (s := s1) ?_
    rw [if_pos (by rw [hlen]; omega)]
    refine (lc_wf (Pd := fun d => ∃ p : Int, d = .int p ∧ (0 ≤ p ∧ p ≤ 2000)) 2 (rng 0 (1 + v).toNat) (fun x _ i s wi hi => ?_) (n + 1) s1 w1 (by rw [hlen]; omega)).imp ?_
    · refine ⟨_, nm_bind _ _ _ (by simp [wipeR]), ?_⟩
      have e3 : (fCall F__law_some (aHand 0 (aCons (fList (dCons (fun _ => pure (.int 0)) (dCons (fun _ => pure (.int 1)) (dCons (fCall F__law_draw (aHand 0 (aCons (fun _ => pure (.int 2001)) aNil))) dNil)))) aNil))) ((wipeR [.hand, .un, .un, .un, .un, .un] [2]).set 2 (.dat x)) =
        (F__law_draw [.hand, .dat (.int 2001)] >>= fun a => F__law_some [.hand, .dat (.list [.int 0, .int 1, a])]) := by simp [wipeR]
      rw [e3]
      refine Tr.bind ((draw_ok wi (by omega) (by omega) l2001).imp ?_)
      rintro a s2 ⟨w2, u, rfl, u0, u1⟩
      refine (some_ok w2 (by omega) (by simp) (by simp)).imp ?_
      rintro d s3 ⟨w3, hd⟩
      refine ⟨w3, ?_⟩
      simp only [List.mem_cons, List.not_mem_nil, or_false] at hd
      rcases hd with rfl | rfl | rfl
      · exact ⟨0, rfl, by omega, by omega⟩
      · exact ⟨1, rfl, by omega, by omega⟩
      · exact ⟨u, rfl, u0, by omega⟩
    · rintro ds s2 ⟨w2, h2, h3⟩
      rw [hlen] at h2 w2
      obtain ⟨ps, rfl, hp⟩ := ints_of h3
      rw [List.length_map] at h2
      exact ⟨w2.mono (by omega), ps, rfl, ⟨by omega, hp⟩, by omega⟩
  · rintro c s1 ⟨w1, ps, rfl, hps, hp1⟩
    refine ⟨_, rfl, seqT ?_⟩
    have e : (fPar 3 4 (nDat (f2 dIx (fCall F__law_pawn (aHand 0 aNil)) (fun _ => pure (.int 1)))) (nDat (fTup (dCons (fun _ => pure (.int 0)) (dCons (fun _ => pure (.int 1)) dNil))))) [.hand, .dat (tps ps), .un, .un, .un, .un] =
      (F__law_pawn [.hand] >>= fun a => O.lift (dIx a (.int 1)) >>= fun x => pure (.nx [.hand, .dat (tps ps), .un, .dat x, .dat (.tuple [.int 0, .int 1]), .un])) := by simp
    rw [e]
    refine Tr.bind ((pawn_ok w1 (by omega)).imp ?_)
    rintro d s2 ⟨w2, o, r, rfl, hpw⟩
    refine ⟨[.hand, .dat (tps ps), .un, .dat (frQ r), .dat (frQ 0), .un], rfl, ?_⟩
    obtain ⟨y', e4⟩ := h_loop hpw.rt (a := .dat (tps ps)) (x := .un) ps.reverse 0 .un (fun q hq => hps.all q (List.mem_reverse.mp hq)) (by rw [Hq_zero, List.length_reverse]; have := hps.len; omega)
    rw [List.foldl_reverse] at e4
    have e5 : List.foldr (fun (x : Int) (y : Rat) => (y + x) / (1 + r)) 0 ps = wback r ps := wback_fold r ps
    rw [e5] at e4
    unfold hB at e4
    have hback : dBackT (tps ps) = some (tps ps.reverse) := by
      show some (PyData.tuple _) = some (PyData.tuple _)
      rw [List.map_reverse]
    rw [sq (ρ' := [.hand, .dat (tps ps), .un, .dat (frQ r), .dat (frQ (wback r ps)), y']) (by
      unfold fFor fItems
      simp only [f1, rdat, get0, getS, pb, hback, ls]
      exact e4)]
    have hw := (worth_eq hpw.rt hps hp1).1
    rw [wnow_back hpw.rt] at hw
    have hq := eq_self _ (shaped_frQ (wback r ps))
    have e6 : (fRet (f2 dEq (fCall F_worth_now (aCons (rdat 1) (aCons (rdat 3) aNil))) (rdat 4))) [.hand, .dat (tps ps), .un, .dat (frQ r), .dat (frQ (wback r ps)), y'] = pure (.rt (.bool true)) := by simp [hw, hq]
    rw [e6]
    exact ⟨_, rfl, w2.mono (by omega), rfl⟩
end Jw
namespace Jw
open PySem
def itn (r : Rat) (p : Int) : Nat → Int → Int
  | 0, o => o
  | n + 1, o => itn r p n (st r p o)
theorem itn_pos0 {r : Rat} (h : Rt r) : ∀ (n : Nat) (o : Int), 0 < o → 0 < itn r 0 n o
  | 0, o, h0 => h0
  | n + 1, o, h0 => by
    have hg := gr_ge h (Int.le_of_lt h0)
    have e : st r 0 o = gr o r := by
      unfold st
      rw [if_pos (by omega)]
      omega
    show 0 < itn r 0 n (st r 0 o)
    rw [e]
    exact itn_pos0 h n _ (by omega)
theorem itn_zero {r : Rat} {p : Int} (h : Rt r) (hp : 0 ≤ p) : ∀ n : Nat, itn r p n 0 = 0
  | 0 => rfl
  | n + 1 => by
    have e : st r p 0 = 0 := by
      unfold st
      rw [gr_zero h, if_neg (by omega)]
    show itn r p n (st r p 0) = 0
    rw [e]
    exact itn_zero h hp n
theorem path_of_itn {r : Rat} {p : Int} (h : Rt r) : ∀ (n : Nat) (o : Int), 0 < o → itn r p n o = 0 → ∃ k g, Path r p o k g ∧ k ≤ n
  | 0, o, h0, hz => by
    have : o = 0 := hz
    omega
  | n + 1, o, h0, hz => by
    by_cases c : gr o r ≤ p
    · exact ⟨1, _, .last h0 c, by omega⟩
    · have e : st r p o = gr o r - p := by unfold st; rw [if_pos (by omega)]
      have hz' : itn r p n (st r p o) = 0 := hz
      rw [e] at hz'
      obtain ⟨k, g, q, hk⟩ := path_of_itn h n (gr o r - p) (by omega) hz'
      have hd : gr o r - p < o := by
        refine Classical.byContradiction fun z => ?_
        have h1 := gr_mono (x := o) (y := gr o r - p) h (by omega)
        have h2 := q.pos.2.2
        omega
      exact ⟨k + 1, g, .more h0 (by omega) hd q, by omega⟩
theorem Path.itn {r : Rat} {p o g : Int} {k : Nat} (h : Rt r) (hp : 0 ≤ p) (q : Path r p o k g) : ∀ n, k ≤ n → Jw.itn r p n o = 0 := by
  induction q with
  | last h1 h2 =>
    rename_i o
    intro n hn
    obtain ⟨n, rfl⟩ : ∃ j, n = j + 1 := ⟨n - 1, by omega⟩
    have e : st r p o = 0 := by
      unfold st
      exact if_neg (by omega)
    show Jw.itn r p n (st r p o) = 0
    rw [e]
    exact itn_zero h hp n
  | more h1 h2 h3 q ih =>
    rename_i o k g
    intro n hn
    obtain ⟨n, rfl⟩ : ∃ j, n = j + 1 := ⟨n - 1, by omega⟩
    have e : st r p o = gr o r - p := by unfold st; rw [if_pos (by omega)]
    show Jw.itn r p n (st r p o) = 0
    rw [e]
    exact ih n (by omega)
def lB : Rho → M Ctl := (fSet 5 (nDat (f2 dMax2 (fun _ => pure (.int 0)) (f2 dSub (fCall F_grown (aCons (rdat 5) (aCons (f2 dIx (rdat 0) (fun _ => pure (.int 1))) aNil))) (rdat 4)))))
@[simp] theorem pwix0 (o : Int) (r : Rat) : dIx (pw o r) (.int 0) = some (.int o) := rfl
@[simp] theorem pwix1 (o : Int) (r : Rat) : dIx (pw o r) (.int 1) = some (frQ r) := rfl
theorem l_loop {r : Rat} (h : Rt r) {o0 p : Int} {a b c : Sl} (hp : 0 ≤ p) : ∀ (n : Nat) (i o : Int) (x : Sl), 0 ≤ o → o * 2 ^ n ≤ 100000000000 → ∃ x', forL (Pat.nm 6).bind lB (rng i n) [.dat (pw o0 r), a, b, c, .dat (.int p), .dat (.int o), x] = pure (.nx [.dat (pw o0 r), a, b, c, .dat (.int p), .dat (.int (itn r p n o)), x'])
  | 0, i, o, x, _, _ => ⟨x, rfl⟩
  | n + 1, i, o, x, h0, h1 => by
    have hb := st_bounds h h0 hp
    have e2 : (2 : Int) ^ (n + 1) = 2 ^ n * 2 := Int.pow_succ ..
    have hpos : (0 : Int) < 2 ^ n := Int.pow_pos (by omega)
    have hbig : o ≤ o * 2 ^ (n + 1) := by
      have : o * 1 ≤ o * 2 ^ (n + 1) := Int.mul_le_mul_of_nonneg_left (by omega) h0
      omega
    have hl : Lg o ≤ 40 := Lg_small h0 (by omega)
    have hg := grown_eq o r h (by omega)
    have hnext : st r p o * 2 ^ n ≤ 100000000000 := by
      have a1 : st r p o * 2 ^ n ≤ 2 * o * 2 ^ n := Int.mul_le_mul_of_nonneg_right hb.2 (by omega)
      have a2 : o * 2 ^ (n + 1) = 2 * o * 2 ^ n := by rw [e2]; grind
      omega
    obtain ⟨x', e⟩ := l_loop h (o0 := o0) (p := p) (a := a) (b := b) (c := c) hp n (i + 1) (st r p o) (.dat (.int i)) hb.1 hnext
    refine ⟨x', ?_⟩
    rw [rng_succ]
    unfold forL
    rw [nm_bind _ _ _ (by simp), ls, pb]
    have eb : lB [.dat (pw o0 r), a, b, c, .dat (.int p), .dat (.int o), .dat (.int i)] = pure (.nx [.dat (pw o0 r), a, b, c, .dat (.int p), .dat (.int (st r p o)), .dat (.int i)]) := by
      simp [lB, hg, st]
    simp only [List.set_cons_succ, List.set_cons_zero]
    rw [eb, pb]
    exact e
def bsT : Rho → M Bool := (fTest (f2 dGt (f2 dSub (rdat 3) (rdat 2)) (fun _ => pure (.int 1))))
def bsB : Rho → M Ctl := (fSeq (fSet 4 (nDat (f2 dDiv (f2 dAdd (rdat 2) (rdat 3)) (fun _ => pure (.int 2)))))
  (fSeq (fSet 5 (nDat (f2 dIx (rdat 0) (fun _ => pure (.int 0)))))
  (fSeq (fFor (fRng1 (rdat 1)) ((Pat.nm 6)).bind lB)
  (fIfS (fTest (f2 dEq (rdat 5) (fun _ => pure (.int 0)))) (fSet 3 (nDat (rdat 4))) (fSet 2 (nDat (rdat 4)))))))
theorem for_eq {fi : Rho → M (List D)} {bp : D → Rho → Option Rho} {body : Rho → M Ctl} {ρ : Rho} {ds : List D} {c : M Ctl} (h1 : fi ρ = pure ds) (h2 : forL bp body ds ρ = c) : fFor fi bp body ρ = c := by
  unfold fFor
  rw [h1, pb]
  exact h2
theorem rng1_is {fa : Rho → M D} {ρ : Rho} {n : Int} {ds : List D} (h1 : fa ρ = pure (.int n)) (h2 : dRng1 (.int n) = some ds) : fRng1 fa ρ = pure ds := by
  unfold fRng1
  rw [h1, pb, h2]
  rfl
theorem bsT_eq {a b : Sl} {lo hi : Int} {x y z : Sl} : bsT [a, b, .dat (.int lo), .dat (.int hi), x, y, z] = pure (decide (1 < hi - lo)) := by simp [bsT]
theorem bsB_eq {r : Rat} {o lo hi : Int} {m : Nat} {x y z : Sl} (h : Pw o r) (h0 : 0 ≤ lo) (h1 : lo ≤ hi) (h2 : hi ≤ 2000) (hm : m ≤ 24) : ∃ z', bsB [.dat (pw o r), .dat (.int m), .dat (.int lo), .dat (.int hi), x, y, z] =
    pure (.nx (if itn r ((lo + hi) / 2) m o = 0 then [.dat (pw o r), .dat (.int m), .dat (.int lo), .dat (.int ((lo + hi) / 2)), .dat (.int ((lo + hi) / 2)), .dat (.int (itn r ((lo + hi) / 2) m o)), z'] else
      [.dat (pw o r), .dat (.int m), .dat (.int ((lo + hi) / 2)), .dat (.int hi), .dat (.int ((lo + hi) / 2)), .dat (.int (itn r ((lo + hi) / 2) m o)), z'])) := by
  have hd : dDiv (.int (lo + hi)) (.int 2) = some (.int ((lo + hi) / 2)) := divI (by omega) (by decide)
  have hk : o * 2 ^ m ≤ 100000000000 := by
    have a : (2 : Int) ^ m ≤ 16777216 := by
      have := Nat.pow_le_pow_right (n := 2) (by omega) hm
      rw [show (2 : Nat) ^ 24 = 16777216 by decide] at this
      have h3 := Int.ofNat_le.mpr this
      rw [Int.natCast_pow] at h3
      exact h3
    have b : o * 2 ^ m ≤ o * 16777216 := Int.mul_le_mul_of_nonneg_left a (by have := h.h1; omega)
    have := h.h2
    omega
  obtain ⟨z', e⟩ := l_loop h.rt (o0 := o) (p := (lo + hi) / 2) (a := .dat (.int m)) (b := .dat (.int lo)) (c := .dat (.int hi)) (by omega) m 0 o z (by have := h.h1; omega) hk
  refine ⟨z', ?_⟩
  have hr : dRng1 (.int m) = some (rng 0 m) := by
    have := rng1_eq (m : Int) (by omega) (by omega)
    rw [Int.toNat_natCast] at this
    exact this
  have f1 : (fSet 4 (nDat (f2 dDiv (f2 dAdd (rdat 2) (rdat 3)) (fun _ => pure (.int 2))))) [.dat (pw o r), .dat (.int m), .dat (.int lo), .dat (.int hi), x, y, z] = pure (.nx [.dat (pw o r), .dat (.int m), .dat (.int lo), .dat (.int hi), .dat (.int ((lo + hi) / 2)), y, z]) := by simp [hd]
  have f2 : (fSet 5 (nDat (f2 dIx (rdat 0) (fun _ => pure (.int 0))))) [.dat (pw o r), .dat (.int m), .dat (.int lo), .dat (.int hi), .dat (.int ((lo + hi) / 2)), y, z] = pure (.nx [.dat (pw o r), .dat (.int m), .dat (.int lo), .dat (.int hi), .dat (.int ((lo + hi) / 2)), .dat (.int o), z]) := by simp
  have f3 : (fFor (fRng1 (rdat 1)) ((Pat.nm 6)).bind lB) [.dat (pw o r), .dat (.int m), .dat (.int lo), .dat (.int hi), .dat (.int ((lo + hi) / 2)), .dat (.int o), z] = pure (.nx [.dat (pw o r), .dat (.int m), .dat (.int lo), .dat (.int hi), .dat (.int ((lo + hi) / 2)), .dat (.int (itn r ((lo + hi) / 2) m o)), z']) := by
    exact for_eq (rng1_is (n := m) (by simp) hr) e
  unfold bsB
  rw [sq f1, sq f2, sq f3]
  by_cases c : itn r ((lo + hi) / 2) m o = 0
  · simp [c]
  · simp [c]
theorem bs_loop {r : Rat} {o : Int} {m : Nat} (h : Pw o r) (hm : m ≤ 24) : ∀ (n : Nat) (lo hi : Int) (x y z : Sl), (hi - lo).toNat < n → lo < hi → 0 ≤ lo → hi ≤ 2000 → itn r lo m o ≠ 0 → itn r hi m o = 0 →
    ∃ q x' y' z' l, whileL bsT bsB n [.dat (pw o r), .dat (.int m), .dat (.int lo), .dat (.int hi), x, y, z] = pure (.nx [.dat (pw o r), .dat (.int m), l, .dat (.int q), x', y', z']) ∧ 0 < q ∧ q ≤ 2000 ∧ itn r q m o = 0 ∧ itn r (q - 1) m o ≠ 0
  | 0, lo, hi, x, y, z, h1, _, _, _, _, _ => by omega
  | n + 1, lo, hi, x, y, z, h1, h2, h3, h4, h5, h6 => by
    unfold whileL
    rw [bsT_eq, pb]
    by_cases c : 1 < hi - lo
    · rw [if_pos (by simpa using c)]
      obtain ⟨z1, e⟩ := bsB_eq (x := x) (y := y) (z := z) h h3 (Int.le_of_lt h2) h4 hm
      rw [e, pb]
      by_cases c2 : itn r ((lo + hi) / 2) m o = 0
      · rw [if_pos c2]
        exact bs_loop h hm n lo ((lo + hi) / 2) _ _ _ (by omega) (by omega) h3 (by omega) h5 c2
      · rw [if_neg c2]
        exact bs_loop h hm n ((lo + hi) / 2) hi _ _ _ (by omega) (by omega) (by omega) h4 c2 h6
    · rw [if_neg (by simpa using c)]
      have e : hi = lo + 1 := by omega
      refine ⟨hi, x, y, z, _, rfl, by omega, h4, h6, ?_⟩
      rw [e, Int.add_sub_cancel]
      exact h5
theorem least_eq {r : Rat} {o : Int} {m : Nat} (h : Pw o r) (h1 : 1 ≤ m) (hm : m ≤ 24) : ∃ q, F_least_pay [.dat (pw o r), .dat (.int m)] = pure (.int q) ∧ 0 < q ∧ q ≤ 2000 ∧ itn r q m o = 0 ∧ itn r (q - 1) m o ≠ 0 := by
  have e1 := check_pawn_eq h
  have e2 := is_within_eq m 1 60 (by omega) (by omega)
  have e3 := grown_eq o r h.rt (by have := h.lg; omega)
  have ho1 := h.h1
  have ho2 := h.h2
  have hg1 := gr_ge h.rt (x := o) (by omega)
  have hg2 := gr_le h.rt (x := o) (by omega)
  have z0 := itn_pos0 h.rt m o (by omega)
  have z1 : itn r (gr o r) m o = 0 := (Path.last (r := r) (p := gr o r) (o := o) (by omega) (Int.le_refl _)).itn h.rt (by omega) m h1
  obtain ⟨q, x', y', z', l, e, q0, q1, q2, q3⟩ := bs_loop h hm (fuelR [.dat (pw o r), .dat (.int m), .dat (.int 0), .dat (.int (gr o r)), .un, .un, .un]) 0 (gr o r) .un .un .un (by
    simp [fuelR, szD]
    omega) (by omega) (by omega) (by omega) (by omega) z1
  refine ⟨q, ?_, q0, q1, q2, q3⟩
  unfold bsT bsB lB at e
  unfold F_least_pay
  refine dfr ?_
  rw [sq (ρ' := [.dat (pw o r), .dat (.int m), .un, .un, .un, .un, .un]) (by simp [e1]), sq (ρ' := [.dat (pw o r), .dat (.int m), .un, .un, .un, .un, .un]) (by simp [e2]), sq (ρ' := [.dat (pw o r), .dat (.int m), .dat (.int 0), .dat (.int (gr o r)), .un, .un, .un]) (by simp [e3]), sq (show fWhile _ _ _ = _ from e)]
  simp
theorem nePP : dNe (.str "paid") (.str "paid") = some (.bool false) := ne_self _ (by
  have : PyData.strOk "paid" = true := by decide +kernel
  simp [SeqAt.shaped, PyData.canLay0, PyData.depth, this])
theorem Tr.of {α : Type} {m : M α} {a : α} {s : HS} {P : α → HS → Prop} (h : m = pure a) (k : P a s) : Tr (m s) P := by
  rw [h]
  exact k
theorem least_right {n : Nat} {s : HS} {o : Int} {r : Rat} (h : Pw o r) (w : Wf n s) (hn : n < 950000000) : Tr (F__law_is_least_right [.hand, .dat (pw o r)] s) fun d s' => Wf (n + 1) s' ∧ d = .bool true := by
  have ho1 := h.h1
  have ho2 := h.h2
  unfold F__law_is_least_right
  refine defT (seqT ?_)
  have e : (fSet 2 (nDat (f2 dAdd (fun _ => pure (.int 1)) (fCall F__law_draw (aHand 0 (aCons (fun _ => pure (.int 24)) aNil)))))) ([.hand, .dat (pw o r)] ++ List.replicate 4 .un) = (F__law_draw [.hand, .dat (.int 24)] >>= fun a => O.lift (dAdd (.int 1) a) >>= fun x => pure (.nx [.hand, .dat (pw o r), .dat x, .un, .un, .un])) := by simp
  rw [e]
  refine Tr.bind ((draw_ok w (by omega) (by omega) (by decide)).imp ?_)
  rintro a s1 ⟨w1, v, rfl, v0, v1⟩
  obtain ⟨m, hm⟩ : ∃ m : Nat, 1 + v = m := ⟨(1 + v).toNat, by omega⟩
  rw [addI, ls, pb, hm]
  refine ⟨_, rfl, ?_⟩
  obtain ⟨q, e1, q0, q1, q2, q3⟩ := least_eq h (m := m) (by omega) (by omega)
  have p1 := paid_eq (p := q) h.rt (o := o) (by omega) (by omega)
  have p2 := paid_eq (p := q - 1) h.rt (o := o) (by omega) (by omega)
  obtain ⟨k, g, pq, hk⟩ := path_of_itn h.rt m o (by omega) q2
  have el := pq.lp 4999 1 0 (by omega)
  have ek : 1 + (k : Int) - 1 = k := by omega
  rw [ek] at el
  rw [el] at p1
  have hkm : ¬ (m : Int) < k := by omega
  rw [sq (ρ' := [.hand, .dat (pw o r), .dat (.int m), .dat (.int q), .un, .un]) (by simp [e1]),
    sq (ρ' := [.hand, .dat (pw o r), .dat (.int m), .dat (.int q), .dat (.tuple [.str "paid", .int k, .int g, .int (0 + (k - 1) * q + g)]), .dat (lp r (q - 1) 4999 1 o 0)]) (by simp [p1, p2, q0]),
    sq (ρ' := [.hand, .dat (pw o r), .dat (.int m), .dat (.int q), .dat (.tuple [.str "paid", .int k, .int g, .int (0 + (k - 1) * q + g)]), .dat (lp r (q - 1) 4999 1 o 0)]) (by simp [nePP, hkm])]
  refine Tr.of (a := .rt (.bool true)) ?_ ⟨_, rfl, w1, rfl⟩
  by_cases c : gr o r - o < q - 1
  · obtain ⟨k2, g2, pq2, hk2⟩ := path_ex h.rt o.toNat o (Nat.le_refl _) (by omega) c
    have el2 := pq2.lp 4999 1 0 (by omega)
    have ek2 : 1 + (k2 : Int) - 1 = k2 := by omega
    rw [ek2] at el2
    have hkm2 : (m : Int) < k2 := by
      refine Classical.byContradiction fun z => q3 (pq2.itn h.rt (by omega) m (by omega))
    rw [el2]
    simp [hkm2]
  · have el2 : lp r (q - 1) 4999 1 o 0 = .tuple [.str "never", .int (gr o r - (q - 1))] := by
      show lp r (q - 1) (4998 + 1) 1 o 0 = _
      unfold lp
      rw [if_neg (by omega), if_pos (by omega)]
    rw [el2]
    simp
end Jw
namespace Jw
open PySem
theorem lp_cases {r : Rat} {o p : Int} (h : Pw o r) : (o ≤ gr o r - p ∧ lp r p 4999 1 o 0 = .tuple [.str "never", .int (gr o r - p)]) ∨ ∃ k g, Path r p o k g ∧ lp r p 4999 1 o 0 = .tuple [.str "paid", .int (k : Nat), .int g, .int ((k - 1) * p + g)] := by
  have ho1 := h.h1
  have ho2 := h.h2
  by_cases c : gr o r - o < p
  · obtain ⟨k, g, q, hk⟩ := path_ex h.rt o.toNat o (Nat.le_refl _) (by omega) c
    have el := q.lp 4999 1 0 (by omega)
    have ek : 1 + (k : Int) - 1 = k := by omega
    rw [ek, Int.zero_add] at el
    exact .inr ⟨k, g, q, el⟩
  · refine .inl ⟨by omega, ?_⟩
    show lp r p (4998 + 1) 1 o 0 = _
    unfold lp
    rw [if_neg (by omega), if_pos (by omega)]
/-! ### doubled -/
def dbl (r : Rat) (t : Int) : Nat → Int → Int → D
  | 0, _, _ => .none
  | k + 1, m, o => if t ≤ gr o r then .int m else dbl r t k (m + 1) (gr o r)
theorem sh_dbl (r : Rat) (t : Int) : ∀ (k : Nat) (m o : Int), SeqAt.shaped (dbl r t k m o) = true
  | 0, _, _ => rfl
  | k + 1, m, o => by
    unfold dbl
    split
    · rfl
    · exact sh_dbl r t k _ _
theorem Lg_gr {r : Rat} {o : Int} (h : Rt r) (h0 : 0 ≤ o) : Lg (gr o r) ≤ Lg o + 2 := by
  have h1 := gr_ge h h0
  have h2 := gr_le h h0
  have h3 := Lg_mul 2 o
  have h4 : Lg 2 = 1 := by decide
  have h5 : Lg (gr o r) ≤ Lg (2 * o) := Lg_mono (by omega)
  omega
def dB : Rho → M Ctl := (fSeq (fSet 1 (nDat (fCall F_grown (aCons (rdat 1) (aCons (f2 dIx (rdat 0) (fun _ => pure (.int 1))) aNil)))))
  (fIfS (fTest (f2 dGe (rdat 1) (f2 dMul (fun _ => pure (.int 2)) (f2 dIx (rdat 0) (fun _ => pure (.int 0)))))) (fRet (rdat 2)) fSkip))
theorem mul2 {o : Int} (h : Lg o < 1000) : dMul (.int 2) (.int o) = some (.int (2 * o)) := mulI (by
  have : Lg 2 = 1 := by decide
  omega)
theorem d_loop {r : Rat} {o0 : Int} (h : Pw o0 r) : ∀ (k : Nat) (m o : Int) (x : Sl), 0 ≤ o → Lg o + 2 * k ≤ 90000 → ∃ ρ, forL (Pat.nm 2).bind dB (rng m k) [.dat (pw o0 r), .dat (.int o), x] = (match dbl r (2 * o0) k m o with
    | .none => pure (.nx ρ)
    | d => pure (.rt d))
  | 0, m, o, x, _, _ => ⟨_, rfl⟩
  | k + 1, m, o, x, h0, hl => by
    have hg := grown_eq o r h.rt (by omega)
    have m2 := mul2 (o := o0) (by have := h.lg; omega)
    have lg := Lg_gr h.rt h0
    have ge := gr_ge h.rt h0
    rw [rng_succ]
    unfold forL dbl
    rw [nm_bind _ _ _ (by simp), ls, pb]
    simp only [List.set_cons_succ, List.set_cons_zero]
    by_cases c : 2 * o0 ≤ gr o r
    · refine ⟨[], ?_⟩
      have e : dB [.dat (pw o0 r), .dat (.int o), .dat (.int m)] = pure (.rt (.int m)) := by simp [dB, hg, m2, c]
      rw [e, if_pos c]
      rfl
    · obtain ⟨ρ, e⟩ := d_loop h k (m + 1) (gr o r) (.dat (.int m)) (by omega) (by omega)
      refine ⟨ρ, ?_⟩
      have e2 : dB [.dat (pw o0 r), .dat (.int o), .dat (.int m)] = pure (.nx [.dat (pw o0 r), .dat (.int (gr o r)), .dat (.int m)]) := by simp [dB, hg, m2, c]
      rw [e2, if_neg c]
      exact e
theorem doubles_eq {r : Rat} {o : Int} (h : Pw o r) : F_doubles_in [.dat (pw o r)] = pure (dbl r (2 * o) 200 1 o) := by
  have e1 := check_pawn_eq h
  have hl := h.lg
  obtain ⟨ρ, e⟩ := d_loop h 200 1 o .un (by have := h.h1; omega) (by omega)
  have hr : dRng2 (.int 1) (.int 201) = some (rng 1 200) := rng2_eq 1 201 (by decide) (by decide) (by decide) (by decide)
  unfold dB at e
  unfold F_doubles_in
  have hf : (fRng2 (fun _ => pure (.int 1)) (f2 dAdd (fun _ => pure (.int 200)) (fun _ => pure (.int 1)))) [.dat (pw o r), .dat (.int o), .un] = pure (rng 1 200) := by simp [fRng2, hr]
  have hh := for_eq hf e
  cases hd : dbl r (2 * o) 200 1 o with
  | none =>
    rw [hd] at hh
    refine dfr ?_
    rw [sq (ρ' := [.dat (pw o r), .un, .un]) (by simp [e1]), sq (ρ' := [.dat (pw o r), .dat (.int o), .un]) (by simp), sq hh]
    simp
  | _ =>
    rw [hd] at hh
    refine dfr ?_
    rw [sq (ρ' := [.dat (pw o r), .un, .un]) (by simp [e1]), sq (ρ' := [.dat (pw o r), .dat (.int o), .un]) (by simp), sq_rt hh]
def odB : Rho → M Ctl := (fSeq (fSet 3 (nDat (fCall F__law_grown (aCons (rdat 3) (aCons (f2 dIx (rdat 1) (fun _ => pure (.int 1))) aNil)))))
  (fSet 4 (nDat (fIf (fAndT (fTest (f2 dIs (rdat 4) (fun _ => pure .none))) (fTest (f2 dGe (rdat 3) (f2 dMul (fun _ => pure (.int 2)) (f2 dIx (rdat 1) (fun _ => pure (.int 0))))))) (rdat 5) (rdat 4)))))
theorem od_loop2 {r : Rat} {o0 : Int} (h : Pw o0 r) {a b c1 c2 c3 c4 c5 : Sl} {z : Int} : ∀ (k : Nat) (m o : Int) (x : Sl), 0 ≤ o → Lg o + 2 * k ≤ 90000 → ∃ o' x', forL (Pat.nm 5).bind odB (rng m k) [a, .dat (pw o0 r), b, .dat (.int o), .dat (.int z), x, c1, c2, c3, c4, c5] = pure (.nx [a, .dat (pw o0 r), b, o', .dat (.int z), x', c1, c2, c3, c4, c5])
  | 0, m, o, x, _, _ => ⟨_, _, rfl⟩
  | k + 1, m, o, x, h0, hl => by
    have hg := lgrown_eq o r h.rt (by omega)
    have lg := Lg_gr h.rt h0
    have ge := gr_ge h.rt h0
    obtain ⟨o', x', e⟩ := od_loop2 h (a := a) (b := b) (c1 := c1) (c2 := c2) (c3 := c3) (c4 := c4) (c5 := c5) (z := z) k (m + 1) (gr o r) (.dat (.int m)) (by omega) (by omega)
    refine ⟨o', x', ?_⟩
    rw [rng_succ]
    unfold forL
    rw [nm_bind _ _ _ (by simp), ls, pb]
    simp only [List.set_cons_succ, List.set_cons_zero]
    have e2 : odB [a, .dat (pw o0 r), b, .dat (.int o), .dat (.int z), .dat (.int m), c1, c2, c3, c4, c5] = pure (.nx [a, .dat (pw o0 r), b, .dat (.int (gr o r)), .dat (.int z), .dat (.int m), c1, c2, c3, c4, c5]) := by simp [odB, hg]
    rw [e2]
    exact e
theorem od_loop {r : Rat} {o0 : Int} (h : Pw o0 r) {a b c1 c2 c3 c4 c5 : Sl} : ∀ (k : Nat) (m o : Int) (x : Sl), 0 ≤ o → Lg o + 2 * k ≤ 90000 → ∃ o' x', forL (Pat.nm 5).bind odB (rng m k) [a, .dat (pw o0 r), b, .dat (.int o), .dat .none, x, c1, c2, c3, c4, c5] = pure (.nx [a, .dat (pw o0 r), b, o', .dat (dbl r (2 * o0) k m o), x', c1, c2, c3, c4, c5])
  | 0, m, o, x, _, _ => ⟨_, _, rfl⟩
  | k + 1, m, o, x, h0, hl => by
    have hg := lgrown_eq o r h.rt (by omega)
    have lg := Lg_gr h.rt h0
    have ge := gr_ge h.rt h0
    have m2 := mul2 (o := o0) (by have := h.lg; omega)
    rw [rng_succ]
    unfold forL dbl
    rw [nm_bind _ _ _ (by simp), ls, pb]
    simp only [List.set_cons_succ, List.set_cons_zero]
    by_cases c : 2 * o0 ≤ gr o r
    · obtain ⟨o', x', e⟩ := od_loop2 h (a := a) (b := b) (c1 := c1) (c2 := c2) (c3 := c3) (c4 := c4) (c5 := c5) (z := m) k (m + 1) (gr o r) (.dat (.int m)) (by omega) (by omega)
      have e2 : odB [a, .dat (pw o0 r), b, .dat (.int o), .dat .none, .dat (.int m), c1, c2, c3, c4, c5] = pure (.nx [a, .dat (pw o0 r), b, .dat (.int (gr o r)), .dat (.int m), .dat (.int m), c1, c2, c3, c4, c5]) := by simp [odB, hg, m2, c]
      refine ⟨o', x', ?_⟩
      rw [e2, if_pos c]
      exact e
    · obtain ⟨o', x', e⟩ := od_loop h (a := a) (b := b) (c1 := c1) (c2 := c2) (c3 := c3) (c4 := c4) (c5 := c5) k (m + 1) (gr o r) (.dat (.int m)) (by omega) (by omega)
      have e2 : odB [a, .dat (pw o0 r), b, .dat (.int o), .dat .none, .dat (.int m), c1, c2, c3, c4, c5] = pure (.nx [a, .dat (pw o0 r), b, .dat (.int (gr o r)), .dat .none, .dat (.int m), c1, c2, c3, c4, c5]) := by simp [odB, hg, m2, c]
      refine ⟨o', x', ?_⟩
      rw [e2, if_neg c]
      exact e
/-! ### rows -/
/-- what a pawn adds to the rows -/
inductive Row (r : Rat) (p o z : Int) : List D → Prop
  | no : o ≤ gr o r - p → Row r p o z []
  | yes {k : Nat} {g : Int} : Path r p o k g → Row r p o z [.tuple [.int ((k - 1) * p + g), .int k, .int z]]
theorem row_ex {r : Rat} {o p : Int} (h : Pw o r) (z : Int) : ∃ l, Row r p o z l := by
  rcases lp_cases (p := p) h with ⟨h1, _⟩ | ⟨k, g, q, _⟩
  · exact ⟨_, .no h1⟩
  · exact ⟨_, .yes q⟩
def bpB : Rho → M Ctl := (fIfS (fTest (f2 dIsNot (fCall F_whole_of (aCons (rdat 5) (aCons (rdat 2) aNil))) (fun _ => pure .none))) (fAppend 3 (fTup (dCons (fCall F_whole_of (aCons (rdat 5) (aCons (rdat 2) aNil))) (dCons (f2 dIx (fCall F_told (aCons (rdat 5) (aCons (rdat 2) aNil))) (fun _ => pure (.int 1))) (dCons (rdat 4) dNil))))) fSkip)
theorem bpB_eq {r : Rat} {o p z : Int} {l acc : List D} {a b : Sl} (h : Pw o r) (h0 : 0 ≤ p) (h2 : p ≤ 2000) (hr : Row r p o z l) (ha : acc.length ≤ 10) : bpB [a, b, .dat (.int p), .own acc, .dat (.int z), .dat (pw o r)] = pure (.nx [a, b, .dat (.int p), .own (acc ++ l), .dat (.int z), .dat (pw o r)]) := by
  cases hr with
  | no hn =>
    have e1 := whole_of_never h hn
    simp [bpB, e1]
  | yes q =>
    have e1 := whole_of_paid h h0 h2 q
    have e2 := told_paid h q
    have e3 : acc.length < 16777216 := by omega
    simp [bpB, e1, e2, fAppend, ownAt, e3]
def orB : Rho → M Ctl := (fSeq (fSet 10 (nDat (fCall F__law_paid (aCons (f2 dIx (rdat 9) (fun _ => pure (.int 0))) (aCons (f2 dIx (rdat 9) (fun _ => pure (.int 1))) (aCons (rdat 6) aNil))))))
  (fSeq (fIfS (fTest (f2 dIs (rdat 10) (fun _ => pure .none))) (fRet (fun _ => pure (.bool true))) fSkip)
  (fExtend 7 (fIf (fTest (f2 dEq (f2 dIx (rdat 10) (fun _ => pure (.int 0))) (fun _ => pure (.str "paid")))) (fList (dCons (fTup (dCons (f2 dIx (rdat 10) (fun _ => pure (.int 3))) (dCons (f2 dIx (rdat 10) (fun _ => pure (.int 1))) (dCons (rdat 8) dNil)))) dNil)) (fList dNil)))))
theorem orB_eq {r : Rat} {o p z : Int} {l acc : List D} {a b c d e f y : Sl} (h : Pw o r) (hr : Row r p o z l) (ha : acc.length ≤ 10) : ∃ y', orB [a, b, c, d, e, f, .dat (.int p), .own acc, .dat (.int z), .dat (pw o r), y] = pure (.nx [a, b, c, d, e, f, .dat (.int p), .own (acc ++ l), .dat (.int z), .dat (pw o r), y']) := by
  have ho1 := h.h1
  have ho2 := h.h2
  have e1 := paid_eq (p := p) h.rt (o := o) (by omega) (by omega)
  cases hr with
  | no hn =>
    have e2 : lp r p 4999 1 o 0 = .tuple [.str "never", .int (gr o r - p)] := by
      show lp r p (4998 + 1) 1 o 0 = _
      unfold lp
      rw [if_neg (by omega), if_pos (by omega)]
    rw [e2] at e1
    refine ⟨.dat (.tuple [.str "never", .int (gr o r - p)]), ?_⟩
    have e3 : acc.length ≤ 16777216 := by omega
    simp [orB, e1, fExtend, ownAt, e3]
  | yes q =>
    rename_i k g
    have e2 := q.lp 4999 1 0 (by have := q.le h.rt; omega)
    have ek : 1 + (k : Int) - 1 = k := by omega
    rw [ek, Int.zero_add] at e2
    rw [e2] at e1
    refine ⟨.dat (.tuple [.str "paid", .int k, .int g, .int ((k - 1) * p + g)]), ?_⟩
    simp [orB, e1, fExtend, ownAt]
    exact fun hh => by omega
/-- the best of at most two rows -/
theorem best_row {r r' : Rat} {p o o' : Int} {l l' : List D} (h : Row r p o 0 l) (h' : Row r' p o' 1 l') : l ++ l' = [] ∨ (l ++ l' ≠ [] ∧ SeqAt.shaped (.list (l ++ l')) = true ∧ ∃ d, dBestL PySem.W.minD (.list (l ++ l')) = some d ∧ ∃ z : Int, dIx d (.int 2) = some (.int z)) := by
  have two : ∀ a b c a' b' c' : Int, ∃ d, dBestL PySem.W.minD (.list [.tuple [.int a, .int b, .int c], .tuple [.int a', .int b', .int c']]) = some d ∧ ∃ z : Int, dIx d (.int 2) = some (.int z) := by
    intro a b c a' b' c'
    refine ⟨PySem.W.minD (.tuple [.int a, .int b, .int c]) [.tuple [.int a', .int b', .int c']], ?_, ?_⟩
    · unfold dBestL
      show (if _ then _ else _) = _
      rw [if_pos]
      refine ⟨by simp [alikeB, PySem.W.alike, PySem.W.alikeAll, isNone], by simp [PyData.depthAll, PyData.depth]⟩
    · unfold PySem.W.minD
      rw [List.foldl_cons, List.foldl_nil]
      split
      · exact ⟨c', by simp⟩
      · exact ⟨c, by simp⟩
  have one : ∀ a b c : Int, ∃ d, dBestL PySem.W.minD (.list [.tuple [.int a, .int b, .int c]]) = some d ∧ ∃ z : Int, dIx d (.int 2) = some (.int z) := by
    intro a b c
    refine ⟨.tuple [.int a, .int b, .int c], ?_, c, by simp⟩
    unfold dBestL
    show (if _ then _ else _) = _
    rw [if_pos]
    · rfl
    · refine ⟨by simp [alikeB, PySem.W.alike, PySem.W.alikeAll, isNone], by simp [PyData.depthAll, PyData.depth]⟩
  cases h with
  | no _ =>
    cases h' with
    | no _ => exact .inl rfl
    | yes _ => exact .inr ⟨by simp, by simp [SeqAt.shaped, PyData.canLay0, PyData.canLayAll0, PyData.depth, PyData.depthAll], one _ _ _⟩
  | yes _ =>
    cases h' with
    | no _ => exact .inr ⟨by simp, by simp [SeqAt.shaped, PyData.canLay0, PyData.canLayAll0, PyData.depth, PyData.depthAll], one _ _ _⟩
    | yes _ => exact .inr ⟨by simp, by simp [SeqAt.shaped, PyData.canLay0, PyData.canLayAll0, PyData.depth, PyData.depthAll], two _ _ _ _ _ _⟩
theorem pat2 {i j : Nat} {a b : D} {ρ : Rho} (hi : i < ρ.length) (hj : j < ρ.length) : (Pat.tp (Pats.cons (Pat.nm i) (Pats.cons (Pat.nm j) Pats.nil))).bind (.tuple [a, b]) ρ = some ((ρ.set i (.dat a)).set j (.dat b)) := by
  simp [Pat.bind, Pats.binds, hi, hj]
theorem Row.len {r : Rat} {p o z : Int} {l : List D} (h : Row r p o z l) : l.length ≤ 1 := by cases h <;> simp
theorem at2_0 (a b : D) : enumD 0 [a, b] = [.tuple [.int 0, a], .tuple [.int 1, b]] := rfl
def ans (l : List D) : D := match dBestL PySem.W.minD (.list l) with
  | some d => (dIx d (.int 2)).getD .none
  | none => .none
theorem better_eq {r r' : Rat} {p o o' : Int} {l l' : List D} (h : Pw o r) (h' : Pw o' r') (h0 : 0 ≤ p) (h2 : p ≤ 2000) (hr : Row r p o 0 l) (hr' : Row r' p o' 1 l') : F_better_pawn [.dat (pw o r), .dat (pw o' r'), .dat (.int p)] = pure (ans (l ++ l')) := by
  have e1 := check_pawn_eq h
  have e2 := check_pay_eq h' h0 h2
  have hl := hr.len
  have b1 := bpB_eq (a := .dat (pw o r)) (b := .dat (pw o' r')) (acc := []) h h0 h2 hr (by simp)
  have b2 := bpB_eq (a := .dat (pw o r)) (b := .dat (pw o' r')) (acc := l) h' h0 h2 hr' (by omega)
  rw [List.nil_append] at b1
  unfold F_better_pawn
  refine dfr ?_
  have hf : forL (Pat.tp (Pats.cons (Pat.nm 4) (Pats.cons (Pat.nm 5) Pats.nil))).bind bpB [.tuple [.int 0, pw o r], .tuple [.int 1, pw o' r']] [.dat (pw o r), .dat (pw o' r'), .dat (.int p), .own [], .un, .un] = pure (.nx [.dat (pw o r), .dat (pw o' r'), .dat (.int p), .own (l ++ l'), .dat (.int 1), .dat (pw o' r')]) := by
    unfold forL
    rw [pat2 (by simp) (by simp), ls, pb]
    simp only [List.set_cons_succ, List.set_cons_zero]
    rw [b1, pb]
    show forL _ _ _ _ = _
    unfold forL
    rw [pat2 (by simp) (by simp), ls, pb]
    simp only [List.set_cons_succ, List.set_cons_zero]
    rw [b2, pb]
    rfl
  unfold bpB at hf
  have hi : (fIt dEnumT (fTup (dCons (rdat 0) (dCons (rdat 1) dNil)))) [.dat (pw o r), .dat (pw o' r'), .dat (.int p), .own [], .un, .un] = pure [.tuple [.int 0, pw o r], .tuple [.int 1, pw o' r']] := by
    simp [fIt, dEnumT, at2_0]
  rw [sq (ρ' := [.dat (pw o r), .dat (pw o' r'), .dat (.int p), .un, .un, .un]) (by simp [e1]), sq (ρ' := [.dat (pw o r), .dat (pw o' r'), .dat (.int p), .un, .un, .un]) (by simp [e2]), sq (ρ' := [.dat (pw o r), .dat (pw o' r'), .dat (.int p), .own [], .un, .un]) (by simp), sq (for_eq hi hf)]
  rcases best_row hr hr' with hz | ⟨hne, _, d, hd, z, hz⟩
  · rw [hz]
    simp [ans, dBestL]
  · have hp : 0 < (l ++ l').length := List.length_pos_iff.mpr hne
    have hp2 : 0 < l.length + l'.length := by rw [← List.length_append]; exact hp
    have ha : ans (l ++ l') = .int z := by
      unfold ans
      rw [hd]
      show (dIx d (.int 2)).getD .none = _
      rw [hz]
      rfl
    rw [ha]
    have hpi : (0 : Int) < (l.length : Int) + (l'.length : Int) := by omega
    simp [hd, hz, hpi]
theorem others_right {n : Nat} {s : HS} {o o' : Int} {r r' : Rat} (h : Pw o r) (h' : Pw o' r') (w : Wf n s) (hn : n < 950000000) : Tr (F__law_are_others_right [.hand, .dat (pw o r), .dat (pw o' r')] s) fun d s' => Wf (n + 2) s' ∧ d = .bool true := by
  have ho1 := h.h1
  have ho2 := h.h2
  have hl := h.lg
  obtain ⟨oz, xz, eo⟩ := od_loop h (a := .hand) (b := .dat (pw o' r')) (c1 := .un) (c2 := .un) (c3 := .un) (c4 := .un) (c5 := .un) 200 1 o .un (by omega) (by omega)
  have hr1 : dRng2 (.int 1) (.int 201) = some (rng 1 200) := rng2_eq 1 201 (by decide) (by decide) (by decide) (by decide)
  have e2 := doubles_eq h
  have e3 := ne_self _ (sh_dbl r (2 * o) 200 1 o)
  have e4 := lgrown_eq o r h.rt (by omega)
  have hg1 := gr_ge h.rt (x := o) (by omega)
  have hg2 := gr_le h.rt (x := o) (by omega)
  unfold odB at eo
  unfold F__law_are_others_right
  refine defT ?_
  have hf : (fRng2 (fun _ => pure (.int 1)) (fun _ => pure (.int 201))) [.hand, .dat (pw o r), .dat (pw o' r'), .dat (.int o), .dat .none, .un, .un, .un, .un, .un, .un] = pure (rng 1 200) := by simp [fRng2, hr1]
  rw [sq (ρ' := [.hand, .dat (pw o r), .dat (pw o' r'), .dat (.int o), .dat .none, .un, .un, .un, .un, .un, .un]) (by simp), sq (for_eq hf eo),
    sq (ρ' := [.hand, .dat (pw o r), .dat (pw o' r'), oz, .dat (dbl r (2 * o) 200 1 o), xz, .un, .un, .un, .un, .un]) (by simp [e2, e3])]
  refine seqT ?_
  have e5 : (fSet 6 (nDat (fCall F__law_some (aHand 0 (aCons (fList (dCons (f2 dIx (rdat 1) (fun _ => pure (.int 0))) (dCons (fCall F__law_grown (aCons (f2 dIx (rdat 1) (fun _ => pure (.int 0))) (aCons (f2 dIx (rdat 1) (fun _ => pure (.int 1))) aNil))) (dCons (f2 dAdd (fun _ => pure (.int 1)) (fCall F__law_draw (aHand 0 (aCons (fun _ => pure (.int 600)) aNil)))) dNil)))) aNil))))) [.hand, .dat (pw o r), .dat (pw o' r'), oz, .dat (dbl r (2 * o) 200 1 o), xz, .un, .un, .un, .un, .un] =
      (F__law_draw [.hand, .dat (.int 600)] >>= fun a => O.lift (dAdd (.int 1) a) >>= fun x => F__law_some [.hand, .dat (.list [.int o, .int (gr o r), x])] >>= fun y => pure (.nx [.hand, .dat (pw o r), .dat (pw o' r'), oz, .dat (dbl r (2 * o) 200 1 o), xz, .dat y, .un, .un, .un, .un])) := by simp [e4]
  rw [e5]
  refine Tr.bind ((draw_ok w (by omega) (by omega) (by decide)).imp ?_)
  rintro a s1 ⟨w1, v, rfl, v0, v1⟩
  rw [addI, ls, pb]
  refine Tr.bind ((some_ok w1 (by omega) (by simp) (by simp)).imp ?_)
  rintro y s2 ⟨w2, hy⟩
  have hp : ∃ p : Int, y = .int p ∧ 0 ≤ p ∧ p ≤ 2000 := by
    simp only [List.mem_cons, List.not_mem_nil, or_false] at hy
    rcases hy with rfl | rfl | rfl
    · exact ⟨_, rfl, by omega, by omega⟩
    · exact ⟨_, rfl, by omega, by omega⟩
    · exact ⟨_, rfl, by omega, by omega⟩
  obtain ⟨p, rfl, p0, p1⟩ := hp
  refine ⟨_, rfl, ?_⟩
  obtain ⟨l, hr⟩ := row_ex (p := p) h 0
  obtain ⟨l', hr'⟩ := row_ex (p := p) h' 1
  have hll := hr.len
  obtain ⟨y1, b1⟩ := orB_eq (a := .hand) (b := .dat (pw o r)) (c := .dat (pw o' r')) (d := oz) (e := .dat (dbl r (2 * o) 200 1 o)) (f := xz) (y := .un) (acc := []) h hr (by simp)
  obtain ⟨y2, b2⟩ := orB_eq (a := .hand) (b := .dat (pw o r)) (c := .dat (pw o' r')) (d := oz) (e := .dat (dbl r (2 * o) 200 1 o)) (f := xz) (y := y1) (acc := l) h' hr' (by omega)
  rw [List.nil_append] at b1
  have hfo : forL (Pat.tp (Pats.cons (Pat.nm 8) (Pats.cons (Pat.nm 9) Pats.nil))).bind orB [.tuple [.int 0, pw o r], .tuple [.int 1, pw o' r']] [.hand, .dat (pw o r), .dat (pw o' r'), oz, .dat (dbl r (2 * o) 200 1 o), xz, .dat (.int p), .own [], .un, .un, .un] = pure (.nx [.hand, .dat (pw o r), .dat (pw o' r'), oz, .dat (dbl r (2 * o) 200 1 o), xz, .dat (.int p), .own (l ++ l'), .dat (.int 1), .dat (pw o' r'), y2]) := by
    unfold forL
    rw [pat2 (by simp) (by simp), ls, pb]
    simp only [List.set_cons_succ, List.set_cons_zero]
    rw [b1, pb]
    show forL _ _ _ _ = _
    unfold forL
    rw [pat2 (by simp) (by simp), ls, pb]
    simp only [List.set_cons_succ, List.set_cons_zero]
    rw [b2, pb]
    rfl
  unfold orB at hfo
  have hi : (fIt dEnumT (fTup (dCons (rdat 1) (dCons (rdat 2) dNil)))) [.hand, .dat (pw o r), .dat (pw o' r'), oz, .dat (dbl r (2 * o) 200 1 o), xz, .dat (.int p), .own [], .un, .un, .un] = pure [.tuple [.int 0, pw o r], .tuple [.int 1, pw o' r']] := by
    simp [fIt, dEnumT, at2_0]
  rw [sq (ρ' := [.hand, .dat (pw o r), .dat (pw o' r'), oz, .dat (dbl r (2 * o) 200 1 o), xz, .dat (.int p), .own [], .un, .un, .un]) (by simp), sq (for_eq hi hfo)]
  have hb := better_eq h h' p0 p1 hr hr'
  refine Tr.of (a := .rt (.bool true)) ?_ ⟨_, rfl, w2, rfl⟩
  rcases best_row hr hr' with hz | ⟨hne, hsh, d, hd, z, hz⟩
  · rw [hz] at hb ⊢
    have q1 : dNe (.list []) (.list []) = some (.bool false) := ne_self _ rfl
    have q2 : dEq .none .none = some (.bool true) := eq_self _ rfl
    simp [hb, q1, ans, dBestL, q2]
  · have ha : ans (l ++ l') = .int z := by
      unfold ans
      rw [hd]
      show (dIx d (.int 2)).getD .none = _
      rw [hz]
      rfl
    rw [ha] at hb
    have q1 : dNe (.list (l ++ l')) (.list []) = some (.bool true) := by
      unfold dNe
      rw [if_pos ⟨hsh, rfl⟩]
      cases q : l ++ l' with
      | nil => exact absurd q hne
      | cons a b => rfl
    simp [hb, q1, hd, hz]
end Jw
namespace Jw
open PySem
theorem turn_ok {n : Nat} {s : HS} (w : Wf n s) (hn : n < 900000000) {x y1 y2 y3 y4 : Sl} {f : Rho → M Ctl}
    (hf : f = (fSeq (fUnpack (Pat.tp (Pats.cons (Pat.nm 3) (Pats.cons (Pat.nm 4) Pats.nil))) (fTup (dCons (fCall F__law_pawn (aHand 1 aNil)) (dCons (fCall F__law_pawn (aHand 1 aNil)) dNil))))
  (fSeq (fSet 5 (nDat (fList (dCons (fCall F__law_grown (aCons (f2 dIx (rdat 3) (fun _ => pure (.int 0))) (aCons (f2 dIx (rdat 3) (fun _ => pure (.int 1))) aNil))) (dCons (f2 dAdd (f2 dDiv (f2 dIx (rdat 3) (fun _ => pure (.int 0))) (fun _ => pure (.int 2))) (fun _ => pure (.int 1))) (dCons (fCall F__law_draw (aHand 1 (aCons (fun _ => pure (.int 2001)) aNil))) (dCons (f2 dAdd (fun _ => pure (.int 1)) (f2 dDiv (f2 dIx (rdat 3) (fun _ => pure (.int 0))) (fun _ => pure (.int 9)))) dNil)))))))
  (fSeq (fIfS (fOrT (fNotT (fTest (f1 dAll (fList (fLc [6] (fItems (rdat 5)) ((Pat.nm 6)).bind (fun _ => pure true) (fCall F__law_is_paid_right (aHand 1 (aCons (rdat 3) (aCons (f2 dMin2 (fun _ => pure (.int 2000)) (rdat 6)) aNil))))))))) (fNotT (fTest (fCall F__law_is_worth_right (aHand 1 aNil))))) (fRet (fun _ => pure (.bool false))) fSkip)
  (fIfS (fOrT (fNotT (fTest (fCall F__law_is_least_right (aHand 1 (aCons (rdat 3) aNil))))) (fNotT (fTest (fCall F__law_are_others_right (aHand 1 (aCons (rdat 3) (aCons (rdat 4) aNil))))))) (fRet (fun _ => pure (.bool false))) fSkip))))) :
    Tr (f [.un, .hand, x, y1, y2, y3, y4] s) fun c s' => ∃ ρ', c = .nx ρ' ∧ (∃ x y1 y2 y3 y4, ρ' = [.un, .hand, x, y1, y2, y3, y4]) ∧ Wf (n + 100) s' := by
  subst hf
  refine seqT ?_
  have e1 : (fUnpack (Pat.tp (Pats.cons (Pat.nm 3) (Pats.cons (Pat.nm 4) Pats.nil))) (fTup (dCons (fCall F__law_pawn (aHand 1 aNil)) (dCons (fCall F__law_pawn (aHand 1 aNil)) dNil)))) [.un, .hand, x, y1, y2, y3, y4] =
      (F__law_pawn [.hand] >>= fun a => F__law_pawn [.hand] >>= fun b => pure (.nx [.un, .hand, x, .dat a, .dat b, y3, y4])) := by simp [pat2]
  rw [e1]
  refine Tr.bind ((pawn_ok w (by omega)).imp ?_)
  rintro _ s1 ⟨w1, o, r, rfl, h⟩
  refine Tr.bind ((pawn_ok w1 (by omega)).imp ?_)
  rintro _ s2 ⟨w2, o', r', rfl, h'⟩
  refine ⟨_, rfl, seqT ?_⟩
  have ho1 := h.h1
  have ho2 := h.h2
  have hl := h.lg
  have e2 := lgrown_eq o r h.rt (by omega)
  have hg1 := gr_ge h.rt (x := o) (by omega)
  have d2 : dDiv (.int o) (.int 2) = some (.int (o / 2)) := divI (by omega) (by decide)
  have d9 : dDiv (.int o) (.int 9) = some (.int (o / 9)) := divI (by omega) (by decide)
  have e3 : (fSet 5 (nDat (fList (dCons (fCall F__law_grown (aCons (f2 dIx (rdat 3) (fun _ => pure (.int 0))) (aCons (f2 dIx (rdat 3) (fun _ => pure (.int 1))) aNil))) (dCons (f2 dAdd (f2 dDiv (f2 dIx (rdat 3) (fun _ => pure (.int 0))) (fun _ => pure (.int 2))) (fun _ => pure (.int 1))) (dCons (fCall F__law_draw (aHand 1 (aCons (fun _ => pure (.int 2001)) aNil))) (dCons (f2 dAdd (fun _ => pure (.int 1)) (f2 dDiv (f2 dIx (rdat 3) (fun _ => pure (.int 0))) (fun _ => pure (.int 9)))) dNil))))))) [.un, .hand, x, .dat (pw o r), .dat (pw o' r'), y3, y4] =
      (F__law_draw [.hand, .dat (.int 2001)] >>= fun a => pure (.nx [.un, .hand, x, .dat (pw o r), .dat (pw o' r'), .dat (.list [.int (gr o r), .int (o / 2 + 1), a, .int (1 + o / 9)]), y4])) := by simp [e2, d2, d9]
  rw [e3]
  refine Tr.bind ((draw_ok w2 (by omega) (by omega) (by decide)).imp ?_)
  rintro _ s3 ⟨w3, v, rfl, v0, v1⟩
  refine ⟨_, rfl, ?_⟩
  have hall : (f1 dAll (fList (fLc [6] (fItems (rdat 5)) ((Pat.nm 6)).bind (fun _ => pure true) (fCall F__law_is_paid_right (aHand 1 (aCons (rdat 3) (aCons (f2 dMin2 (fun _ => pure (.int 2000)) (rdat 6)) aNil))))))) [.un, .hand, x, .dat (pw o r), .dat (pw o' r'), .dat (.list [.int (gr o r), .int (o / 2 + 1), .int v, .int (1 + o / 9)]), y4] = pure (.bool true) := by
    have hc : lcL (Pat.nm 6).bind (fun _ => pure true) (fCall F__law_is_paid_right (aHand 1 (aCons (rdat 3) (aCons (f2 dMin2 (fun _ => pure (.int 2000)) (rdat 6)) aNil)))) (wipeR [.un, .hand, x, .dat (pw o r), .dat (pw o' r'), .dat (.list [.int (gr o r), .int (o / 2 + 1), .int v, .int (1 + o / 9)]), y4] [6]) [.int (gr o r), .int (o / 2 + 1), .int v, .int (1 + o / 9)] = pure ([PyData.int (gr o r), PyData.int (o / 2 + 1), PyData.int v, PyData.int (1 + o / 9)].map fun _ => PyData.bool true) := by
      refine lc_all _ fun z hz => ?_
      have hi : ∃ i : Int, z = .int i ∧ 0 ≤ i := by
        simp only [List.mem_cons, List.not_mem_nil, or_false] at hz
        rcases hz with rfl | rfl | rfl | rfl
        · exact ⟨_, rfl, by omega⟩
        · exact ⟨_, rfl, by omega⟩
        · exact ⟨_, rfl, by omega⟩
        · exact ⟨_, rfl, by omega⟩
      obtain ⟨i, rfl, hi⟩ := hi
      refine ⟨_, nm_bind _ _ _ (by simp [wipeR]), ?_⟩
      have hp := paid_right (p := if i < 2000 then i else 2000) h (by split <;> omega) (by split <;> omega)
      simp [wipeR, hp]
    have hl : fLc [6] (fItems (rdat 5)) ((Pat.nm 6)).bind (fun _ => pure true) (fCall F__law_is_paid_right (aHand 1 (aCons (rdat 3) (aCons (f2 dMin2 (fun _ => pure (.int 2000)) (rdat 6)) aNil)))) [.un, .hand, x, .dat (pw o r), .dat (pw o' r'), .dat (.list [.int (gr o r), .int (o / 2 + 1), .int v, .int (1 + o / 9)]), y4] = pure ([PyData.int (gr o r), PyData.int (o / 2 + 1), PyData.int v, PyData.int (1 + o / 9)].map fun _ => PyData.bool true) := by
      rw [← hc]
      rfl
    unfold f1 fList
    rw [hl, pb, pb, all_true _ (fun d hd => by
      obtain ⟨_, _, e⟩ := List.mem_map.mp hd
      exact e.symm)]
    rfl
  refine seqT ?_
  have e4 : (fIfS (fOrT (fNotT (fTest (f1 dAll (fList (fLc [6] (fItems (rdat 5)) ((Pat.nm 6)).bind (fun _ => pure true) (fCall F__law_is_paid_right (aHand 1 (aCons (rdat 3) (aCons (f2 dMin2 (fun _ => pure (.int 2000)) (rdat 6)) aNil))))))))) (fNotT (fTest (fCall F__law_is_worth_right (aHand 1 aNil))))) (fRet (fun _ => pure (.bool false))) fSkip) [.un, .hand, x, .dat (pw o r), .dat (pw o' r'), .dat (.list [.int (gr o r), .int (o / 2 + 1), .int v, .int (1 + o / 9)]), y4] =
      (F__law_is_worth_right [.hand] >>= fun a => O.lift (dBool a) >>= fun b => if (!b) = true then pure (.rt (.bool false)) else pure (.nx [.un, .hand, x, .dat (pw o r), .dat (pw o' r'), .dat (.list [.int (gr o r), .int (o / 2 + 1), .int v, .int (1 + o / 9)]), y4])) := by
    unfold fIfS fOrT fNotT fTest
    rw [hall]
    simp
  rw [e4]
  refine Tr.bind ((worth_right w3 (by omega)).imp ?_)
  rintro _ s4 ⟨w4, rfl⟩
  refine ⟨_, rfl, ?_⟩
  have e5 : ∀ ys : Sl, (fIfS (fOrT (fNotT (fTest (fCall F__law_is_least_right (aHand 1 (aCons (rdat 3) aNil))))) (fNotT (fTest (fCall F__law_are_others_right (aHand 1 (aCons (rdat 3) (aCons (rdat 4) aNil))))))) (fRet (fun _ => pure (.bool false))) fSkip) [.un, .hand, x, .dat (pw o r), .dat (pw o' r'), ys, y4] =
      (F__law_is_least_right [.hand, .dat (pw o r)] >>= fun a => O.lift (dBool a) >>= fun b => (if (!b) = true then pure true else (F__law_are_others_right [.hand, .dat (pw o r), .dat (pw o' r')] >>= fun c => O.lift (dBool c) >>= fun d => pure (!d))) >>= fun e => if e = true then pure (.rt (.bool false)) else pure (.nx [.un, .hand, x, .dat (pw o r), .dat (pw o' r'), ys, y4])) := by
    intro ys
    unfold fIfS fOrT fNotT fTest
    simp
  rw [e5]
  refine Tr.bind ((least_right h w4 (by omega)).imp ?_)
  rintro _ s5 ⟨w5, rfl⟩
  rw [boolB, ls, pb, if_neg (by simp), bb]
  refine Tr.bind ((others_right h h' w5 (by omega)).imp ?_)
  rintro _ s6 ⟨w6, rfl⟩
  exact ⟨_, rfl, ⟨_, _, _, _, _, rfl⟩, w6.mono (by omega)⟩
theorem Lg_bits (x : Int) : Lg x ≤ Builtin.Int.intBits x := by
  unfold Lg Builtin.Int.intBits
  split
  · rename_i h
    simp at h
    rw [h]
    decide
  · omega
theorem law_true (ns : List Int) (hl : ns.length ≤ 63) (hb : ∀ z ∈ ns, Builtin.Int.intBits z ≤ 1048576) : Post (fDef 5 B_law [.un, .hand] ⟨ns.map absI, 0, 0, 22697 + 7 * (ns.length : Int), 0⟩) (fun d _ => d = .bool true) (fun _ _ => False) := by
  have w : Wf 0 ⟨ns.map absI, 0, 0, 22697 + 7 * (ns.length : Int), 0⟩ := by
    refine ⟨fun c hc => ?_, by show (0 : Int) ≤ 0; omega, ⟨by show (0 : Int) ≤ 0; omega, by show Lg 0 ≤ _; decide⟩, ⟨by show (0 : Int) ≤ 22697 + 7 * (ns.length : Int); omega, by show 22697 + 7 * (ns.length : Int) < 2147483629; omega⟩, by show (0 : Int) ≤ 0; omega, by show (0 : Int) ≤ ((0 : Nat) : Int); omega⟩
    obtain ⟨z, hz, rfl⟩ := List.mem_map.mp hc
    have h1 := hb z hz
    have h2 := Lg_bits z
    have h3 : Lg (absI z) = Lg z := by
      unfold absI
      split
      · exact Lg_neg z
      · rfl
    refine ⟨?_, by omega⟩
    unfold absI
    split <;> omega
  show Tr _ _
  refine defT ?_
  unfold B_law
  refine seqT ?_
  unfold fFor
  have hr : dRng1 (.int 4) = some (rng 0 4) := rng1_eq 4 (by decide) (by decide)
  have hf : (fRng1 (fun _ => pure (.int 4))) ([.un, .hand] ++ List.replicate 5 .un) = pure (rng 0 4) := by simp [fRng1, hr]
  rw [hf, pb]
  refine Tr.imp (for_wf (bp := (Pat.nm 2).bind) (I := fun ρ => ∃ x y1 y2 y3 y4, ρ = [.un, .hand, x, y1, y2, y3, y4]) 100 (rng 0 4) ?_ 0 ([.un, .hand] ++ List.replicate 5 .un) _ w (by rw [rng_len]; omega) ⟨_, _, _, _, _, rfl⟩) fun c s' ⟨ρ', e, hI, w'⟩ => ⟨ρ', e, _, rfl, rfl⟩
  · rintro x _ i ρ s wi hi ⟨a, y1, y2, y3, y4, rfl⟩
    refine ⟨_, nm_bind _ _ _ (by simp), ?_⟩
    simp only [List.set_cons_succ, List.set_cons_zero]
    refine (turn_ok wi (by omega) rfl).imp fun c s' ⟨ρ', e, h1, h2⟩ => ⟨ρ', e, h1, h2⟩
end Jw
namespace Jw
open PySem PySem.Spec PyProof.Rows L2
theorem const_mk {K : PySem.W.Frag} {mg : Str → Option Value} {h : Heap} {x : Str} {v : Value} {i : Int} (Y : K.In h) (G : h.Ns mainGlobals mg) (a : PySem.W.nsIn K mainGlobals x = some (some v)) (e : ∃ u, v = .int i u) : ∃ u, mg x = some (.int i u) := by
  obtain ⟨u, rfl⟩ := e
  exact ⟨u, PySem.W.mg_of Y G a⟩
theorem walk_all {l : PySem.W.OpenLaw} {q : Program} {loose : List Str} {XP : (Str → Option Value) → Heap → Prop} {YP : World → Heap → Prop} {d : DefRec} {K : Params → PySem.W.Frag} (hn : l.most = some 63) (hdf : d.params.defaults = []) (hd : d.name = "law")
    (hY : ∀ (w : World) (h : Heap), YP w h → (K w.params).In h) (F : ∀ (w : World) (mg : Str → Option Value) (h : Heap), (K w.params).In h → h.Ns mainGlobals mg → Tx (K w.params) mg) :
    PySem.W.WalkO q loose XP YP l.row.toRowW d [] (fun f vs => PySem.call f vs) := by
  refine L2.walk_ofB (n := 63) (k := 9) (x := "script") (CX := fun _ => L2.CX0) (sp := fun w => spLaw (K w.params) 22697 5 B_law) hn (by decide) hdf ⟨rfl, by decide, by decide⟩ hY (fun w mg fa h KX G hmg => ?_) (fun w H a ns hl hb _ hS => ⟨a, ns, rfl, hS, hl, law_true ns hl hb, fun _ => rfl⟩) fun _ _ _ _ _ z => z
  have Y := F w mg h KX G
  rw [hd] at hmg
  obtain ⟨f, fd, Fu, hm⟩ := Y.d_law.ex
  rw [hm] at hmg
  cases hmg
  refine ⟨fd, fun s u => ?_, fun base _ _ => c_law Y Fu⟩
  obtain ⟨oc, od, kV, doc, pm, an, cdv, ct, osl, rfl, _, _⟩ := Fu.ex
  exact .of_eq rfl
end Jw
open PySem PySem.W PyProof.Rows
theorem PySem.Challenge.cw_fewjewels_k69_whole_pawns_paid_and_worth_holds : PySem.Challenge.rw_fewjewels_k69_whole_pawns_paid_and_worth.Holds := by
  w_on; o_law; k_head; (case hw => w_witness2)
  k_fill
  refine Jw.walk_all (l := PySem.Challenge.rw_fewjewels_k69_whole_pawns_paid_and_worth) rfl rfl rfl (fun w h Y => PySem.W.kIn_of Y) ?F
  case F =>
    intro w mg h KX G
    refine' ⟨Jw.df_mk KX G ?a0 ?l0 ?c0 ?k0, Jw.df_mk KX G ?a1 ?l1 ?c1 ?k1, Jw.df_mk KX G ?a2 ?l2 ?c2 ?k2, Jw.df_mk KX G ?a3 ?l3 ?c3 ?k3, Jw.df_mk KX G ?a4 ?l4 ?c4 ?k4, Jw.df_mk KX G ?a5 ?l5 ?c5 ?k5, Jw.df_mk KX G ?a6 ?l6 ?c6 ?k6, Jw.df_mk KX G ?a7 ?l7 ?c7 ?k7, Jw.df_mk KX G ?a8 ?l8 ?c8 ?k8, Jw.df_mk KX G ?a9 ?l9 ?c9 ?k9, Jw.df_mk KX G ?a10 ?l10 ?c10 ?k10, Jw.df_mk KX G ?a11 ?l11 ?c11 ?k11, Jw.df_mk KX G ?a12 ?l12 ?c12 ?k12, Jw.df_mk KX G ?a13 ?l13 ?c13 ?k13, Jw.df_mk KX G ?a14 ?l14 ?c14 ?k14, Jw.df_mk KX G ?a15 ?l15 ?c15 ?k15, Jw.df_mk KX G ?a16 ?l16 ?c16 ?k16, Jw.df_mk KX G ?a17 ?l17 ?c17 ?k17, Jw.df_mk KX G ?a18 ?l18 ?c18 ?k18, Jw.df_mk KX G ?a19 ?l19 ?c19 ?k19, Jw.df_mk KX G ?a20 ?l20 ?c20 ?k20, Jw.df_mk KX G ?a21 ?l21 ?c21 ?k21, Jw.df_mk KX G ?a22 ?l22 ?c22 ?k22, Jw.df_mk KX G ?a23 ?l23 ?c23 ?k23, Jw.df_mk KX G ?a24 ?l24 ?c24 ?k24, Jw.df_mk KX G ?a25 ?l25 ?c25 ?k25, Jw.df_mk KX G ?a26 ?l26 ?c26 ?k26, Jw.df_mk KX G ?a27 ?l27 ?c27 ?k27, Jw.df_mk KX G ?a28 ?l28 ?c28 ?k28, Jw.df_mk KX G ?a29 ?l29 ?c29 ?k29, Jw.df_mk KX G ?a30 ?l30 ?c30 ?k30, Jw.df_mk KX G ?a31 ?l31 ?c31 ?k31, Jw.df_mk KX G ?a32 ?l32 ?c32 ?k32, Jw.df_mk KX G ?a33 ?l33 ?c33 ?k33, Jw.df_mk KX G ?a34 ?l34 ?c34 ?k34, Jw.df_mk KX G ?a35 ?l35 ?c35 ?k35, Jw.df_mk KX G ?a36 ?l36 ?c36 ?k36, Jw.df_mk KX G ?a37 ?l37 ?c37 ?k37, Jw.df_mk KX G ?a38 ?l38 ?c38 ?k38, PySem.W.mg_none_of KX G ?z39, PySem.W.mg_none_of KX G ?z40, PySem.W.mg_none_of KX G ?z41, PySem.W.mg_none_of KX G ?z42, PySem.W.mg_none_of KX G ?z43, PySem.W.mg_none_of KX G ?z44, PySem.W.mg_none_of KX G ?z45, PySem.W.mg_none_of KX G ?z46, PySem.W.mg_none_of KX G ?z47, PySem.W.mg_none_of KX G ?z48, PySem.W.mg_none_of KX G ?z49, PySem.W.mg_none_of KX G ?z50, Jw.const_mk KX G ?m51 ?e51, Jw.const_mk KX G ?m52 ?e52, Jw.const_mk KX G ?m53 ?e53, Jw.const_mk KX G ?m54 ?e54, Jw.const_mk KX G ?m55 ?e55⟩
    (case a0 => k_is); (case l0 => k_is); (case c0 => k_is); (case k0 => k_is)
    (case a1 => k_is); (case l1 => k_is); (case c1 => k_is); (case k1 => k_is)
    (case a2 => k_is); (case l2 => k_is); (case c2 => k_is); (case k2 => k_is)
    (case a3 => k_is); (case l3 => k_is); (case c3 => k_is); (case k3 => k_is)
    (case a4 => k_is); (case l4 => k_is); (case c4 => k_is); (case k4 => k_is)
    (case a5 => k_is); (case l5 => k_is); (case c5 => k_is); (case k5 => k_is)
    (case a6 => k_is); (case l6 => k_is); (case c6 => k_is); (case k6 => k_is)
    (case a7 => k_is); (case l7 => k_is); (case c7 => k_is); (case k7 => k_is)
    (case a8 => k_is); (case l8 => k_is); (case c8 => k_is); (case k8 => k_is)
    (case a9 => k_is); (case l9 => k_is); (case c9 => k_is); (case k9 => k_is)
    (case a10 => k_is); (case l10 => k_is); (case c10 => k_is); (case k10 => k_is)
    (case a11 => k_is); (case l11 => k_is); (case c11 => k_is); (case k11 => k_is)
    (case a12 => k_is); (case l12 => k_is); (case c12 => k_is); (case k12 => k_is)
    (case a13 => k_is); (case l13 => k_is); (case c13 => k_is); (case k13 => k_is)
    (case a14 => k_is); (case l14 => k_is); (case c14 => k_is); (case k14 => k_is)
    (case a15 => k_is); (case l15 => k_is); (case c15 => k_is); (case k15 => k_is)
    (case a16 => k_is); (case l16 => k_is); (case c16 => k_is); (case k16 => k_is)
    (case a17 => k_is); (case l17 => k_is); (case c17 => k_is); (case k17 => k_is)
    (case a18 => k_is); (case l18 => k_is); (case c18 => k_is); (case k18 => k_is)
    (case a19 => k_is); (case l19 => k_is); (case c19 => k_is); (case k19 => k_is)
    (case a20 => k_is); (case l20 => k_is); (case c20 => k_is); (case k20 => k_is)
    (case a21 => k_is); (case l21 => k_is); (case c21 => k_is); (case k21 => k_is)
    (case a22 => k_is); (case l22 => k_is); (case c22 => k_is); (case k22 => k_is)
    (case a23 => k_is); (case l23 => k_is); (case c23 => k_is); (case k23 => k_is)
    (case a24 => k_is); (case l24 => k_is); (case c24 => k_is); (case k24 => k_is)
    (case a25 => k_is); (case l25 => k_is); (case c25 => k_is); (case k25 => k_is)
    (case a26 => k_is); (case l26 => k_is); (case c26 => k_is); (case k26 => k_is)
    (case a27 => k_is); (case l27 => k_is); (case c27 => k_is); (case k27 => k_is)
    (case a28 => k_is); (case l28 => k_is); (case c28 => k_is); (case k28 => k_is)
    (case a29 => k_is); (case l29 => k_is); (case c29 => k_is); (case k29 => k_is)
    (case a30 => k_is); (case l30 => k_is); (case c30 => k_is); (case k30 => k_is)
    (case a31 => k_is); (case l31 => k_is); (case c31 => k_is); (case k31 => k_is)
    (case a32 => k_is); (case l32 => k_is); (case c32 => k_is); (case k32 => k_is)
    (case a33 => k_is); (case l33 => k_is); (case c33 => k_is); (case k33 => k_is)
    (case a34 => k_is); (case l34 => k_is); (case c34 => k_is); (case k34 => k_is)
    (case a35 => k_is); (case l35 => k_is); (case c35 => k_is); (case k35 => k_is)
    (case a36 => k_is); (case l36 => k_is); (case c36 => k_is); (case k36 => k_is)
    (case a37 => k_is); (case l37 => k_is); (case c37 => k_is); (case k37 => k_is)
    (case a38 => k_is); (case l38 => k_is); (case c38 => k_is); (case k38 => k_is)
    (case z39 => k_is)
    (case z40 => k_is)
    (case z41 => k_is)
    (case z42 => k_is)
    (case z43 => k_is)
    (case z44 => k_is)
    (case z45 => k_is)
    (case z46 => k_is)
    (case z47 => k_is)
    (case z48 => k_is)
    (case z49 => k_is)
    (case z50 => k_is)
    (case m51 => k_is); (case e51 => exact ⟨_, rfl⟩)
    (case m52 => k_is); (case e52 => exact ⟨_, rfl⟩)
    (case m53 => k_is); (case e53 => exact ⟨_, rfl⟩)
    (case m54 => k_is); (case e54 => exact ⟨_, rfl⟩)
    (case m55 => k_is); (case e55 => exact ⟨_, rfl⟩)
