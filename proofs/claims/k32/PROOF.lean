import PyProof.Rows.All
import Wide.All
import OpenK.AllK
import Wide.FinOn
import HandS.Codes
import HandS.Conv
import HandS.Deep
import HandS.Dict
import HandS.EndBits
import HandS.EndTab
import HandS.ExcInit
import HandS.ExcOwn
import HandS.ForMost
import HandS.IsInst
import HandS.Lambda
import HandS.SetIn
import HandS.Style
import HandS.TryMany
import HandS.TupAny
import HandS.TupMul
import HandS.Wide
import HandS.WideBits
import HandS.Words
import HandS.WordsExc
import HandS.Zip
import KE.DataMinMax
import KE.DatumIndex
import KE.DatumMoreOrd
import KE.GoesEnum
import KE.GoesMore
import KE.KExcIs
import KE.KExcSuper
import KE.KNestM
import KE.KTupSum
import KE.SortData
import PyProof.SeqIndex
import PySem.Challenge.RW_fewjewels_k32_whole_weaves_alike_and_the
set_option Elab.async false
set_option linter.all false
set_option maxRecDepth 100000
set_option maxHeartbeats 0
/-! The layer of this claim: what an expression, a statement, a def is worth, as a Lean function over data. -/
namespace Jw
open PySem PySem.Spec PyProof.Rows L2
abbrev D := PyData
/-- what the drawing object holds: cells, the next one's place, what is left of a great one, the mix, how many were mixed -/
structure HS where
  cells : List Int
  nxt : Int
  rest : Int
  mix : Int
  cnt : Int
/-- what a name of a def holds: nothing, data, a list of the def's own (which it may change), the drawing object -/
inductive Sl where
  | un
  | dat (d : D)
  | own (xs : List D)
  | hand
abbrev Rho := List Sl
inductive Res (α : Type) where
  | ok (a : α) (s : HS)
  | exc (c : String) (s : HS)
  | bad
def M (α : Type) := HS → Res α
def M.ret {α : Type} (a : α) : M α := fun s => .ok a s
def Res.bind {α β : Type} (r : Res α) (f : α → HS → Res β) : Res β := match r with
  | .ok a s => f a s
  | .exc c s => .exc c s
  | .bad => .bad
def M.bind {α β : Type} (m : M α) (f : α → M β) : M β := fun s => (m s).bind f
instance : Monad M where
  pure := M.ret
  bind := M.bind
def M.bad {α : Type} : M α := fun _ => .bad
def M.raise {α : Type} (c : String) : M α := fun s => .exc c s
/-- what is wanted of an outcome -/
def Post {α : Type} (r : Res α) (P : α → HS → Prop) (W : String → HS → Prop) : Prop := match r with
  | .ok a s => P a s
  | .exc c s => W c s
  | .bad => False
theorem Post.imp {α : Type} {r : Res α} {P P' : α → HS → Prop} {W W' : String → HS → Prop} (h : Post r P W) (hp : ∀ a s, P a s → P' a s) (hw : ∀ c s, W c s → W' c s) : Post r P' W' := by
  cases r with
  | ok a s => exact hp a s h
  | exc c s => exact hw c s h
  | bad => exact h
theorem Post.mono {α : Type} {r : Res α} {P P' : α → HS → Prop} {W : String → HS → Prop} (h : Post r P W) (hp : ∀ a s, P a s → P' a s) : Post r P' W := h.imp hp fun _ _ x => x
theorem Post.bind {α β : Type} {m : M α} {f : α → M β} {s : HS} {P : β → HS → Prop} {W : String → HS → Prop} (h : Post ((m >>= f) s) P W) : Post (m s) (fun a s' => Post (f a s') P W) W := by
  have e : (m >>= f) s = (m s).bind f := rfl
  rw [e] at h
  cases q : m s with
  | ok a s' =>
    rw [q] at h
    exact h
  | exc c s' =>
    rw [q] at h
    exact h
  | bad =>
    rw [q] at h
    exact h
theorem Post.bad {α : Type} {s : HS} {P : α → HS → Prop} {W : String → HS → Prop} (h : Post ((M.bad : M α) s) P W) : False := h
theorem Post.ret {α : Type} {a : α} {s : HS} {P : α → HS → Prop} {W : String → HS → Prop} (h : Post ((pure a : M α) s) P W) : P a s := h

/-! ### heaps -/
theorem Sq.up {K : PySem.W.Frag} {H H' : Hp} (e : ∀ a o, H a = some o → H' a = some o) {a : Addr} {xs : List V} (h : SqL K H a xs) : SqL K H' a xs := by
  rcases h with (h | ⟨o, h⟩) | h
  · exact .inl (.inl (e _ _ h))
  · exact .inl (.inr ⟨o, e _ _ h⟩)
  · exact .inr h
theorem St.up {K : PySem.W.Frag} {H H' : Hp} (e : ∀ a o, H a = some o → H' a = some o) {a : Addr} {xs : List V} (h : SqT K H a xs) : SqT K H' a xs := by
  rcases h with (h | ⟨o, h⟩) | h
  · exact .inl (.inl (e _ _ h))
  · exact .inl (.inr ⟨o, e _ _ h⟩)
  · exact .inr h
mutual
/-- a value stands for data -/
inductive Rp (K : PySem.W.Frag) (H : Hp) : V → D → Prop
  | non : Rp K H .non .none
  | bl (b : Bool) : Rp K H (.bl b) (.bool b)
  | int (i : Int) : Rp K H (.int i) (.int i)
  | str (x : Str) : Rp K H (.str x) (.str x)
  | lst {a : Addr} {xs : List V} {ds : List D} : H a = some (.lst xs) → RpAll K H xs ds → Rp K H (.ref a) (.list ds)
  | tup {a : Addr} {xs : List V} {ds : List D} : SqT K H a xs → RpAll K H xs ds → Rp K H (.ref a) (.tuple ds)
  | dct {a : Addr} {kvs : List (Key × V)} : H a = some (.dK kvs) → Rp K H (.ref a) (.dict [])
inductive RpAll (K : PySem.W.Frag) (H : Hp) : List V → List D → Prop
  | nil : RpAll K H [] []
  | cons {v : V} {vs : List V} {d : D} {ds : List D} : Rp K H v d → RpAll K H vs ds → RpAll K H (v :: vs) (d :: ds)
end
mutual
theorem Rp.up {K : PySem.W.Frag} {H H' : Hp} (e : ∀ a o, H a = some o → H' a = some o) : ∀ {v : V} {d : D}, Rp K H v d → Rp K H' v d
  | _, _, .non => .non
  | _, _, .bl b => .bl b
  | _, _, .int i => .int i
  | _, _, .str x => .str x
  | _, _, .lst h a => .lst (e _ _ h) (RpAll.up e a)
  | _, _, .tup h a => .tup (St.up e h) (RpAll.up e a)
  | _, _, .dct h => .dct (e _ _ h)
theorem RpAll.up {K : PySem.W.Frag} {H H' : Hp} (e : ∀ a o, H a = some o → H' a = some o) : ∀ {vs : List V} {ds : List D}, RpAll K H vs ds → RpAll K H' vs ds
  | _, _, .nil => .nil
  | _, _, .cons h a => .cons (Rp.up e h) (RpAll.up e a)
end
mutual
/-- no dict in it -/
def nd : D → Bool
  | .dict _ => false
  | .list xs => ndAll xs
  | .tuple xs => ndAll xs
  | _ => true
def ndAll : List D → Bool
  | [] => true
  | x :: xs => nd x && ndAll xs
end
mutual
theorem nd_lay : ∀ (d : D), d.canLay0 = true → nd d = true
  | .none, _ => rfl
  | .bool _, _ => rfl
  | .int _, _ => rfl
  | .str _, _ => rfl
  | .list xs, h => ndAll_lay xs h
  | .tuple xs, h => ndAll_lay xs h
  | .dict _, h => by cases h
theorem ndAll_lay : ∀ (ds : List D), PyData.canLayAll0 ds = true → ndAll ds = true
  | [], _ => rfl
  | x :: xs, h => by
    unfold PyData.canLayAll0 at h
    rw [Bool.and_eq_true] at h
    unfold ndAll
    rw [nd_lay x h.1, ndAll_lay xs h.2]
    rfl
end
mutual
theorem nd_alike : ∀ (d : D), PySem.W.alike d d = true → nd d = true
  | .none, _ => rfl
  | .bool _, _ => rfl
  | .int _, _ => rfl
  | .str _, _ => rfl
  | .list xs, h => ndAll_alike xs (by unfold PySem.W.alike at h; exact h)
  | .tuple xs, h => ndAll_alike xs (by unfold PySem.W.alike at h; exact h)
  | .dict _, h => by unfold PySem.W.alike at h; cases h
theorem ndAll_alike : ∀ (ds : List D), PySem.W.alikeAll ds ds = true → ndAll ds = true
  | [], _ => rfl
  | x :: xs, h => by
    unfold PySem.W.alikeAll at h
    rw [Bool.and_eq_true] at h
    unfold ndAll
    rw [nd_alike x h.1, ndAll_alike xs h.2]
    rfl
end
mutual
theorem Rp.dp {K : PySem.W.Frag} {H : Hp} : ∀ {v : V} {d : D}, Rp K H v d → nd d = true → Dp K H v d
  | _, _, .non, _ => .non
  | _, _, .bl b, _ => .bl b
  | _, _, .int i, _ => .int i
  | _, _, .str x, _ => .str x
  | _, _, .lst h a, c => .lst (.inl (.inl h)) (RpAll.dp a c)
  | _, _, .tup h a, c => .tup h (RpAll.dp a c)
  | _, _, .dct _, c => by cases c
theorem RpAll.dp {K : PySem.W.Frag} {H : Hp} : ∀ {vs : List V} {ds : List D}, RpAll K H vs ds → ndAll ds = true → DpAll K H vs ds
  | _, _, .nil, _ => .nil
  | _, _, .cons h a, c => by
    unfold ndAll at c
    rw [Bool.and_eq_true] at c
    exact .cons (Rp.dp h c.1) (RpAll.dp a c.2)
end
theorem nd_shaped {d : D} (h : SeqAt.shaped d = true) : nd d = true := by
  unfold SeqAt.shaped at h
  rw [Bool.and_eq_true] at h
  exact nd_lay d h.1
theorem RpAll.len {K : PySem.W.Frag} {H : Hp} : ∀ {vs : List V} {ds : List D}, RpAll K H vs ds → vs.length = ds.length
  | _, _, .nil => rfl
  | _, _, .cons _ a => congrArg Nat.succ (RpAll.len a)
theorem RpAll.app {K : PySem.W.Frag} {H : Hp} : ∀ {vs ws : List V} {ds es : List D}, RpAll K H vs ds → RpAll K H ws es → RpAll K H (vs ++ ws) (ds ++ es)
  | _, _, _, _, .nil, b => b
  | _, _, _, _, .cons h a, b => .cons h (RpAll.app a b)
theorem RpAll.at {K : PySem.W.Frag} {H : Hp} : ∀ {vs : List V} {ds : List D} {i : Nat} {d : D}, RpAll K H vs ds → ds[i]? = some d → ∃ v, vs[i]? = some v ∧ Rp K H v d
  | _, _, 0, _, .cons h _, e => by
    cases e
    exact ⟨_, rfl, h⟩
  | _, _, i + 1, _, .cons _ a, e => by
    obtain ⟨v, h1, h2⟩ := RpAll.at (i := i) a (by simpa using e)
    exact ⟨v, by simpa using h1, h2⟩
theorem RpAll.take {K : PySem.W.Frag} {H : Hp} : ∀ {vs : List V} {ds : List D} (n : Nat), RpAll K H vs ds → RpAll K H (vs.take n) (ds.take n)
  | _, _, 0, _ => .nil
  | _, _, _ + 1, .nil => .nil
  | _, _, n + 1, .cons h a => .cons h (RpAll.take n a)
theorem RpAll.drop {K : PySem.W.Frag} {H : Hp} : ∀ {vs : List V} {ds : List D} (n : Nat), RpAll K H vs ds → RpAll K H (vs.drop n) (ds.drop n)
  | _, _, 0, h => h
  | _, _, _ + 1, .nil => .nil
  | _, _, n + 1, .cons _ a => RpAll.drop n a
theorem RpAll.ints {K : PySem.W.Frag} {H : Hp} : ∀ ns : List Int, RpAll K H (ns.map V.int) (ns.map PyData.int)
  | [] => .nil
  | n :: ns => .cons (.int n) (RpAll.ints ns)

/-- the drawing object as it stands at hp -/
def HandAt (K : PySem.W.Frag) (hp : Addr) (F H : Hp) (s : HS) : Prop :=
  ∃ c : Addr, F hp = none ∧ H hp = some (.lst [.ref c, .int s.nxt, .int s.rest, .int s.mix, .int s.cnt]) ∧ F c = some (.lst (s.cells.map V.int))
/-- what a call may change of what stands: the drawing object, the tables of code objects -/
def Loose (hp a : Addr) (u : HO) : Prop := a = hp ∨ ∃ ps, u = .tbl ps
/-- from (F, H) to (F', H'): F is what stands still in H; the rest of H but the loose things stands as it stood -/
structure Grow (K : PySem.W.Frag) (T : List (Addr × Str)) (hp : Addr) (F H F' H' : Hp) (s' : HS) : Prop where
  ff : ∀ a o, F a = some o → F' a = some o
  nw : ∀ a o, F' a = some o → F a = some o ∨ ∀ u, H a = some u → Loose hp a u
  st : ∀ a o, H a = some o → ¬ Loose hp a o → H' a = some o
  sub : ∀ a o, F' a = some o → H' a = some o
  tabs : LamX.Tabs T H'
  hand : HandAt K hp F' H' s'
  nt : ∀ a ps, F' a ≠ some (.tbl ps)
section
variable {K : PySem.W.Frag} {T : List (Addr × Str)} {hp : Addr} {F H F' H' F2 H2 : Hp} {s s' s2 : HS}
theorem HandAt.up (h : HandAt K hp F H s) (e : ∀ a o, F a = some o → F' a = some o) (n : F' hp = none) (k : H' hp = H hp) : HandAt K hp F' H' s := by
  obtain ⟨c, _, h2, h3⟩ := h
  exact ⟨c, n, k.trans h2, e _ _ h3⟩
theorem Grow.trans (a : Grow K T hp F H F' H' s') (b : Grow K T hp F' H' F2 H2 s2) : Grow K T hp F H F2 H2 s2 where
  ff := fun x o h => b.ff x o (a.ff x o h)
  nw := fun x o h => by
    rcases b.nw x o h with h1 | h1
    · exact a.nw x o h1
    · refine .inr fun u q => Classical.byContradiction fun z => z (h1 u (a.st x u q z))
  st := fun x o h n => b.st x o (a.st x o h n) n
  sub := b.sub
  tabs := b.tabs
  hand := b.hand
  nt := b.nt
/-- nothing changes -/
theorem Grow.refl (a : Grow K T hp F2 H2 F H s) : Grow K T hp F H F H s := ⟨fun _ _ h => h, fun _ _ h => .inl h, fun _ _ h _ => h, a.sub, a.tabs, a.hand, a.nt⟩
theorem not_loose_lst {p : Addr} {xs : List V} (n : p ≠ hp) : ¬ Loose hp p (.lst xs) := by
  rintro (h | ⟨_, h⟩)
  · exact n h
  · cases h
theorem Grow.noHp (a : Grow K T hp F2 H2 F H s) {p : Addr} (h : H p = none) : p ≠ hp := fun e => by
  obtain ⟨c, _, h2, _⟩ := a.hand
  rw [← e, h] at h2
  cases h2
theorem Tabs.upd {p : Addr} {o : HO} (h : H p = none) (t : LamX.Tabs T H) : LamX.Tabs T (upd H p o) := t.ext fun b u e => by
  rw [upd_ne (ne_of_none e h)]
  exact e
/-- a new object that stands still from now on -/
theorem Grow.new (a : Grow K T hp F2 H2 F H s) {p : Addr} {o : HO} (h : H p = none) (ho : ∀ ps, o ≠ .tbl ps := by intro _ z; cases z) : Grow K T hp F H (upd F p o) (upd H p o) s := by
  have hF : F p = none := by
    cases q : F p with
    | none => rfl
    | some u => rw [a.sub p u q] at h; cases h
  have np := a.noHp h
  refine ⟨fun x u e => ?_, fun x u e => ?_, fun x u e _ => ?_, fun x u e => ?_, Tabs.upd h a.tabs, a.hand.up (fun x u e => ?_) ?_ ?_, fun x ps e => ?_⟩
  · rw [upd_ne (ne_of_none e hF)]; exact e
  · by_cases q : x = p
    · exact .inr fun v z => by rw [q, h] at z; cases z
    · rw [upd_ne q] at e; exact .inl e
  · rw [upd_ne (ne_of_none e h)]; exact e
  · by_cases q : x = p
    · rw [q, upd_same] at e ⊢; exact e
    · rw [upd_ne q] at e ⊢; exact a.sub x u e
  · rw [upd_ne (ne_of_none e hF)]; exact e
  · obtain ⟨c, z, _⟩ := a.hand
    rw [upd_ne (Ne.symm np)]; exact z
  · rw [upd_ne (Ne.symm np)]
  · by_cases q : x = p
    · rw [q, upd_same] at e; exact ho ps (Option.some.inj e)
    · rw [upd_ne q] at e; exact a.nt x ps e
/-- a new object that is not yet still -/
theorem Grow.newOwn (a : Grow K T hp F2 H2 F H s) {p : Addr} {o : HO} (h : H p = none) : Grow K T hp F H F (upd H p o) s := by
  have np := a.noHp h
  refine ⟨fun x u e => e, fun x u e => .inl e, fun x u e _ => ?_, fun x u e => ?_, Tabs.upd h a.tabs, a.hand.up (fun x u e => e) ?_ ?_, a.nt⟩
  · rw [upd_ne (ne_of_none e h)]; exact e
  · have z := a.sub x u e
    rw [upd_ne (ne_of_none z h)]; exact z
  · obtain ⟨c, z, _⟩ := a.hand
    exact z
  · rw [upd_ne (Ne.symm np)]
end

/-! ### what the names hold -/
def SlOk (K : PySem.W.Frag) (hp : Addr) (F0 H0 F H : Hp) (v : Option (Option V)) : Sl → Prop
  | .un => True
  | .dat d => ∃ x, v = some (some x) ∧ Rp K F x d
  | .own xs => ∃ p vs, v = some (some (.ref p)) ∧ H p = some (.lst vs) ∧ RpAll K F vs xs ∧ F p = none ∧ p ≠ hp ∧ ∀ o, H0 p = some o → Loose hp p o
  | .hand => v = some (some (.ref hp))
structure Rel (K : PySem.W.Frag) (T : List (Addr × Str)) (hp : Addr) (F0 H0 F H : Hp) (σ : L2.St) (ρ : Rho) (s : HS) : Prop where
  g : Grow K T hp F0 H0 F H s
  sl : ∀ (i : Nat) (x : Sl), ρ[i]? = some x → SlOk K hp F0 H0 F H (σ[i]?) x
  ne : ∀ (i j : Nat) (xs ys : List D), ρ[i]? = some (.own xs) → ρ[j]? = some (.own ys) → i ≠ j → σ[i]? ≠ σ[j]?
  len : σ.length = ρ.length
section
variable {K : PySem.W.Frag} {T : List (Addr × Str)} {hp : Addr} {F0 H0 F H F' H' : Hp} {σ : L2.St} {ρ : Rho} {s s' : HS}
theorem Rel.grow (R : Rel K T hp F0 H0 F H σ ρ s) (a : Grow K T hp F H F' H' s') : Rel K T hp F0 H0 F' H' σ ρ s' where
  g := R.g.trans a
  sl := fun i x e => by
    have h := R.sl i x e
    cases x with
    | un => trivial
    | dat d =>
      obtain ⟨v, h1, h2⟩ := h
      exact ⟨v, h1, Rp.up a.ff h2⟩
    | own xs =>
      obtain ⟨p, vs, h1, h2, h3, h4, h5, h6⟩ := h
      refine ⟨p, vs, h1, a.st p _ h2 (not_loose_lst h5), RpAll.up a.ff h3, ?_, h5, h6⟩
      cases q : F' p with
      | none => rfl
      | some u =>
        rcases a.nw p u q with z | z
        · rw [h4] at z; cases z
        · exact absurd (z _ h2) (not_loose_lst h5)
    | hand => exact h
  ne := R.ne
  len := R.len
/-- a name is bound -/
theorem Rel.set (R : Rel K T hp F0 H0 F H σ ρ s) {i : Nat} {v : V} {x : Sl} (hi : i < ρ.length) (h : SlOk K hp F0 H0 F H (some (some v)) x)
    (hne : ∀ xs, x = .own xs → ∀ (j : Nat) ys, j ≠ i → ρ[j]? = some (.own ys) → σ[j]? ≠ some (some v)) : Rel K T hp F0 H0 F H (σ.set i (some v)) (ρ.set i x) s := by
  have hs : i < σ.length := by rw [R.len]; exact hi
  refine ⟨R.g, fun j y e => ?_, fun j k xs ys e1 e2 n => ?_, by rw [List.length_set, List.length_set, R.len]⟩
  · by_cases q : i = j
    · subst q
      rw [List.getElem?_set_self hi] at e
      rw [List.getElem?_set_self hs]
      cases e
      exact h
    · rw [List.getElem?_set_ne q] at e
      rw [List.getElem?_set_ne q]
      exact R.sl j y e
  · by_cases q1 : i = j
    · by_cases q2 : i = k
      · exact absurd (q1.symm.trans q2) n
      · subst q1
        rw [List.getElem?_set_self hi] at e1
        rw [List.getElem?_set_ne q2] at e2
        rw [List.getElem?_set_self hs, List.getElem?_set_ne q2]
        exact fun z => hne xs (Option.some.inj e1) k ys (Ne.symm n) e2 z.symm
    · by_cases q2 : i = k
      · subst q2
        rw [List.getElem?_set_self hi] at e2
        rw [List.getElem?_set_ne q1] at e1
        rw [List.getElem?_set_self hs, List.getElem?_set_ne q1]
        exact hne ys (Option.some.inj e2) j xs n e1
      · rw [List.getElem?_set_ne q1] at e1
        rw [List.getElem?_set_ne q2] at e2
        rw [List.getElem?_set_ne q1, List.getElem?_set_ne q2]
        exact R.ne j k xs ys e1 e2 n
theorem Rel.setD (R : Rel K T hp F0 H0 F H σ ρ s) {i : Nat} {v : V} {d : D} (hi : i < ρ.length) (h : Rp K F v d) : Rel K T hp F0 H0 F H (σ.set i (some v)) (ρ.set i (.dat d)) s :=
  R.set hi ⟨v, rfl, h⟩ fun xs e => by cases e
/-- an object outside of F is written: a list of the def's own -/
theorem Grow.write (a : Grow K T hp F H F' H' s') {p : Addr} {xs ys : List V} (lo : ∀ u, H p = some u → Loose hp p u) (nF : F' p = none) (nh : p ≠ hp) (at_ : H' p = some (.lst xs)) : Grow K T hp F H F' (upd H' p (.lst ys)) s' := by
  have up : ∀ x u, H' x = some u → (∀ zs, u ≠ .lst zs) → upd H' p (.lst ys) x = some u := fun x u e n => by
    rw [upd_ne (fun z => by rw [z, at_] at e; exact n xs (Option.some.inj e).symm)]
    exact e
  refine ⟨a.ff, a.nw, fun x u e l => ?_, fun x u e => ?_, fun q hq => ?_, a.hand.up (fun x u e => e) ?_ ?_, a.nt⟩
  · rw [upd_ne (fun z => l (by rw [z] at e ⊢; exact lo u e))]
    exact a.st x u e l
  · rw [upd_ne (fun z => by rw [z, nF] at e; cases e)]
    exact a.sub x u e
  · obtain ⟨ps, h1, h2, h3⟩ := a.tabs q hq
    refine ⟨ps, up _ _ h1 (fun zs e => by cases e), h2, fun po cv hc => ?_⟩
    obtain ⟨c, e1, e2⟩ := h3 po cv hc
    exact ⟨c, e1, up _ _ e2 fun zs e => by unfold LamX.CodeO at e; cases e⟩
  · obtain ⟨c, z, _⟩ := a.hand
    exact z
  · rw [upd_ne nh.symm]
end
end Jw
namespace Jw
open PySem PySem.Spec PyProof.Rows L2
/-- what is wanted of an exception at the end of the def -/
def WX (K : PySem.W.Frag) (T : List (Addr × Str)) (hp : Addr) (F0 H0 : Hp) (EX : String → Hp → Prop) (c : String) (s' : HS) : Prop := ∀ F' H', Grow K T hp F0 H0 F' H' s' → EX c H'
/-- data that stands still, or a list of the def's own, to be read -/
def Bw (K : PySem.W.Frag) (hp : Addr) (F H : Hp) (v : V) (d : D) : Prop := Rp K F v d ∨ ∃ p vs xs, v = .ref p ∧ d = .list xs ∧ H p = some (.lst vs) ∧ RpAll K F vs xs ∧ p ≠ hp
inductive BwAll (K : PySem.W.Frag) (hp : Addr) (F H : Hp) : List V → List D → Prop
  | nil : BwAll K hp F H [] []
  | cons {v : V} {vs : List V} {d : D} {ds : List D} : Bw K hp F H v d → BwAll K hp F H vs ds → BwAll K hp F H (v :: vs) (d :: ds)
/-- a new list at p, not yet still -/
structure NewL (K : PySem.W.Frag) (hp : Addr) (H F' H' : Hp) (p : Addr) (xs : List D) : Prop where
  ex : ∃ vs, H' p = some (.lst vs) ∧ RpAll K F' vs xs
  nF : F' p = none
  nh : p ≠ hp
  lo : ∀ u, H p = some u → Loose hp p u
def ArgOk (K : PySem.W.Frag) (hp : Addr) (F : Hp) (v : V) : Sl → Prop
  | .dat d => Rp K F v d
  | .hand => v = .ref hp
  | _ => False
inductive ArgsOk (K : PySem.W.Frag) (hp : Addr) (F : Hp) : List V → List Sl → Prop
  | nil : ArgsOk K hp F [] []
  | cons {v : V} {vs : List V} {a : Sl} {as : List Sl} : ArgOk K hp F v a → ArgsOk K hp F vs as → ArgsOk K hp F (v :: vs) (a :: as)
section
variable (K : PySem.W.Frag) (T : List (Addr × Str)) (EX : String → Hp → Prop)
def EvE (te : TE) (f : Rho → M D) : Prop := ∀ {hp : Addr} {F0 H0 F H : Hp} {σ : L2.St} {ρ : Rho} {s : HS} {Q : VK}, Rel K T hp F0 H0 F H σ ρ s →
  Post (f ρ s) (fun d s' => ∀ F' H' v, Grow K T hp F H F' H' s' → Rp K F' v d → Q v H') (WX K T hp F0 H0 EX) → te σ H Q
def EvB (te : TE) (f : Rho → M D) : Prop := ∀ {hp : Addr} {F0 H0 F H : Hp} {σ : L2.St} {ρ : Rho} {s : HS} {Q : VK}, Rel K T hp F0 H0 F H σ ρ s →
  Post (f ρ s) (fun d s' => ∀ F' H' v, Grow K T hp F H F' H' s' → Bw K hp F' H' v d → Q v H') (WX K T hp F0 H0 EX) → te σ H Q
def EvL (te : TE) (f : Rho → M (List D)) : Prop := ∀ {hp : Addr} {F0 H0 F H : Hp} {σ : L2.St} {ρ : Rho} {s : HS} {Q : VK}, Rel K T hp F0 H0 F H σ ρ s →
  Post (f ρ s) (fun xs s' => ∀ F' H' p, Grow K T hp F H F' H' s' → NewL K hp H F' H' p xs → Q (.ref p) H') (WX K T hp F0 H0 EX) → te σ H Q
def EvT (tt : TT) (f : Rho → M Bool) : Prop := ∀ {hp : Addr} {F0 H0 F H : Hp} {σ : L2.St} {ρ : Rho} {s : HS} {Q : Bool → Hp → Prop}, Rel K T hp F0 H0 F H σ ρ s →
  Post (f ρ s) (fun b s' => ∀ F' H', Grow K T hp F H F' H' s' → Q b H') (WX K T hp F0 H0 EX) → tt σ H Q
def EvA (ta : TA) (f : Rho → M (List Sl)) : Prop := ∀ {hp : Addr} {F0 H0 F H : Hp} {σ : L2.St} {ρ : Rho} {s : HS} {Q : List V → Hp → Prop}, Rel K T hp F0 H0 F H σ ρ s →
  Post (f ρ s) (fun as s' => ∀ F' H' vs, Grow K T hp F H F' H' s' → ArgsOk K hp F' vs as → Q vs H') (WX K T hp F0 H0 EX) → ta σ H Q
def EvC (ta : TA) (f : Rho → M (List D)) : Prop := ∀ {hp : Addr} {F0 H0 F H : Hp} {σ : L2.St} {ρ : Rho} {s : HS} {Q : List V → Hp → Prop}, Rel K T hp F0 H0 F H σ ρ s →
  Post (f ρ s) (fun ds s' => ∀ F' H' vs, Grow K T hp F H F' H' s' → BwAll K hp F' H' vs ds → Q vs H') (WX K T hp F0 H0 EX) → ta σ H Q
/-- data, each in its place (a display's) -/
def EvD (ta : TA) (f : Rho → M (List D)) : Prop := ∀ {hp : Addr} {F0 H0 F H : Hp} {σ : L2.St} {ρ : Rho} {s : HS} {Q : List V → Hp → Prop}, Rel K T hp F0 H0 F H σ ρ s →
  Post (f ρ s) (fun ds s' => ∀ F' H' vs, Grow K T hp F H F' H' s' → RpAll K F' vs ds → Q vs H') (WX K T hp F0 H0 EX) → ta σ H Q
end
def O.lift {α : Type} : Option α → M α
  | some a => pure a
  | none => M.bad
theorem Post.lift {α : Type} {o : Option α} {s : HS} {P : α → HS → Prop} {W : String → HS → Prop} (h : Post (O.lift o s) P W) : ∃ a, o = some a ∧ P a s := by
  cases o with
  | some a => exact ⟨a, rfl, h⟩
  | none => exact h.elim
section
variable {K : PySem.W.Frag} {T : List (Addr × Str)} {EX : String → Hp → Prop} {hp : Addr} {F0 H0 F H F' H' : Hp} {s s' : HS} {v w : V} {a b d : D}
theorem Bw.dp (h : Bw K hp F H v d) (e : ∀ a o, F a = some o → H a = some o) (c : nd d = true) : Dp K H v d := by
  rcases h with h | ⟨p, vs, xs, rfl, rfl, h1, h2, _⟩
  · exact (Rp.up e h).dp c
  · exact .lst (.inl (.inl h1)) ((RpAll.up e h2).dp c)
theorem Bw.grow (h : Bw K hp F H v d) (g : Grow K T hp F H F' H' s') : Bw K hp F' H' v d := by
  rcases h with h | ⟨p, vs, xs, rfl, rfl, h1, h2, h3⟩
  · exact .inl (Rp.up g.ff h)
  · exact .inr ⟨p, vs, xs, rfl, rfl, g.st p _ h1 (not_loose_lst h3), RpAll.up g.ff h2, h3⟩
theorem BwAll.grow (g : Grow K T hp F H F' H' s') : ∀ {vs : List V} {ds : List D}, BwAll K hp F H vs ds → BwAll K hp F' H' vs ds
  | _, _, .nil => .nil
  | _, _, .cons h a => .cons (h.grow g) (BwAll.grow g a)
theorem ArgOk.grow {x : Sl} (g : Grow K T hp F H F' H' s') (h : ArgOk K hp F v x) : ArgOk K hp F' v x := by
  cases x with
  | dat d => exact Rp.up (d := d) g.ff h
  | hand => exact h
  | un => exact h.elim
  | own xs => exact h.elim
theorem ArgsOk.grow (g : Grow K T hp F H F' H' s') : ∀ {vs : List V} {as : List Sl}, ArgsOk K hp F vs as → ArgsOk K hp F' vs as
  | _, _, .nil => .nil
  | _, _, .cons h a => .cons (h.grow g) (ArgsOk.grow g a)
/-- a list that is read: its items stand still -/
theorem Bw.list {xs : List D} (h : Bw K hp F H v (.list xs)) (e : ∀ a o, F a = some o → H a = some o) : ∃ p vs, v = .ref p ∧ H p = some (.lst vs) ∧ RpAll K F vs xs := by
  rcases h with h | ⟨p, vs, ys, rfl, e2, h1, h2, h3⟩
  · cases h with
    | lst h1 h2 => exact ⟨_, _, rfl, e _ _ h1, h2⟩
  · cases e2
    exact ⟨p, vs, rfl, h1, h2⟩
theorem Bw.tuple {xs : List D} (h : Bw K hp F H v (.tuple xs)) : ∃ p vs, v = .ref p ∧ SqT K F p vs ∧ RpAll K F vs xs := by
  rcases h with h | ⟨p, vs, ys, _, e2, _⟩
  · cases h with
    | tup h1 h2 => exact ⟨_, _, rfl, h1, h2⟩
  · cases e2
theorem Bw.int {i : Int} (h : Bw K hp F H v (.int i)) : v = .int i := by
  rcases h with h | ⟨p, vs, ys, _, e2, _⟩
  · cases h; rfl
  · cases e2
theorem Bw.bool {i : Bool} (h : Bw K hp F H v (.bool i)) : v = .bl i := by
  rcases h with h | ⟨p, vs, ys, _, e2, _⟩
  · cases h; rfl
  · cases e2
theorem Bw.str {x : Str} (h : Bw K hp F H v (.str x)) : v = .str x := by
  rcases h with h | ⟨p, vs, ys, _, e2, _⟩
  · cases h; rfl
  · cases e2
theorem Bw.none (h : Bw K hp F H v .none) : v = .non := by
  rcases h with h | ⟨p, vs, ys, _, e2, _⟩
  · cases h; rfl
  · cases e2

theorem EvE.toB {te : TE} {f : Rho → M D} (h : EvE K T EX te f) : EvB K T EX te f := fun R p => h R (p.mono fun d s' k F' H' v g r => k F' H' v g (.inl r))
/-- freezing a new list -/
theorem NewL.freeze {xs : List D} {p : Addr} (n : NewL K hp H F' H' p xs) (g : Grow K T hp F H F' H' s') : ∃ F2, Grow K T hp F H F2 H' s' ∧ Rp K F2 (.ref p) (.list xs) := by
  obtain ⟨vs, h1, h2⟩ := n.ex
  have up : ∀ a o, F' a = some o → upd F' p (.lst vs) a = some o := fun x u e => by
    rw [upd_ne (ne_of_none e n.nF)]; exact e
  refine ⟨upd F' p (.lst vs), ⟨fun x u e => up _ _ (g.ff x u e), fun x u e => ?_, g.st, fun x u e => ?_, g.tabs, g.hand.up up ?_ rfl, fun x ps e => ?_⟩, .lst upd_same (RpAll.up up h2)⟩
  · by_cases q : x = p
    · rw [q]; exact .inr n.lo
    · rw [upd_ne q] at e; exact g.nw x u e
  · by_cases q : x = p
    · rw [q, upd_same] at e; cases e; rw [q]; exact h1
    · rw [upd_ne q] at e; exact g.sub x u e
  · obtain ⟨c, z, _⟩ := g.hand
    rw [upd_ne n.nh.symm]; exact z
  · by_cases q : x = p
    · rw [q, upd_same] at e; cases e
    · rw [upd_ne q] at e; exact g.nt x ps e
theorem EvL.toE {te : TE} {f : Rho → M (List D)} (h : EvL K T EX te f) : EvE K T EX te (fun ρ => do let xs ← f ρ; pure (.list xs)) := fun R p =>
  h R (p.bind.mono fun xs s' k F' H' p g n => by
    obtain ⟨F2, g2, r⟩ := n.freeze g
    exact k F2 H' _ g2 r)
theorem EvL.toB {te : TE} {f : Rho → M (List D)} (h : EvL K T EX te f) : EvB K T EX te (fun ρ => do let xs ← f ρ; pure (.list xs)) := fun R p =>
  h R (p.bind.mono fun xs s' k F' H' p g n => by
    obtain ⟨vs, h1, h2⟩ := n.ex
    exact k F' H' _ g (.inr ⟨p, vs, xs, rfl, rfl, h1, h2, n.nh⟩))
/-- a new list where H had nothing -/
theorem NewL.of (G : Grow K T hp F0 H0 F H s) {p : Addr} {vs : List V} {xs : List D} (hn : H p = none) (r : RpAll K F vs xs) : NewL K hp H F (upd H p (.lst vs)) p xs := by
  refine ⟨⟨vs, upd_same, r⟩, ?_, G.noHp hn, fun u e => ?_⟩
  · cases q : F p with
    | none => rfl
    | some u =>
      rw [G.sub p u q] at hn
      cases hn
  · rw [hn] at e
    cases e
/-! ### names, constants -/
def rdat (i : Nat) (ρ : Rho) : M D := match ρ[i]? with
  | some (.dat d) => pure d
  | _ => M.bad
def rany (i : Nat) (ρ : Rho) : M D := match ρ[i]? with
  | some (.dat d) => pure d
  | some (.own xs) => pure (.list xs)
  | _ => M.bad
theorem ev_var (i : Nat) : EvE K T EX (tVar i) (rdat i) := fun {hp F0 H0 F H σ ρ s Q} R p => by
  unfold rdat at p
  cases q : ρ[i]? with
  | none => rw [q] at p; exact p.elim
  | some x =>
    rw [q] at p
    cases x with
    | dat d =>
      obtain ⟨v, h1, h2⟩ := R.sl i _ q
      exact ⟨v, h1, p.ret F H v R.g.refl h2⟩
    | un => exact p.elim
    | own xs => exact p.elim
    | hand => exact p.elim
theorem evb_var (i : Nat) : EvB K T EX (tVar i) (rany i) := fun {hp F0 H0 F H σ ρ s Q} R p => by
  unfold rany at p
  cases q : ρ[i]? with
  | none => rw [q] at p; exact p.elim
  | some x =>
    rw [q] at p
    cases x with
    | dat d =>
      obtain ⟨v, h1, h2⟩ := R.sl i _ q
      exact ⟨v, h1, p.ret F H v R.g.refl (.inl h2)⟩
    | un => exact p.elim
    | own xs =>
      obtain ⟨v, vs, h1, h2, h3, h4, h5, _⟩ := R.sl i _ q
      exact ⟨.ref v, h1, p.ret F H _ R.g.refl (.inr ⟨v, vs, xs, rfl, rfl, h2, h3, h5⟩)⟩
    | hand => exact p.elim
theorem ev_c {v : V} {d : D} (h : ∀ F, Rp K F v d) : EvE K T EX (tC v) (fun _ => pure d) := fun R p => p.ret _ _ _ R.g.refl (h _)
theorem ev_int (i : Int) : EvE K T EX (tC (.int i)) (fun _ => pure (.int i)) := ev_c fun _ => .int i
theorem ev_bl (i : Bool) : EvE K T EX (tC (.bl i)) (fun _ => pure (.bool i)) := ev_c fun _ => .bl i
theorem ev_str (i : Str) : EvE K T EX (tC (.str i)) (fun _ => pure (.str i)) := ev_c fun _ => .str i
theorem ev_non : EvE K T EX (tC .non) (fun _ => pure .none) := ev_c fun _ => .non

/-! ### operators -/
/-- an operator by values keeps what h says of the data -/
def OpP (K : PySem.W.Frag) (r : R2) (h : D → D → Option D) : Prop := ∀ {T : List (Addr × Str)} {hp : Addr} {F0 H0 F H : Hp} {s : HS} {v w : V} {a b d : D} {Q : VK}, Grow K T hp F0 H0 F H s → Bw K hp F H v a → Bw K hp F H w b → h a b = some d →
  (∀ F' H' u, Grow K T hp F H F' H' s → Rp K F' u d → Q u H') → r v w H Q
def OpN (K : PySem.W.Frag) (r : R2) (h : D → D → Option (List D)) : Prop := ∀ {T : List (Addr × Str)} {hp : Addr} {F0 H0 F H : Hp} {s : HS} {v w : V} {a b : D} {xs : List D} {Q : VK}, Grow K T hp F0 H0 F H s → Bw K hp F H v a → Bw K hp F H w b → h a b = some xs →
  (∀ F' H' p, Grow K T hp F H F' H' s → NewL K hp H F' H' p xs → Q (.ref p) H') → r v w H Q
def f2 (h : D → D → Option D) (fa fb : Rho → M D) : Rho → M D := fun ρ => do
  let a ← fa ρ
  let b ← fb ρ
  O.lift (h a b)
def f2L (h : D → D → Option (List D)) (fa fb : Rho → M D) : Rho → M (List D) := fun ρ => do
  let a ← fa ρ
  let b ← fb ρ
  O.lift (h a b)
theorem ev_op {ta tb : TE} {fa fb : Rho → M D} {r : R2} {h : D → D → Option D} (ha : EvB K T EX ta fa) (hb : EvB K T EX tb fb) (hr : OpP K r h) : EvE K T EX (tOp r ta tb) (f2 h fa fb) := fun R p =>
  ha R (p.bind.mono fun a s1 k1 F1 H1 v g1 b1 => hb (R.grow g1) (k1.bind.mono fun b s2 k2 F2 H2 w g2 b2 => by
    obtain ⟨d, e, k⟩ := k2.lift
    exact hr ((R.grow g1).grow g2).g (b1.grow g2) b2 e fun F' H' u g3 r3 => k F' H' u ((g1.trans g2).trans g3) r3))
theorem Grow.newL {F2 H2 : Hp} {s2 : HS} {p : Addr} {xs : List D} (g : Grow K T hp F H F2 H2 s2) (n : NewL K hp H2 F' H' p xs) : NewL K hp H F' H' p xs := ⟨n.ex, n.nF, n.nh, fun u e => by
  refine Classical.byContradiction fun z => z (n.lo u (g.st p u e z))⟩
theorem evl_op {ta tb : TE} {fa fb : Rho → M D} {r : R2} {h : D → D → Option (List D)} (ha : EvB K T EX ta fa) (hb : EvB K T EX tb fb) (hr : OpN K r h) : EvL K T EX (tOp r ta tb) (f2L h fa fb) := fun R p =>
  ha R (p.bind.mono fun a s1 k1 F1 H1 v g1 b1 => hb (R.grow g1) (k1.bind.mono fun b s2 k2 F2 H2 w g2 b2 => by
    obtain ⟨d, e, k⟩ := k2.lift
    exact hr ((R.grow g1).grow g2).g (b1.grow g2) b2 e fun F' H' u g3 r3 => k F' H' u ((g1.trans g2).trans g3) ((g1.trans g2).newL r3)))
def UnP (K : PySem.W.Frag) (r : V → Hp → VK → Prop) (h : D → Option D) : Prop := ∀ {T : List (Addr × Str)} {hp : Addr} {F0 H0 F H : Hp} {s : HS} {v : V} {a d : D} {Q : VK}, Grow K T hp F0 H0 F H s → Bw K hp F H v a → h a = some d →
  (∀ F' H' u, Grow K T hp F H F' H' s → Rp K F' u d → Q u H') → r v H Q
def f1 (h : D → Option D) (fa : Rho → M D) : Rho → M D := fun ρ => do
  let a ← fa ρ
  O.lift (h a)
theorem ev_un {ta : TE} {fa : Rho → M D} {r : V → Hp → VK → Prop} {h : D → Option D} (ha : EvB K T EX ta fa) (hr : UnP K r h) : EvE K T EX (tUn r ta) (f1 h fa) := fun R p =>
  ha R (p.bind.mono fun a s1 k1 F1 H1 v g1 b1 => by
    obtain ⟨d, e, k⟩ := k1.lift
    exact hr (R.grow g1).g b1 e fun F' H' u g3 r3 => k F' H' u (g1.trans g3) r3)
end
end Jw
/-! Rules for what the hand layer leaves out: a tuple from behind, a tuple times 1 or less, min of a list of data, enumerate of a tuple. -/
namespace Jw
open PySem PySem.Spec PyProof.Rows L2
section
variable {prog : Program} {w : World} {A : Around} {E : Value → Shared → Prop} {s : Shared}
/-! ### t[::-1] -/
theorem back_adjust (n : Nat) : Builtin.Slice.sliceAdjust none none (-1) (n : Int) = ((n : Int) - 1, -1) := rfl
theorem back_places (n : Nat) : Builtin.Slice.slicePlaces ((n : Int) - 1) (-1) (-1) = n := by
  unfold Builtin.Slice.slicePlaces
  rw [if_neg (by decide)]
  by_cases h : n = 0
  · subst h; rfl
  · rw [if_pos (by omega)]
    have e : ((n : Int) - 1 - -1 - 1) / (- -1) + 1 = n := by
      rw [show (- -1 : Int) = 1 by decide, Int.ediv_one]
      omega
    rw [e]
    exact Int.toNat_natCast n
theorem back_applied {sl : Addr} {vl vu vs : Value} {n : Nat} {Q : Int × Int × Nat → Shared → Prop} (hs : s.heap.IsSliceOf sl vl vu vs) (pl : IsPart vl none) (pu : IsPart vu none) (ps : IsPart vs (some (-1)))
    (h : Q ((n : Int) - 1, -1, n) s) : wpAny (model prog w) A (Builtin.Slice.sliceApplied (.ref sl) (pure (n : Int))) Q E s := by
  obtain ⟨os, hos, hcs, hds⟩ := id hs
  unfold Builtin.Slice.sliceApplied Builtin.Slice.sliceFields
  refine wpAny_bind (wpAny_bind (wpAny_field hos hds (x := vl) rfl (wpAny_bind (wpAny_field hos hds (x := vu) rfl (wpAny_bind (wpAny_field hos hds (x := vs) rfl (wpAny_pure ?_)))))))
  refine wpAny_bind (HT.slicePart_ ps ?_)
  show wpAny _ _ (if ((-1 : Int) == 0) = true then _ else _) _ _ s
  rw [if_neg (by decide)]
  refine wpAny_bind (HT.slicePart_ pl (wpAny_bind (HT.slicePart_ pu (wpAny_bind (wpAny_pure ?_)))))
  have e : (match Builtin.Slice.sliceAdjust none none ((some (-1 : Int)).getD 1) (n : Int) with | (lo, hi) => (pure (lo, (some (-1 : Int)).getD 1, Builtin.Slice.slicePlaces lo hi ((some (-1 : Int)).getD 1)) : Sem (Int × Int × Nat))) = pure ((n : Int) - 1, -1, n) := by
    show (pure ((n : Int) - 1, (-1 : Int), Builtin.Slice.slicePlaces ((n : Int) - 1) (-1) (-1)) : Sem (Int × Int × Nat)) = _
    rw [back_places]
  exact wpAny_of_eq e h
theorem back_pick (xs : Array Value) : ((List.range xs.size).filterMap fun (k : Nat) => xs[(((xs.size : Nat) : Int) - 1 + (k : Int) * -1).toNat]?).toArray = xs.toList.reverse.toArray := by
  congr 1
  have key : ∀ (l : List Nat), (∀ k ∈ l, k < xs.size) → l.filterMap (fun (k : Nat) => xs[(((xs.size : Nat) : Int) - 1 + (k : Int) * -1).toNat]?) = l.map fun k => xs.toList.reverse.getD k .none := by
    intro l
    induction l with
    | nil => intro _; rfl
    | cons k l ih =>
      intro hk
      have hk' := hk k List.mem_cons_self
      have e1 : (((xs.size : Nat) : Int) - 1 + (k : Int) * -1).toNat = xs.size - 1 - k := by omega
      have h2 : xs.size - 1 - k < xs.size := by omega
      have e2 : xs[(((xs.size : Nat) : Int) - 1 + (k : Int) * -1).toNat]? = some (xs.toList.reverse.getD k .none) := by
        rw [e1, Array.getElem?_eq_getElem h2, List.getD_eq_getElem?_getD, List.getElem?_reverse (by rw [Array.length_toList]; exact hk'), Array.length_toList, List.getElem?_eq_getElem (by rw [Array.length_toList]; exact h2)]
        simp
      rw [List.filterMap_cons, e2, List.map_cons, ih fun j hj => hk j (List.mem_cons_of_mem _ hj)]
  have e := key (List.range xs.size) fun k hk => List.mem_range.mp hk
  rw [e]
  refine List.ext_getElem (by simp) fun i h1 h2 => ?_
  rw [List.getElem_map, List.getElem_range, List.getD_eq_getElem?_getD, List.getElem?_eq_getElem h2]
  rfl
theorem getItem_tuple_back {t sl : Addr} {items : Array Value} {vl vu vs : Value} {Q : Value → Shared → Prop} (ht : IsTup s.heap t items) (hs : s.heap.IsSliceOf sl vl vu vs) (pl : IsPart vl none) (pu : IsPart vu none) (ps : IsPart vs (some (-1)))
    (h : Q (.ref s.heap.objs.size) { s with heap := s.heap.push { cls := .type "tuple", data := .seq items.toList.reverse.toArray } })
    (hsz : items.size ≤ sizeLine) : wpAny (model prog w) A (getItem (.ref t) (.ref sl)) Q E s := by
  have hfit : sizeOk (.seq items.toList.reverse.toArray) := by
    show items.toList.reverse.toArray.size ≤ sizeLine
    rw [List.size_toArray, List.length_reverse, Array.length_toList]
    exact hsz
  obtain ⟨os, hos, hcs, hds⟩ := id hs
  have hTs : s.TypeIs (.ref sl) "slice" := ⟨os, hos, hcs⟩
  unfold getItem
  try with_reducible refine wpAny_holding ?_
  first | refine wpAny_bind (wpAny_pure ?_) | skip
  refine wpAny_bind (wpAny_sequenceKey ht.typeIs (by decide) ?_)
  refine wpAny_bind (wpAny_callSpecial?_slot (name := Str.ofString "__getitem__") ht.typeIs slot_tuple_getitem (wpAny_call_entry slot_tuple_getitem ht.typeIs entry_tuple_getitem ?_ (args_tuple_getitem _ _)))
  show wpAny _ _ (Builtin.Tuple.tupleItemsOf (.ref t) >>= _) _ _ s
  refine wpAny_bind (tupleItemsOf_ ht (wpAny_bind (wpAny_typeOf hTs ?_)))
  rw [if_pos (by decide)]
  refine wpAny_bind (back_applied hs pl pu ps ?_)
  show wpAny _ _ (if ((((items.size : Nat) : Int) - 1) == 0 && (-1 : Int) == 1 && items.size == items.size) = true then _ else _) _ _ s
  rw [if_neg (by simp), back_pick]
  first
    | exact wpAny_bind (m := Builtin.Tuple.tupleExact _) (wpAny_newObj_type (wpAny_pure ⟨_, rfl, wpAny_pure h⟩) hfit)
    | exact wpAny_bind (m := Builtin.Tuple.tupleExact _) (wpAny_newObj_type (wpAny_bind (wpAny_pure (wpAny_pure ⟨_, rfl, wpAny_pure h⟩))) hfit)
    | exact wpAny_bind (wpAny_bind (m := Builtin.Tuple.tupleExact _) (wpAny_newObj_type (wpAny_pure (wpAny_pure ⟨_, rfl, wpAny_pure h⟩)) hfit))
    | exact wpAny_bind (wpAny_bind (m := Builtin.Tuple.tupleExact _) (wpAny_newObj_type (wpAny_pure ⟨_, rfl, wpAny_pure h⟩) hfit))
end
theorem Vals.rev {xs : List V} {us : List Value} (r : Vals xs us) : Vals xs.reverse us.reverse := by
  induction r with
  | nil => exact .nil
  | cons h _ ih =>
    rw [List.reverse_cons, List.reverse_cons]
    exact ih.append (.cons h .nil)
def tBackT (K : PySem.W.Frag) (te : TE) : TE := fun σ H Q => te σ H fun x H1 => ∃ a xs, x = .ref a ∧ SqT K H1 a xs ∧ ∀ p, H1 p = none → Q (.ref p) (upd H1 p (.tup xs.reverse))
section
variable {X : Cx} {T : List (Addr × Str)} {EX : String → Hp → Prop} {pos p : Pos}
theorem pe_backT {e : Expr} {te : TE} {k : Nat} {p1 p2 p3 : Pos} (he : PE X e te) : PE X (.Subscript e (.Slice none none (some (.UnaryOp .USub (.Constant (.int 1) k p1) p2)) p3) pos) (tBackT X.K te) := by
  constructor
  intro pins s σ H Q I h
  refine Subscript_ (thn (he.run pins s σ H _ I h) ?_)
  rintro v t1 ⟨x, G, J, rv, a, xs, rfl, hx, q⟩
  cases rv
  have hst : PO X (some (.UnaryOp .USub (.Constant (.int 1) k p1) p2)) (tPart (tUn (rU fun i => .int (-i)) (tC (.int 1)))) := po_some (pe_un un_neg pe_int)
  refine wpAny_Slice (thn (po_none.run pins t1 σ G (fun o H2 => o = none ∧ H2 = G) J ⟨rfl, rfl⟩) ?_)
  rintro vl t2 ⟨l, G2, J2, pl, rfl, rfl⟩
  refine thn (po_none.run pins t2 σ G2 (fun o H3 => o = none ∧ H3 = G2) J2 ⟨rfl, rfl⟩) ?_
  rintro vu t3 ⟨u, G3, J3, pu, rfl, rfl⟩
  refine thn (hst.run pins t3 σ G3 (fun o H4 => o = some (-1) ∧ H4 = G3) J3 ⟨1, rfl, -1, rfl, rfl, rfl⟩) ?_
  rintro vs t4 ⟨o, G4, J4, ps, rfl, rfl⟩
  have J5 : L2.Inv X pins σ G4 { t4 with heap := t4.heap.push { cls := .type "slice", data := .fields #[vl, vu, vs] } } := J4.kept (t' := t4.toks) fun b ob z => Heap.get?_push_of_some _ z
  obtain ⟨its, r, ht, hz⟩ := J5.tuple hx
  have hlen := r.length
  show wpAny (model X.prog X.w) X.A (subscriptTail e (.Slice none none (some (.UnaryOp .USub (.Constant (.int 1) k p1) p2)) p3) (.ref a) (.ref t4.heap.objs.size)) (EP X pins σ Q) X.xe _
  refine tail_any (ops := [.ref a, .ref t4.heap.objs.size]) ht.typeIs (slot_tuple_getitem.lookup) ?_ (by with_unfolding_all rfl)
  refine getItem_tuple_back ht (Heap.IsSliceOf.new _ vl vu vs) pl pu ps ?_ (by rw [List.size_toArray]; omega)
  refine ⟨.ref _, _, J5.laid (t' := t4.toks) (o := .tup xs.reverse) (fun b ob z => Heap.get?_push_of_some _ z) (Nat.le_refl _) ?_, rfl, q _ (J5.hok.fresh (Nat.le_refl _))⟩
  exact ⟨by rw [List.length_reverse]; exact hz, _, Vals.rev r, ⟨_, Heap.get?_push_size _ rfl, rfl, _, rfl⟩⟩
end
end Jw
namespace Jw
open PySem PySem.Spec PyProof.Rows L2
/-! ### a tuple times an int: 1 gives itself, less nothing -/
section
variable {K : PySem.W.Frag}
theorem tuple_mulA (l : Addr) (items : Array Value) (n : Nat) (dd : Option Addr) (sl : Array (Option Value)) (x : Int) (u : Tok) (c0 : (decide (x < -(2 ^ 63)) || decide (x ≥ 2 ^ 63)) = false) (c1 : (items.isEmpty || x == 1) = true) :
    Meets (Builtin.«tuple.__mul__» ⟨[.ref l, .int x u], []⟩) (fun _ R s => s.heap.get? l = some { cls := .type "tuple", dict := dd, data := .seq items n, slots := sl } ∧ R (.ok (.ret (Value.ref l))) s) :=
  .of_wp fun prog w A R s h => by
    obtain ⟨hp, g, d, tk, os⟩ := s
    obtain ⟨hl, h⟩ := h
    have f1 := AutoSeq1.idx_int
    wp_walk using wpAny_loadPart' hl
    repeat (first
      | (refine wpAny_ite_false (decide_eq_false (by rw [c0]; exact Bool.false_ne_true)) ?_; wp_walk using wpAny_loadPart' hl)
      | (refine wpAny_ite_true (decide_eq_true c1) ?_; wp_walk using wpAny_loadPart' hl))
    exact ⟨_, rfl, h⟩
theorem tuple_mulB (l : Addr) (items : Array Value) (n : Nat) (dd : Option Addr) (sl : Array (Option Value)) (x : Int) (u : Tok) (c0 : (decide (x < -(2 ^ 63)) || decide (x ≥ 2 ^ 63)) = false) (c1 : (items.isEmpty || x == 1) = false) (c2 : (decide (x ≤ 0) || items.isEmpty) = true) :
    Meets (Builtin.«tuple.__mul__» ⟨[.ref l, .int x u], []⟩) (fun _ R s => s.heap.get? l = some { cls := .type "tuple", dict := dd, data := .seq items n, slots := sl } ∧
      R (.ok (.ret (Value.ref s.heap.objs.size))) { s with heap := s.heap.push { cls := Value.type "tuple", data := Data.seq #[] }, toks := s.toks }) :=
  .of_wp fun prog w A R s h => by
    obtain ⟨hp, g, d, tk, os⟩ := s
    obtain ⟨hl, h⟩ := h
    have f1 := AutoSeq1.idx_int
    wp_walk using wpAny_loadPart' hl
    repeat (first
      | (refine wpAny_ite_false (decide_eq_false (by rw [c0]; exact Bool.false_ne_true)) ?_; wp_walk using wpAny_loadPart' hl)
      | (refine wpAny_ite_false (decide_eq_false (by rw [c1]; exact Bool.false_ne_true)) ?_; wp_walk using wpAny_loadPart' hl)
      | (refine wpAny_ite_true (decide_eq_true c2) ?_; wp_walk using wpAny_loadPart' hl))
    exact ⟨_, rfl, h⟩
end
end Jw
namespace Jw
open PySem PySem.Spec PyProof.Rows L2
/-- the pairs of enumerate over the tuple at a -/
def ItEt (K : PySem.W.Frag) (a : Addr) : It :=
  ⟨fun i H => ∃ (xs : List V) (x : V), SqT K H a xs ∧ xs[i]? = some x, fun i H v H' => ∃ P x, v = .ref P ∧ H P = none ∧ H' = upd H P (.tup [.int (i : Nat), x]) ∧ ∀ xs, SqT K H a xs → xs[i]? = some x, fun i H => ∃ xs : List V, SqT K H a xs ∧ xs.length = i⟩
theorem turn_enumT {P : Program} {w : World} {K : PySem.W.Frag} {es : List Expr} {k0 : Nat} {tp : Pos} (a e it : Addr) :
    Turn P w K (.Tuple es k0 tp) (ItEt K a) [e, it] e (fun i h => (∃ old, IsEnum h e it ((i : Nat) : Int) old) ∧ h.IsTupleIter it a i ∧ e ≠ it) where
  mem := List.mem_cons_self
  obj := fun i h st b hb => by
    obtain ⟨⟨old, he⟩, ⟨o, ho, _, hd⟩, _⟩ := st
    rcases List.mem_cons.mp hb with rfl | hb
    · exact ⟨_, he, fun v q => nomatch q⟩
    · cases List.mem_singleton.mp hb
      exact ⟨o, ho, fun v q => by rw [hd] at q; cases q⟩
  keep := fun i h h' ⟨⟨old, he⟩, hi, n⟩ k => ⟨⟨old, k e List.mem_cons_self _ he⟩, hi.at fun o q => k it (List.mem_cons_of_mem _ List.mem_cons_self) o q, n⟩
  item := by
    intro X hP hw hK hc i pins s σ H E I hf ⟨⟨old, he⟩, hit, hne⟩ hg
    subst hP hw hK
    obtain ⟨xs, x, hq, hx⟩ := hg
    obtain ⟨its, rv, p, hz⟩ := I.tuple hq
    obtain ⟨u, hu, ru⟩ := rv.get hx
    have hel := Heap.lt_size he
    have hil : it < s.heap.objs.size := by
      obtain ⟨_, q, _⟩ := hit
      exact Heap.lt_size q
    have nea : e ≠ a := fun z => by
      obtain ⟨o, ho, hcl, _⟩ := p
      rw [← z, he] at ho
      cases ho
      exact absurd (Value.type.inj hcl) (by decide)
    have nia : a ≠ it := fun z => by
      obtain ⟨o, ho, hcl, _⟩ := p
      obtain ⟨o2, ho2, hcl2, _⟩ := hit
      rw [z, ho2] at ho
      cases ho
      rw [hcl2] at hcl
      exact absurd hcl (by decide)
    have hil2 : i < its.toArray.size := by
      rw [List.size_toArray, ← rv.length]
      exact (List.getElem?_eq_some_iff.mp hx).1
    refine wpAny_pyNext_enum_itemD (Draws.tuple (A := X.A.in1) (I.ok.hd hc) it a nia its.toArray) he ⟨hit, p⟩ hil2 hne (by simp [nea, hne]) fun y h' tk hy ho hs' hT hsz hk => ?_
    have hyu : y = u := by
      have e1 : its.toArray[i]? = some u := by simpa using hu
      rw [e1] at hy
      exact (Option.some.inj hy).symm
    subst hyu
    refine ⟨_, rfl, wpAny_letOwnedTupleGo_enum (s := { s with heap := h', toks := tk + 1 }) ho fun h'' he' sb => ?_⟩
    have hT2 : h''.get? s.heap.objs.size = some { cls := .type "tuple", data := .seq #[.int i tk, y] } := (sb.2 _ (Nat.ne_of_gt hel)).trans hT
    have I1 : Inv X pins σ (upd H s.heap.objs.size (.tup [.int (i : Nat), x])) { s with heap := h'', toks := tk + 1 } :=
      I.turnedNew (ch := [e, it]) (fun b ob hb q => (sb.2 b (fun z => hb (by simp [z]))).trans (hk b ob (fun z => hb (by simp [z])) (fun z => hb (by simp [z])) q)) hf (Nat.le_refl _)
        ⟨by show 2 ≤ sizeLine; decide, [.int i tk, y], .cons ⟨_, rfl⟩ (.cons ru .nil), ⟨_, hT2, rfl, _, rfl⟩⟩
    refine ⟨.ref s.heap.objs.size, _, I1, rfl, ⟨_, x, rfl, I.hok.fresh (Nat.le_refl _), rfl, fun ys hy => by rw [I.tuple_inj hy hq]; exact hx⟩, ⟨⟨y, ?_⟩, hs'.1.at fun o q => (sb.2 it (Ne.symm hne)).trans q, hne⟩, fun b hb => ?_⟩
    · have e1 : ((i + 1 : Nat) : Int) = (i : Int) + 1 := by omega
      rw [e1]; exact he'
    · have hb' : b < s.heap.objs.size := by
        rcases List.mem_cons.mp hb with rfl | hb
        · exact hel
        · cases List.mem_singleton.mp hb
          exact hil
      rw [upd_ne (Nat.ne_of_lt hb')]
      exact (hf b hb).1
  done := by
    intro X hP hw hK hc i pins s σ H E I hf ⟨⟨old, he⟩, hit, hne⟩ hg
    subst hP hw hK
    obtain ⟨xs, hq, hx⟩ := hg
    obtain ⟨its, rv, p, hz⟩ := I.tuple hq
    obtain ⟨f0, f1, f2, f3, f4, f5⟩ := hf it (by simp)
    have hl := rv.length
    have nia : a ≠ it := fun z => by
      obtain ⟨o, ho, hcl, _⟩ := p
      obtain ⟨o2, ho2, hcl2, _⟩ := hit
      rw [z, ho2] at ho
      cases ho
      rw [hcl2] at hcl
      exact absurd hcl (by decide)
    have hn : its.toArray.size = i := by rw [List.size_toArray, ← hl]; exact hx
    refine wpAny_pyNext_enum_endD (Draws.tuple (A := X.A.in1) (I.ok.hd hc) it a nia its.toArray) he (by rw [hn]; exact ⟨hit, p⟩) ?_
    exact fun h' eb => ⟨rfl, I.turned (t' := s.toks) (fun b o hb q => eb b o hb q) f0 f1 f3 f4 f5⟩
  self := fun A i s Q E ⟨⟨_, he⟩, _⟩ h => wpAny_pyIter_enum he h
set_option maxHeartbeats 1000000 in
theorem enumerate1 {v : Value} {o : Obj} {G : Heap → Prop} (B : Begins v o G) :
    Meets (Builtin.«enumerate.__new__» ⟨[.type "enumerate", v], []⟩) (fun _ R s => G s.heap ∧
      R (.ok (.ret (.ref (s.heap.push o).objs.size))) { s with heap := (s.heap.push o).push { cls := .type "enumerate", data := .fields #[.none, .bool false, .ref s.heap.objs.size, rawInt 0, .none, .none] } }) := by
  refine .of_wp fun prog w A R s h => ?_
  obtain ⟨hp, g, d, tk, os⟩ := s
  obtain ⟨h1, h⟩ := h
  have hsub := sub_enumerate
  have q1 : ∀ {A' : Around} {E : Value → Shared → Prop} {Q : Value → Shared → Prop}, Q (.ref hp.objs.size) ⟨hp.push o, g, d, tk, os⟩ → wpAny (model prog w) A' (pyIter v) Q E ⟨hp, g, d, tk, os⟩ := fun q => B.iter prog w _ _ ⟨hp, g, d, tk, os⟩ _ h1 q
  wp_walk using q1
  refine wpAny_stack_any fun st => wpAny_pure ?_
  split
  · rename_i c _ _ _ _ _
    cases (c == Value.type "enumerate") <;> (wp_walk using q1; exact ⟨_, rfl, h⟩)
  · wp_walk using q1
    exact ⟨_, rfl, h⟩
def iEnumT (K : PySem.W.Frag) (ta : TA) : TI := fun σ H R => ta σ H fun vs H1 => ∃ a xs, vs = [.ref a] ∧ SqT K H1 a xs ∧ R (ItEt K a) H1
theorem pi_enumT {X : Cx} {e : Expr} {ta : TA} {p pos tp : Pos} {es : List Expr} {k0 : Nat} (hg : Gl X "enumerate") (hm : X.mg "enumerate" = none) (ha : PA X [e] ta) (hs : starEach [e] X.env = [(false, eval e X.env)] := by rfl) :
    PI X (.Tuple es k0 tp) (.Call (.Name "enumerate" p) [e] [] pos) (iEnumT X.K ta) := by
  constructor
  intro pins s σ H R I h
  refine Call_ (ld_blt I hg hm boot_enumerate (PyProof.Rows.callWith_type1 (thn (ha.run pos pins s σ H _ I h) ?_) hs rfl))
  rintro us s1 ⟨vs, H1, I1, r1, a, xs, rfl, hq, q⟩
  cases r1 with
  | cons r rr =>
    cases rr
    cases r
    obtain ⟨its, rv, p', hz⟩ := I1.tuple hq
    refine callType_new F.called_enumerate (by decide) (F.typeCall_enumerate_1 _) (F.newCall_enumerate_1 _) (fun obj => F.args_object_init_2 obj _) F.entry_enumerate_new (enumerate1 (begins_tuple a its.toArray)) ⟨p', ?_⟩
    generalize hb : s1.heap.push { cls := .type "tuple_iterator", data := .fields #[.ref a, .int 0 0] } = h1
    have z1 : h1.objs.size = s1.heap.objs.size + 1 := by rw [← hb]; exact Heap.size_push ..
    have i1 : h1.get? s1.heap.objs.size = some { cls := .type "tuple_iterator", data := .fields #[.ref a, .int 0 0] } := by rw [← hb]; exact Heap.get?_push_size _ rfl
    have k1 : ∀ b ob, s1.heap.get? b = some ob → h1.get? b = some ob := fun b ob x => by rw [← hb]; exact Heap.get?_push_of_some _ x
    have he : IsEnum (h1.push { cls := .type "enumerate", data := .fields #[.none, .bool false, .ref s1.heap.objs.size, rawInt 0, .none, .none] }) h1.objs.size s1.heap.objs.size 0 .none := Heap.get?_push_size h1 rfl
    refine ⟨⟨_, he, rfl⟩, wpAny_pyIter_enum he ?_⟩
    have I2 : Inv X pins σ H1 { s1 with heap := h1.push { cls := .type "enumerate", data := .fields #[.none, .bool false, .ref s1.heap.objs.size, rawInt 0, .none, .none] } } := I1.kept (t' := s1.toks) fun b ob x => Heap.get?_push_of_some _ (k1 b ob x)
    refine ⟨h1.objs.size, [h1.objs.size, s1.heap.objs.size], _, _, H1, rfl, I2, turn_enumT a h1.objs.size s1.heap.objs.size, ⟨⟨.none, he⟩, ⟨_, Heap.get?_push_of_some _ i1, rfl, rfl⟩, by rw [z1]; exact Nat.succ_ne_self _⟩, fun b hb => ?_, q⟩
    have hle : s1.heap.objs.size ≤ b := by
      rcases List.mem_cons.mp hb with rfl | hb
      · rw [z1]; exact Nat.le_add_right _ _
      · rw [List.mem_singleton.mp hb]; exact Nat.le_refl _
    exact I1.fpOk hle (I1.hok.fresh hle)
end Jw
namespace Jw
open PySem PySem.Spec PyProof.Rows L2
/-- a tuple times 1 or less, the empty tuple times anything -/
def rRepS (K : PySem.W.Frag) : R2 := fun x y H Q => ∃ l k xs, x = .ref l ∧ y = .int k ∧ SqT K H l xs ∧ -(2 ^ 63) ≤ k ∧ k < 2 ^ 63 ∧ ((xs = [] ∨ k = 1) ∧ Q (.ref l) H ∨ xs ≠ [] ∧ k ≤ 0 ∧ ∀ p, H p = none → Q (.ref p) (upd H p (.tup [])))
section
variable {X : Cx}
theorem op_repS : OpR X (binaryOp .Mult) (rRepS X.K) := by
  rintro pins s σ H x y v u Q I rx ry ⟨l, k, xs, rfl, rfl, hT, k0, k1, h⟩
  cases rx
  obtain ⟨t, rfl⟩ := ry
  obtain ⟨its, r, ⟨⟨cls, dd, data, sl⟩, ho, hc, n, hd⟩, hs⟩ := I.tuple hT
  simp only at hc hd
  subst hc hd
  have c0 : (decide (k < -(2 ^ 63)) || decide (k ≥ 2 ^ 63)) = false := by
    rw [decide_eq_false (by omega), decide_eq_false (by omega)] <;> rfl
  refine wpAny_binaryOp_repeat_ref (T := "tuple") (U := "int") (by decide) ⟨_, ho, rfl⟩ (fun s' => typeIs_int s' k t) noFill_tuple_mul F.fills_int_mul F.slot_int_rmul repeat_tuple F.slot_int_index.lookup
    (call_meets F.slot_int_rmul (typeIs_int s k t) F.entry_int_rmul (F.args_int_rmul_2 _ _) (int_rmul_tuple k t l its.toArray n dd sl) ⟨ho, rfl, ⟨_, ho, rfl⟩, ?_⟩)
  rcases h with ⟨hz, q⟩ | ⟨hz, kn, q⟩
  · have c1 : (its.toArray.isEmpty || k == 1) = true := by
      rcases hz with rfl | rfl
      · cases r
        rfl
      · rw [beq_self_eq_true, Bool.or_true]
    exact call_meets F.slot_tuple_mul ⟨_, ho, rfl⟩ F.entry_tuple_mul (F.args_tuple_mul_2 _ _) (tuple_mulA l its.toArray n dd sl k t c0 c1) ⟨ho, .ref l, H, I, rfl, q⟩
  · have c1 : (its.toArray.isEmpty || k == 1) = false := by
      rw [show (k == 1) = false from beq_eq_false_iff_ne.mpr (by omega), Bool.or_false]
      cases r with
      | nil => exact absurd rfl hz
      | cons _ _ => rfl
    have c2 : (decide (k ≤ 0) || its.toArray.isEmpty) = true := by rw [decide_eq_true kn, Bool.true_or]
    refine call_meets F.slot_tuple_mul ⟨_, ho, rfl⟩ F.entry_tuple_mul (F.args_tuple_mul_2 _ _) (tuple_mulB l its.toArray n dd sl k t c0 c1 c2) ⟨ho, ?_⟩
    exact ⟨.ref s.heap.objs.size, _, I.laid (t' := s.toks) (o := .tup []) (fun b ob z => Heap.get?_push_of_some _ z) (Nat.le_refl _) ⟨by decide, _, .nil, IsTup.new _ _⟩, rfl, q _ (I.hok.fresh (Nat.le_refl _))⟩
end
end Jw
namespace Jw
open PySem PySem.Spec PyProof.Rows L2
/-! ### min, max of a list of data -/
def rBestD (K : PySem.W.Frag) (best : PyData → List PyData → PyData) : List V → Hp → VK → Prop := fun xs H Q => ∃ (a : Addr) (vs : List V) (x : PyData) (ds : List PyData), xs = [.ref a] ∧ SqL K H a vs ∧ DpAll K H vs (x :: ds) ∧ PySem.W.AlikeAll (x :: ds) ∧ PyData.depthAll (x :: ds) ≤ 64 ∧
  ∀ (i : Nat) (v : V), vs[i]? = some v → (x :: ds)[i]? = some (best x ds) → Q v H
theorem vals_back {xs : List V} {us : List Value} {i : Nat} {u : Value} (r : Vals xs us) (h : us[i]? = some u) : ∃ x, xs[i]? = some x ∧ RelV x u := by
  cases q : xs[i]? with
  | none =>
    rw [r.none_of q] at h
    cases h
  | some x =>
    obtain ⟨u2, h2, h3⟩ := r.get q
    rw [h] at h2
    cases h2
    exact ⟨x, rfl, h3⟩
section
variable {X : Cx}
theorem best_at {h h' : Heap} {its : List Value} {all : List PyData} {as bs : List Addr} {i : Nat} {u : Value} {b : PyData} (r : ReadsAll h its all as) (hu : its.toArray[i]? = some u) (hb : Reads h' u b bs) (k : ∀ p o, h.get? p = some o → h'.get? p = some o) : all[i]? = some b := by
  obtain ⟨cs, r2, h1, _, _⟩ := PySem.W.readsAll_at r i u (by simpa using hu)
  obtain ⟨e, _⟩ := (PySem.W.reads_keeps k r2).unique _ _ hb
  rw [List.getElem?_eq_getElem h1, ← e, List.getD_eq_getElem?_getD, List.getElem?_eq_getElem h1]
  rfl
theorem cr_minD (hc : X.calm = true) (hu : X.A.units + 65 < cLine) : CallR X (.builtin "min") (rBestD X.K PySem.W.minD) := by
  rintro pins s σ H vs us Q I r ⟨a, ws, x, ds, rfl, hs, hd, hal, hdp, q⟩
  obtain ⟨its, rv, hl, _⟩ := I.list hs
  obtain ⟨as, hr⟩ := Dp.readsAll I _ _ its hd rv
  rw [Vals.ref1 r]
  refine PySem.W.min_list_data (I.ok.hd hc) hl.isList (vs := its.toArray) hr hal (by omega) fun i u h' tk bs hi hb hk => ?_
  obtain ⟨v, hv, rv2⟩ := vals_back (i := i) (u := u) rv (by simpa using hi)
  exact ⟨v, H, I.kept hk, rv2, q i v hv (best_at hr hi hb hk)⟩
theorem cr_maxD (hc : X.calm = true) (hu : X.A.units + 65 < cLine) : CallR X (.builtin "max") (rBestD X.K PySem.W.maxD) := by
  rintro pins s σ H vs us Q I r ⟨a, ws, x, ds, rfl, hs, hd, hal, hdp, q⟩
  obtain ⟨its, rv, hl, _⟩ := I.list hs
  obtain ⟨as, hr⟩ := Dp.readsAll I _ _ its hd rv
  rw [Vals.ref1 r]
  refine PySem.W.max_list_data (I.ok.hd hc) hl.isList (vs := its.toArray) hr hal (by omega) fun i u h' tk bs hi hb hk => ?_
  obtain ⟨v, hv, rv2⟩ := vals_back (i := i) (u := u) rv (by simpa using hi)
  exact ⟨v, H, I.kept hk, rv2, q i v hv (best_at hr hi hb hk)⟩
end
end Jw
namespace Jw
open PySem PySem.Spec PyProof.Rows L2
/-! ### the operators over data -/
def dAdd : D → D → Option D
  | .int a, .int b => some (.int (a + b))
  | .str a, .str b => if a.length + b.length ≤ 16777216 then some (.str (a ++ b)) else none
  | .tuple a, .tuple b => if a.length + b.length ≤ 16777216 then some (.tuple (a ++ b)) else none
  | .list a, .list b => if a.length + b.length ≤ 16777216 then some (.list (a ++ b)) else none
  | _, _ => none
def dAddL : D → D → Option (List D)
  | .list a, .list b => if a.length + b.length ≤ 16777216 then some (a ++ b) else none
  | _, _ => none
def dSub : D → D → Option D
  | .int a, .int b => some (.int (a - b))
  | _, _ => none
def dMul : D → D → Option D
  | .int a, .int b => if a.natAbs.log2 + b.natAbs.log2 < 134000000 then some (.int (a * b)) else none
  | .list a, .int k => if -(2 ^ 63) ≤ k ∧ k < 2 ^ 63 ∧ a.length * k.toNat ≤ 16777216 then some (.list (List.replicate k.toNat a).flatten) else none
  | .tuple a, .int k => if -1000 ≤ k ∧ k ≤ 1000 ∧ a.length ≤ 1000 then some (.tuple (List.replicate k.toNat a).flatten) else none
  | _, _ => none
def dMulL : D → D → Option (List D)
  | .list a, .int k => if -(2 ^ 63) ≤ k ∧ k < 2 ^ 63 ∧ a.length * k.toNat ≤ 16777216 then some (List.replicate k.toNat a).flatten else none
  | _, _ => none
def dDiv : D → D → Option D
  | .int a, .int b => if 0 < b ∧ b.natAbs.log2 < 9000 then some (.int (a / b)) else none
  | _, _ => none
def dMod : D → D → Option D
  | .int a, .int b => if b ≠ 0 then some (.int (a.fmod b)) else none
  | _, _ => none
def dLt : D → D → Option D
  | .int a, .int b => some (.bool (decide (a < b)))
  | _, _ => none
def dLe : D → D → Option D
  | .int a, .int b => some (.bool (decide (a ≤ b)))
  | _, _ => none
def dGt : D → D → Option D
  | .int a, .int b => some (.bool (decide (b < a)))
  | _, _ => none
def dGe : D → D → Option D
  | .int a, .int b => some (.bool (decide (b ≤ a)))
  | _, _ => none
def dEq (a b : D) : Option D := if SeqAt.shaped a = true ∧ SeqAt.shaped b = true then some (.bool (PyData.eqv a b)) else none
def dNe (a b : D) : Option D := if SeqAt.shaped a = true ∧ SeqAt.shaped b = true then some (.bool (!PyData.eqv a b)) else none
def isNone : D → Bool
  | .none => true
  | _ => false
def dIs : D → D → Option D
  | a, .none => some (.bool (isNone a))
  | .bool a, .bool b => some (.bool (decide (a = b)))
  | _, _ => none
def dIsNot : D → D → Option D
  | a, .none => some (.bool (!isNone a))
  | .bool a, .bool b => some (.bool (!decide (a = b)))
  | _, _ => none
def dNeg : D → Option D
  | .int a => some (.int (-a))
  | _ => none
/-- an item by place -/
def dIx : D → D → Option D
  | .list xs, .int i => atI xs i
  | .tuple xs, .int i => atI xs i
  | .str z, .int i => if z.length ≤ 16777216 then (atI z.cps.toList i).map fun c => .str ⟨#[c]⟩ else none
  | _, _ => none
def dLen : D → Option D
  | .list xs => some (.int xs.length)
  | .tuple xs => some (.int xs.length)
  | .str z => if z.length ≤ 16777216 then some (.int z.length) else none
  | _ => none

def rAdd (K : PySem.W.Frag) : R2 := fun x y H Q => (((rI0 fun i j => .int (i + j)) x y H Q ∨ (∃ i j, x = .str i ∧ y = .str j ∧ i.length + j.length ≤ sizeLine ∧ Q (.str (i ++ j)) H)) ∨ rCatA K x y H Q) ∨ rCat x y H Q
def rMulD (K : PySem.W.Frag) : R2 := fun x y H Q => (((rI CMulX fun i j => .int (i * j)) x y H Q ∨ rRep x y H Q) ∨ rRepT K x y H Q) ∨ rRepS K x y H Q
section
variable {X : Cx}
theorem o_add : OpR X (binaryOp .Add) (rAdd X.K) := ((op_add.or op_add_str).or op_catA).or op_cat
theorem o_mul : OpR X (binaryOp .Mult) (rMulD X.K) := ((op_mulX.or op_rep).or op_repT).or op_repS
end
section
variable {K : PySem.W.Frag}
theorem RpAll.nilV {H : Hp} {vs : List V} (h : RpAll K H vs []) : vs = [] := by cases h; rfl
theorem RpAll.nilD {H : Hp} {ds : List D} (h : RpAll K H [] ds) : ds = [] := by cases h; rfl
theorem RpAll.rep {H : Hp} {vs : List V} {ds : List D} (h : RpAll K H vs ds) : ∀ n : Nat, RpAll K H (List.replicate n vs).flatten (List.replicate n ds).flatten
  | 0 => .nil
  | n + 1 => by
    rw [List.replicate_succ, List.replicate_succ, List.flatten_cons, List.flatten_cons]
    exact h.app (RpAll.rep h n)
theorem p_add : OpP K (rAdd K) dAdd := by
  intro T hp F0 H0 F H s v w a b d Q G hv hw e q
  unfold dAdd at e
  split at e
  · cases e
    rw [hv.int, hw.int]
    exact .inl (.inl (.inl ⟨_, _, rfl, rfl, q F H _ G.refl (.int _)⟩))
  · split at e
    · cases e
      rw [hv.str, hw.str]
      rename_i hz
      exact .inl (.inl (.inr ⟨_, _, rfl, rfl, by rw [sizeLine_eq]; exact hz, q F H _ G.refl (.str _)⟩))
    · cases e
  · rename_i xs ys
    split at e
    · cases e
      rename_i hz
      obtain ⟨p1, vs1, rfl, h1, r1⟩ := hv.tuple
      obtain ⟨p2, vs2, rfl, h2, r2⟩ := hw.tuple
      refine .inl (.inr ⟨p1, p2, vs1, vs2, rfl, rfl, St.up G.sub h1, St.up G.sub h2, by rw [sizeLine_eq, r1.len, r2.len]; exact hz, fun z => ?_, fun _ z => ?_, fun _ _ p hn => ?_⟩)
      · subst z
        cases r1.nilD
        exact q F H _ G.refl (.tup h2 r2)
      · subst z
        cases r2.nilD
        rw [List.append_nil] at q
        exact q F H _ G.refl (.tup h1 r1)
      · refine q _ _ _ (G.new hn) (.tup (.inl (.inl upd_same)) (RpAll.up (fun x u z => ?_) (r1.app r2)))
        rw [upd_ne (ne_of_none (G.sub _ _ z) hn)]
        exact z
    · cases e
  · rename_i xs ys
    split at e
    · cases e
      rename_i hz
      obtain ⟨p1, vs1, rfl, h1, r1⟩ := hv.list G.sub
      obtain ⟨p2, vs2, rfl, h2, r2⟩ := hw.list G.sub
      refine .inr ⟨p1, p2, vs1, vs2, rfl, rfl, h1, h2, by rw [sizeLine_eq, r1.len, r2.len]; exact hz, fun p hn => ?_⟩
      refine q _ _ _ (G.new hn) (.lst upd_same (RpAll.up (fun x u z => ?_) (r1.app r2)))
      rw [upd_ne (ne_of_none (G.sub _ _ z) hn)]
      exact z
    · cases e
  · cases e
theorem p_addL : OpN K (rAdd K) dAddL := by
  intro T hp F0 H0 F H s v w a b xs Q G hv hw e q
  unfold dAddL at e
  split at e
  · split at e
    · cases e
      rename_i hz
      obtain ⟨p1, vs1, rfl, h1, r1⟩ := hv.list G.sub
      obtain ⟨p2, vs2, rfl, h2, r2⟩ := hw.list G.sub
      exact .inr ⟨p1, p2, vs1, vs2, rfl, rfl, h1, h2, by rw [sizeLine_eq, r1.len, r2.len]; exact hz, fun p hn => q _ _ _ (G.newOwn hn) (NewL.of G hn (r1.app r2))⟩
    · cases e
  · cases e
theorem mulX_of {i j : Int} (h : i.natAbs.log2 + j.natAbs.log2 < 134000000) : CMulX i j := by
  have b : ∀ x : Int, Builtin.Int.intBits x ≤ x.natAbs.log2 + 1 := fun x => by
    unfold Builtin.Int.intBits
    split <;> omega
  have := b i
  have := b j
  show (Builtin.Int.intBits i : Int) + (Builtin.Int.intBits j : Int) ≤ 134217728
  omega
theorem flat_nil {α : Type} : ∀ n : Nat, (List.replicate n ([] : List α)).flatten = []
  | 0 => rfl
  | n + 1 => by rw [List.replicate_succ, List.flatten_cons, flat_nil n]; rfl
theorem p_mul : OpP K (rMulD K) dMul := by
  intro T hp F0 H0 F H s v w a b d Q G hv hw e q
  unfold dMul at e
  split at e
  · split at e
    · cases e
      rename_i hz
      rw [hv.int, hw.int]
      exact .inl (.inl (.inl ⟨_, _, rfl, rfl, mulX_of hz, q F H _ G.refl (.int _)⟩))
    · cases e
  · split at e
    · cases e
      rename_i hz
      obtain ⟨p1, vs1, rfl, h1, r1⟩ := hv.list G.sub
      rw [hw.int]
      refine .inl (.inl (.inr ⟨p1, _, vs1, rfl, rfl, h1, hz.1, hz.2.1, by rw [sizeLine_eq, r1.len]; exact hz.2.2, fun p hn => ?_⟩))
      refine q _ _ _ (G.new hn) (.lst upd_same (RpAll.up (fun x u z => ?_) (r1.rep _)))
      rw [upd_ne (ne_of_none (G.sub _ _ z) hn)]
      exact z
    · cases e
  · rename_i a k
    split at e
    · cases e
      rename_i hz
      obtain ⟨p1, vs1, rfl, h1, r1⟩ := hv.tuple
      rw [hw.int]
      by_cases hs : vs1 = [] ∨ k = 1
      · refine .inr ⟨p1, _, vs1, rfl, rfl, St.up G.sub h1, by omega, by omega, .inl ⟨hs, q F H _ G.refl (.tup h1 ?_)⟩⟩
        rcases hs with rfl | rfl
        · cases r1.nilD
          rw [flat_nil]
          exact .nil
        · rw [show (1 : Int).toNat = 1 from rfl, List.replicate_one, List.flatten_cons, List.flatten_nil, List.append_nil]
          exact r1
      · by_cases hk : k ≤ 0
        · refine .inr ⟨p1, _, vs1, rfl, rfl, St.up G.sub h1, by omega, by omega, .inr ⟨fun z => hs (.inl z), hk, fun p hn => q _ _ _ (G.new hn) (.tup (.inl (.inl upd_same)) ?_)⟩⟩
          rw [show k.toNat = 0 by omega]
          exact .nil
        · refine .inl (.inr ⟨p1, _, vs1, rfl, rfl, St.up G.sub h1, fun z => hs (.inl z), by omega, hz.2.1, by rw [r1.len]; exact hz.2.2, fun p hn => ?_⟩)
          refine q _ _ _ (G.new hn) (.tup (.inl (.inl upd_same)) (RpAll.up (fun x u z => ?_) (r1.rep _)))
          rw [upd_ne (ne_of_none (G.sub _ _ z) hn)]
          exact z
    · cases e
  · cases e
theorem p_mulL : OpN K (rMulD K) dMulL := by
  intro T hp F0 H0 F H s v w a b xs Q G hv hw e q
  unfold dMulL at e
  split at e
  · split at e
    · cases e
      rename_i hz
      obtain ⟨p1, vs1, rfl, h1, r1⟩ := hv.list G.sub
      rw [hw.int]
      exact .inl (.inl (.inr ⟨p1, _, vs1, rfl, rfl, h1, hz.1, hz.2.1, by rw [sizeLine_eq, r1.len]; exact hz.2.2, fun p hn => q _ _ _ (G.newOwn hn) (NewL.of G hn (r1.rep _))⟩))
    · cases e
  · cases e
/-- an operator on two ints -/
theorem p_int {r : R2} {h : D → D → Option D} {C : Int → Int → Prop} {g : Int → Int → D} (hd : ∀ a b d, h a b = some d → ∃ i j, a = .int i ∧ b = .int j ∧ C i j ∧ d = g i j)
    (hr : ∀ (i j : Int) (H : Hp) (Q : VK), C i j → (∀ u, Rp K (fun _ => none) u (g i j) → Q u H) → r (.int i) (.int j) H Q) : OpP K r h := by
  intro T hp F0 H0 F H s v w a b d Q G hv hw e q
  obtain ⟨i, j, rfl, rfl, hc, rfl⟩ := hd a b d e
  rw [hv.int, hw.int]
  exact hr i j H Q hc fun u ru => q F H u G.refl (Rp.up (fun x o z => by cases z) ru)
theorem p_sub : OpP K (rI0 fun i j => .int (i - j)) dSub := p_int (C := fun _ _ => True) (g := fun i j => .int (i - j)) (fun a b d e => by
  unfold dSub at e
  split at e
  · cases e; exact ⟨_, _, rfl, rfl, trivial, rfl⟩
  · cases e) fun i j H Q _ q => ⟨i, j, rfl, rfl, q _ (.int _)⟩
theorem p_div : OpP K (rI CDivW fun i j => .int (i / j)) dDiv := p_int (C := CDivW) (g := fun i j => .int (i / j)) (fun a b d e => by
  unfold dDiv at e
  split at e
  · split at e
    · cases e; rename_i hz; exact ⟨_, _, rfl, rfl, hz, rfl⟩
    · cases e
  · cases e) fun i j H Q hc q => ⟨i, j, rfl, rfl, hc, q _ (.int _)⟩
theorem p_mod : OpP K (rI (fun _ j => j ≠ 0) fun i j => .int (i.fmod j)) dMod := p_int (C := fun _ j => j ≠ 0) (g := fun i j => .int (i.fmod j)) (fun a b d e => by
  unfold dMod at e
  split at e
  · split at e
    · cases e; rename_i hz; exact ⟨_, _, rfl, rfl, hz, rfl⟩
    · cases e
  · cases e) fun i j H Q hc q => ⟨i, j, rfl, rfl, hc, q _ (.int _)⟩
theorem p_lt : OpP K (rI0 fun i j => .bl (decide (i < j))) dLt := p_int (C := fun _ _ => True) (g := fun i j => .bool (decide (i < j))) (fun a b d e => by
  unfold dLt at e
  split at e
  · cases e; exact ⟨_, _, rfl, rfl, trivial, rfl⟩
  · cases e) fun i j H Q _ q => ⟨i, j, rfl, rfl, q _ (.bl _)⟩
theorem p_le : OpP K (rI0 fun i j => .bl (decide (i ≤ j))) dLe := p_int (C := fun _ _ => True) (g := fun i j => .bool (decide (i ≤ j))) (fun a b d e => by
  unfold dLe at e
  split at e
  · cases e; exact ⟨_, _, rfl, rfl, trivial, rfl⟩
  · cases e) fun i j H Q _ q => ⟨i, j, rfl, rfl, q _ (.bl _)⟩
theorem p_gt : OpP K (rI0 fun i j => .bl (decide (j < i))) dGt := p_int (C := fun _ _ => True) (g := fun i j => .bool (decide (j < i))) (fun a b d e => by
  unfold dGt at e
  split at e
  · cases e; exact ⟨_, _, rfl, rfl, trivial, rfl⟩
  · cases e) fun i j H Q _ q => ⟨i, j, rfl, rfl, q _ (.bl _)⟩
theorem p_ge : OpP K (rI0 fun i j => .bl (decide (j ≤ i))) dGe := p_int (C := fun _ _ => True) (g := fun i j => .bool (decide (j ≤ i))) (fun a b d e => by
  unfold dGe at e
  split at e
  · cases e; exact ⟨_, _, rfl, rfl, trivial, rfl⟩
  · cases e) fun i j H Q _ q => ⟨i, j, rfl, rfl, q _ (.bl _)⟩
theorem p_eq : OpP K (rEqD K) dEq := by
  intro T hp F0 H0 F H s v w a b d Q G hv hw e q
  unfold dEq at e
  split at e
  · cases e
    rename_i hz
    exact ⟨a, b, hv.dp G.sub (nd_shaped hz.1), hw.dp G.sub (nd_shaped hz.2), hz.1, hz.2, q F H _ G.refl (.bl _)⟩
  · cases e
theorem p_ne : OpP K (rNeD K) dNe := by
  intro T hp F0 H0 F H s v w a b d Q G hv hw e q
  unfold dNe at e
  split at e
  · cases e
    rename_i hz
    exact ⟨a, b, hv.dp G.sub (nd_shaped hz.1), hw.dp G.sub (nd_shaped hz.2), hz.1, hz.2, q F H _ G.refl (.bl _)⟩
  · cases e
theorem isNone_v {hp : Addr} {F H : Hp} {v : V} {a : D} (h : Bw K hp F H v a) : decide (v = .non) = isNone a := by
  rcases h with h | ⟨p, vs, xs, rfl, rfl, _⟩
  · cases h <;> rfl
  · rfl
def rIsA : R2 := fun x y H Q => (y = V.non ∧ Q (V.bl (decide (x = V.non))) H) ∨ rIsB x y H Q
def rNotA : R2 := fun x y H Q => (y = V.non ∧ Q (V.bl (!decide (x = V.non))) H) ∨ rNotB x y H Q
theorem op_isA {X : Cx} : OpR X (compareOp .Is) rIsA := op_isN.or op_isBl
theorem op_notA {X : Cx} : OpR X (compareOp .IsNot) rNotA := op_notN.or op_notBl
theorem p_is : OpP K rIsA dIs := by
  intro T hp F0 H0 F H s v w a b d Q G hv hw e q
  unfold dIs at e
  split at e
  · cases e
    refine .inl ⟨hw.none, ?_⟩
    rw [isNone_v hv]
    exact q F H _ G.refl (.bl _)
  · cases e
    exact .inr ⟨_, _, hv.bool, hw.bool, q F H _ G.refl (.bl _)⟩
  · cases e
theorem p_isNot : OpP K rNotA dIsNot := by
  intro T hp F0 H0 F H s v w a b d Q G hv hw e q
  unfold dIsNot at e
  split at e
  · cases e
    refine .inl ⟨hw.none, ?_⟩
    rw [isNone_v hv]
    exact q F H _ G.refl (.bl _)
  · cases e
    exact .inr ⟨_, _, hv.bool, hw.bool, q F H _ G.refl (.bl _)⟩
  · cases e
theorem p_neg : UnP K (rU fun i => .int (-i)) dNeg := by
  intro T hp F0 H0 F H s v a d Q G hv e q
  unfold dNeg at e
  split at e
  · cases e
    rw [hv.int]
    exact ⟨_, rfl, q F H _ G.refl (.int _)⟩
  · cases e
theorem atI_map {α : Type} {xs : List α} {i : Int} {d : α} (e : atI xs i = some d) : ∃ j : Nat, ixN xs.length i = some j ∧ xs[j]? = some d := by
  unfold atI at e
  cases h : ixN xs.length i with
  | none => rw [h] at e; cases e
  | some j => rw [h] at e; exact ⟨j, rfl, e⟩
theorem RpAll.atI {H : Hp} {vs : List V} {ds : List D} {i : Int} {d : D} (h : RpAll K H vs ds) (e : L2.atI ds i = some d) : ∃ v, L2.atI vs i = some v ∧ Rp K H v d := by
  obtain ⟨j, h1, h2⟩ := atI_map e
  obtain ⟨v, h3, h4⟩ := h.at h2
  refine ⟨v, ?_, h4⟩
  unfold L2.atI
  rw [h.len, h1]
  exact h3
theorem p_ix : OpP K (rIx K) dIx := by
  intro T hp F0 H0 F H s v w a b d Q G hv hw e q
  unfold dIx at e
  split at e
  · obtain ⟨p1, vs1, rfl, h1, r1⟩ := hv.list G.sub
    rw [hw.int]
    obtain ⟨u, h2, h3⟩ := r1.atI e
    exact .inl ⟨p1, vs1, _, u, rfl, rfl, .inl (.inl h1), h2, q F H _ G.refl h3⟩
  · obtain ⟨p1, vs1, rfl, h1, r1⟩ := hv.tuple
    rw [hw.int]
    obtain ⟨u, h2, h3⟩ := r1.atI e
    exact .inr (.inl ⟨p1, vs1, _, u, rfl, rfl, St.up G.sub h1, h2, q F H _ G.refl h3⟩)
  · split at e
    · rename_i z i hz
      rw [hv.str, hw.int]
      cases h : atI z.cps.toList i with
      | none => rw [h] at e; cases e
      | some c =>
        rw [h] at e
        cases e
        exact .inr (.inr ⟨z, i, c, rfl, rfl, by rw [sizeLine_eq]; exact hz, h, q F H _ G.refl (.str _)⟩)
    · cases e
  · cases e
end
end Jw
namespace Jw
open PySem PySem.Spec PyProof.Rows L2
/-! ### expressions -/
section
variable (X : Cx) (T : List (Addr × Str)) (EX : String → Hp → Prop)
def DE (e : Expr) (f : Rho → M D) : Prop := ∃ te, PE X e te ∧ EvE X.K T EX te f
def DB (e : Expr) (f : Rho → M D) : Prop := ∃ te, PE X e te ∧ EvB X.K T EX te f
def DL (e : Expr) (f : Rho → M (List D)) : Prop := ∃ te, PE X e te ∧ EvL X.K T EX te f
def DT (e : Expr) (f : Rho → M Bool) : Prop := ∃ tt, PT X e tt ∧ EvT X.K T EX tt f
def DW (e : Expr) (f : Rho → M Bool) : Prop := ∃ tt, PW X e tt ∧ EvT X.K T EX tt f
def DA (n : Nat) (es : List Expr) (f : Rho → M (List Sl)) : Prop := ∃ ta, PA X es ta ∧ ∀ {hp : Addr} {F0 H0 F H : Hp} {σ : L2.St} {ρ : Rho} {s : HS} {Q : List V → Hp → Prop}, Rel X.K T hp F0 H0 F H σ ρ s →
  Post (f ρ s) (fun as s' => ∀ F' H' vs, Grow X.K T hp F H F' H' s' → ArgsOk X.K hp F' vs as → vs.length = n → Q vs H') (WX X.K T hp F0 H0 EX) → ta σ H Q
/-- a display's parts: n of them -/
def DD (n : Nat) (es : List Expr) (f : Rho → M (List D)) : Prop := ∃ ta, PA X es ta ∧ ∀ {hp : Addr} {F0 H0 F H : Hp} {σ : L2.St} {ρ : Rho} {s : HS} {Q : List V → Hp → Prop}, Rel X.K T hp F0 H0 F H σ ρ s →
  Post (f ρ s) (fun ds s' => ∀ F' H' vs, Grow X.K T hp F H F' H' s' → RpAll X.K F' vs ds → vs.length = n → Q vs H') (WX X.K T hp F0 H0 EX) → ta σ H Q
end
section
variable {X : Cx} {T : List (Addr × Str)} {EX : String → Hp → Prop} {pos p : Pos}
theorem DE.b {e : Expr} {f : Rho → M D} (h : DE X T EX e f) : DB X T EX e f := let ⟨t, a, b⟩ := h; ⟨t, a, b.toB⟩
def fList (f : Rho → M (List D)) : Rho → M D := fun ρ => do
  let xs ← f ρ
  pure (.list xs)
theorem DL.e {e : Expr} {f : Rho → M (List D)} (h : DL X T EX e f) : DE X T EX e (fList f) := let ⟨t, a, b⟩ := h; ⟨t, a, b.toE⟩
theorem DL.b {e : Expr} {f : Rho → M (List D)} (h : DL X T EX e f) : DB X T EX e (fList f) := let ⟨t, a, b⟩ := h; ⟨t, a, b.toB⟩
theorem DW.t {e : Expr} {f : Rho → M Bool} (h : DW X T EX e f) : DT X T EX e f := let ⟨t, a, b⟩ := h; ⟨t, a.pt, b⟩
theorem de_int {i j} : DE X T EX (.Constant (.int i) j pos) (fun _ => pure (.int i)) := ⟨_, pe_int, ev_int i⟩
theorem de_bl {b j} : DE X T EX (.Constant (.bool b) j pos) (fun _ => pure (.bool b)) := ⟨_, pe_bl, ev_bl b⟩
theorem de_non {j} : DE X T EX (.Constant .none j pos) (fun _ => pure .none) := ⟨_, pe_non, ev_non⟩
theorem de_str {x j} : DE X T EX (.Constant (.str x) j pos) (fun _ => pure (.str x)) := ⟨_, pe_str, ev_str x⟩
theorem de_var (i : Nat) {x : Str} (hN : X.N[i]? = some x := by rfl) (hv : Vis X.env.scope x := by first | exact Or.inl rfl | exact Or.inr (Or.inl rfl) | exact Or.inr (Or.inr rfl)) (hd : (x == ("__debug__" : Str)) = false := by decide)
    (hcd : (x == ("__classdict__" : Str)) = false := by decide) : DE X T EX (.Name x pos) (rdat i) := ⟨_, pe_var hN hv hd hcd, ev_var i⟩
theorem db_var (i : Nat) {x : Str} (hN : X.N[i]? = some x := by rfl) (hv : Vis X.env.scope x := by first | exact Or.inl rfl | exact Or.inr (Or.inl rfl) | exact Or.inr (Or.inr rfl)) (hd : (x == ("__debug__" : Str)) = false := by decide)
    (hcd : (x == ("__classdict__" : Str)) = false := by decide) : DB X T EX (.Name x pos) (rany i) := ⟨_, pe_var hN hv hd hcd, evb_var i⟩
/-- a constant of the module -/
theorem de_glob {x : Str} {i : Int} {u : Tok} (hg : Gl X x) (hm : X.mg x = some (.int i u)) (hd : (x == ("__debug__" : Str)) = false := by decide) : DE X T EX (.Name x pos) (fun _ => pure (.int i)) := ⟨_, pe_glob (v := .int i) hg hm ⟨u, rfl⟩ hd, ev_int i⟩
theorem de_op {a b : Expr} {op : Operator} {fa fb : Rho → M D} {r : R2} {h : D → D → Option D} (ho : OpR X (binaryOp op) r) (hr : OpP X.K r h) (ha : DB X T EX a fa) (hb : DB X T EX b fb) : DE X T EX (.BinOp a op b pos) (f2 h fa fb) :=
  let ⟨_, a1, a2⟩ := ha; let ⟨_, b1, b2⟩ := hb; ⟨_, pe_op ho a1 b1, ev_op a2 b2 hr⟩
theorem dl_op {a b : Expr} {op : Operator} {fa fb : Rho → M D} {r : R2} {h : D → D → Option (List D)} (ho : OpR X (binaryOp op) r) (hr : OpN X.K r h) (ha : DB X T EX a fa) (hb : DB X T EX b fb) : DL X T EX (.BinOp a op b pos) (f2L h fa fb) :=
  let ⟨_, a1, a2⟩ := ha; let ⟨_, b1, b2⟩ := hb; ⟨_, pe_op ho a1 b1, evl_op a2 b2 hr⟩
theorem de_add {a b : Expr} {fa fb : Rho → M D} (ha : DB X T EX a fa) (hb : DB X T EX b fb) : DE X T EX (.BinOp a .Add b pos) (f2 dAdd fa fb) := de_op o_add p_add ha hb
theorem dl_add {a b : Expr} {fa fb : Rho → M D} (ha : DB X T EX a fa) (hb : DB X T EX b fb) : DL X T EX (.BinOp a .Add b pos) (f2L dAddL fa fb) := dl_op o_add p_addL ha hb
theorem de_sub {a b : Expr} {fa fb : Rho → M D} (ha : DB X T EX a fa) (hb : DB X T EX b fb) : DE X T EX (.BinOp a .Sub b pos) (f2 dSub fa fb) := de_op op_sub p_sub ha hb
theorem de_mul {a b : Expr} {fa fb : Rho → M D} (ha : DB X T EX a fa) (hb : DB X T EX b fb) : DE X T EX (.BinOp a .Mult b pos) (f2 dMul fa fb) := de_op o_mul p_mul ha hb
theorem dl_mul {a b : Expr} {fa fb : Rho → M D} (ha : DB X T EX a fa) (hb : DB X T EX b fb) : DL X T EX (.BinOp a .Mult b pos) (f2L dMulL fa fb) := dl_op o_mul p_mulL ha hb
theorem de_div {a b : Expr} {fa fb : Rho → M D} (ha : DB X T EX a fa) (hb : DB X T EX b fb) : DE X T EX (.BinOp a .FloorDiv b pos) (f2 dDiv fa fb) := de_op op_fdivW p_div ha hb
theorem de_mod {a b : Expr} {fa fb : Rho → M D} (ha : DB X T EX a fa) (hb : DB X T EX b fb) : DE X T EX (.BinOp a .Mod b pos) (f2 dMod fa fb) := de_op op_modN p_mod ha hb
theorem de_neg {a : Expr} {fa : Rho → M D} (ha : DB X T EX a fa) : DE X T EX (.UnaryOp .USub a pos) (f1 dNeg fa) := let ⟨_, a1, a2⟩ := ha; ⟨_, pe_un un_neg a1, ev_un a2 p_neg⟩
theorem de_cmp {a b : Expr} {op : CmpOp} {fa fb : Rho → M D} {r : R2} {h : D → D → Option D} (ho : OpR X (compareOp op) r) (hr : OpP X.K r h) (hm : behindInMarks op b = false) (ha : DB X T EX a fa) (hb : DB X T EX b fb) : DE X T EX (.Compare a [op] [b] pos) (f2 h fa fb) :=
  let ⟨_, a1, a2⟩ := ha; let ⟨_, b1, b2⟩ := hb; ⟨_, pe_cmpR ho a1 b1 hm, ev_op a2 b2 hr⟩
theorem de_lt {a b : Expr} {fa fb : Rho → M D} (ha : DB X T EX a fa) (hb : DB X T EX b fb) : DE X T EX (.Compare a [.Lt] [b] pos) (f2 dLt fa fb) := de_cmp op_lt p_lt (nomark _) ha hb
theorem de_le {a b : Expr} {fa fb : Rho → M D} (ha : DB X T EX a fa) (hb : DB X T EX b fb) : DE X T EX (.Compare a [.LtE] [b] pos) (f2 dLe fa fb) := de_cmp op_le p_le (nomark _) ha hb
theorem de_gt {a b : Expr} {fa fb : Rho → M D} (ha : DB X T EX a fa) (hb : DB X T EX b fb) : DE X T EX (.Compare a [.Gt] [b] pos) (f2 dGt fa fb) := de_cmp op_gt p_gt (nomark _) ha hb
theorem de_ge {a b : Expr} {fa fb : Rho → M D} (ha : DB X T EX a fa) (hb : DB X T EX b fb) : DE X T EX (.Compare a [.GtE] [b] pos) (f2 dGe fa fb) := de_cmp op_ge p_ge (nomark _) ha hb
theorem de_eq {a b : Expr} {fa fb : Rho → M D} (hu : X.A.units + 64 < cLine) (ha : DB X T EX a fa) (hb : DB X T EX b fb) : DE X T EX (.Compare a [.Eq] [b] pos) (f2 dEq fa fb) := de_cmp (op_eqD hu) p_eq (nomark _) ha hb
theorem de_ne {a b : Expr} {fa fb : Rho → M D} (hu : X.A.units + 64 < cLine) (ha : DB X T EX a fa) (hb : DB X T EX b fb) : DE X T EX (.Compare a [.NotEq] [b] pos) (f2 dNe fa fb) := de_cmp (op_neD hu) p_ne (nomark _) ha hb
theorem de_is {a b : Expr} {fa fb : Rho → M D} (ha : DB X T EX a fa) (hb : DB X T EX b fb) : DE X T EX (.Compare a [.Is] [b] pos) (f2 dIs fa fb) := de_cmp op_isA p_is (nomark _) ha hb
theorem de_isNot {a b : Expr} {fa fb : Rho → M D} (ha : DB X T EX a fa) (hb : DB X T EX b fb) : DE X T EX (.Compare a [.IsNot] [b] pos) (f2 dIsNot fa fb) := de_cmp op_notA p_isNot (nomark _) ha hb
theorem de_ix {a b : Expr} {fa fb : Rho → M D} (ha : DB X T EX a fa) (hb : DB X T EX b fb) (hs : PlainIx b := by exact fun _ _ => rfl) : DE X T EX (.Subscript a b pos) (f2 dIx fa fb) :=
  let ⟨_, a1, a2⟩ := ha; let ⟨_, b1, b2⟩ := hb; ⟨_, pe_ix ix_seq a1 b1 hs, ev_op a2 b2 p_ix⟩
/-- a < b < c: b once -/
def fChain (h h' : D → D → Option D) (fa fb fc : Rho → M D) : Rho → M D := fun ρ => do
  let a ← fa ρ
  let b ← fb ρ
  let z ← O.lift (h a b)
  match z with
  | .bool true => do
    let c ← fc ρ
    O.lift (h' b c)
  | .bool false => pure (.bool false)
  | _ => M.bad
theorem ev_chain {K : PySem.W.Frag} {ta tb tc : TE} {fa fb fc : Rho → M D} {r r' : R2} {h h' : D → D → Option D} (hr : OpP K r h) (hr' : OpP K r' h') (a2 : EvB K T EX ta fa) (b2 : EvB K T EX tb fb) (c2 : EvB K T EX tc fc) : EvE K T EX (tChain r r' ta tb tc) (fChain h h' fa fb fc) := fun R p => by
  refine a2 R (p.bind.mono fun va s1 k1 F1 H1 v g1 w1 => b2 (R.grow g1) (k1.bind.mono fun vb s2 k2 F2 H2 w g2 w2 => ?_))
  obtain ⟨d, e, k3⟩ := k2.bind.lift
  refine hr ((R.grow g1).grow g2).g (w1.grow g2) w2 e fun F3 H3 u g3 r3 => ?_
  cases d with
  | bool k =>
    cases r3
    refine ⟨k, rfl, ?_⟩
    cases k with
    | true =>
      rw [if_pos rfl]
      refine c2 (((R.grow g1).grow g2).grow g3) (k3.bind.mono fun vc s4 k4 F4 H4 z g4 w4 => ?_)
      obtain ⟨d', e', k5⟩ := k4.lift
      exact hr' ((((R.grow g1).grow g2).grow g3).grow g4).g ((w2.grow g3).grow g4) w4 e' fun F5 H5 u g5 r5 => k5 F5 H5 u (((g1.trans (g2.trans g3)).trans g4).trans g5) r5
    | false =>
      rw [if_neg Bool.false_ne_true]
      exact k3.ret F3 H3 _ ((g1.trans g2).trans g3) (.bl false)
  | none => exact k3.elim
  | int _ => exact k3.elim
  | str _ => exact k3.elim
  | list _ => exact k3.elim
  | tuple _ => exact k3.elim
  | dict _ => exact k3.elim
theorem de_chain {a b c : Expr} {op op' : CmpOp} {fa fb fc : Rho → M D} {r r' : R2} {h h' : D → D → Option D} (ho : OpR X (compareOp op) r) (ho' : OpR X (compareOp op') r') (hr : OpP X.K r h) (hr' : OpP X.K r' h')
    (ha : DB X T EX a fa) (hb : DB X T EX b fb) (hc : DB X T EX c fc) (hm : lastMarks [op, op'] [b, c] = false := by rfl) : DE X T EX (.Compare a [op, op'] [b, c] pos) (fChain h h' fa fb fc) :=
  let ⟨_, a1, a2⟩ := ha
  let ⟨_, b1, b2⟩ := hb
  let ⟨_, c1, c2⟩ := hc
  ⟨_, pe_chain ho ho' a1 b1 c1 hm, ev_chain hr hr' a2 b2 c2⟩
/-! ### tests -/
def dBool : D → Option Bool
  | .bool b => some b
  | _ => none
def fTest (fa : Rho → M D) : Rho → M Bool := fun ρ => do
  let a ← fa ρ
  O.lift (dBool a)
theorem dBool_is {d : D} {b : Bool} (h : dBool d = some b) : d = .bool b := by
  cases d with
  | bool k => cases h; rfl
  | _ => cases h
theorem dt_val {e : Expr} {fa : Rho → M D} (ha : DB X T EX e fa) (he : ∀ whole, isTrue e X.env whole = (do let v ← whole; standAt e.pos; holding [v] (truthy v)) := by exact fun _ => rfl) : DT X T EX e (fTest fa) := by
  obtain ⟨_, a1, a2⟩ := ha
  refine ⟨_, pt_val a1 he, fun R p => a2 R (p.bind.mono fun d s1 k1 F1 H1 v g1 w1 => ?_)⟩
  obtain ⟨b, e, k⟩ := k1.lift
  cases dBool_is e
  exact ⟨b, w1.bool, k F1 H1 g1⟩
def fNotT (f : Rho → M Bool) : Rho → M Bool := fun ρ => do
  let a ← f ρ
  pure (!a)
theorem dt_not {a : Expr} {f : Rho → M Bool} (h : DT X T EX a f) : DT X T EX (.UnaryOp .Not a pos) (fNotT f) := let ⟨_, a1, a2⟩ := h; ⟨_, pt_not a1, fun R p => a2 R (p.bind.mono fun b s1 k F1 H1 g => k.ret F1 H1 g)⟩
def fAndT (f g : Rho → M Bool) : Rho → M Bool := fun ρ => do
  let a ← f ρ
  if a then g ρ else pure false
def fOrT (f g : Rho → M Bool) : Rho → M Bool := fun ρ => do
  let a ← f ρ
  if a then pure true else g ρ
theorem dw_and1 {a : Expr} {f : Rho → M Bool} (h : DT X T EX a f) : DW X T EX (.BoolOp .And [a] pos) f := let ⟨_, a1, a2⟩ := h; ⟨_, pw_and1 a1, a2⟩
theorem dw_or1 {a : Expr} {f : Rho → M Bool} (h : DT X T EX a f) : DW X T EX (.BoolOp .Or [a] pos) f := let ⟨_, a1, a2⟩ := h; ⟨_, pw_or1 a1, a2⟩
theorem dw_and {a b : Expr} {rest : List Expr} {f g : Rho → M Bool} (ha : DT X T EX a f) (hb : DW X T EX (.BoolOp .And (b :: rest) pos) g) : DW X T EX (.BoolOp .And (a :: b :: rest) pos) (fAndT f g) := by
  obtain ⟨_, a1, a2⟩ := ha
  obtain ⟨_, b1, b2⟩ := hb
  refine ⟨_, pw_and a1 b1, fun R p => a2 R (p.bind.mono fun c s1 k F1 H1 g1 => ?_)⟩
  cases c with
  | true =>
    rw [if_pos rfl]
    rw [if_pos rfl] at k
    exact b2 (R.grow g1) (k.mono fun b s2 k2 F2 H2 g2 => k2 F2 H2 (g1.trans g2))
  | false =>
    rw [if_neg Bool.false_ne_true]
    rw [if_neg Bool.false_ne_true] at k
    exact k.ret F1 H1 g1
theorem dw_or {a b : Expr} {rest : List Expr} {f g : Rho → M Bool} (ha : DT X T EX a f) (hb : DW X T EX (.BoolOp .Or (b :: rest) pos) g) : DW X T EX (.BoolOp .Or (a :: b :: rest) pos) (fOrT f g) := by
  obtain ⟨_, a1, a2⟩ := ha
  obtain ⟨_, b1, b2⟩ := hb
  refine ⟨_, pw_or a1 b1, fun R p => a2 R (p.bind.mono fun c s1 k F1 H1 g1 => ?_)⟩
  cases c with
  | true =>
    rw [if_pos rfl]
    rw [if_pos rfl] at k
    exact k.ret F1 H1 g1
  | false =>
    rw [if_neg Bool.false_ne_true]
    rw [if_neg Bool.false_ne_true] at k
    exact b2 (R.grow g1) (k.mono fun b s2 k2 F2 H2 g2 => k2 F2 H2 (g1.trans g2))
/-! ### and, or, not as values; the conditional expression -/
def fAndV (fa fb : Rho → M D) : Rho → M D := fun ρ => do
  let a ← fa ρ
  match a with
  | .bool true => fb ρ
  | .bool false => pure (.bool false)
  | _ => M.bad
def fOrV (fa fb : Rho → M D) : Rho → M D := fun ρ => do
  let a ← fa ρ
  match a with
  | .bool true => pure (.bool true)
  | .bool false => fb ρ
  | _ => M.bad
def dNot : D → Option D
  | .bool b => some (.bool (!b))
  | _ => none
theorem de_one {a : Expr} {op : BoolOp} {fa : Rho → M D} (h : DE X T EX a fa) : DE X T EX (.BoolOp op [a] pos) fa := let ⟨_, a1, a2⟩ := h; ⟨_, pe_one a1, a2⟩
theorem de_and {a b : Expr} {rest : List Expr} {fa fb : Rho → M D} (ha : DB X T EX a fa) (hb : DE X T EX (.BoolOp .And (b :: rest) pos) fb) : DE X T EX (.BoolOp .And (a :: b :: rest) pos) (fAndV fa fb) := by
  obtain ⟨_, a1, a2⟩ := ha
  obtain ⟨_, b1, b2⟩ := hb
  refine ⟨_, pe_and a1 b1, fun R p => a2 R (p.bind.mono fun d s1 k F1 H1 v g1 w1 => ?_)⟩
  cases d with
  | bool c =>
    refine ⟨c, w1.bool, ?_⟩
    cases c with
    | true =>
      rw [if_pos rfl]
      exact b2 (R.grow g1) (k.mono fun b s2 k2 F2 H2 u g2 r2 => k2 F2 H2 u (g1.trans g2) r2)
    | false =>
      rw [if_neg Bool.false_ne_true]
      exact k.ret F1 H1 _ g1 (.bl false)
  | none => exact k.elim
  | int _ => exact k.elim
  | str _ => exact k.elim
  | list _ => exact k.elim
  | tuple _ => exact k.elim
  | dict _ => exact k.elim
theorem de_or {a b : Expr} {rest : List Expr} {fa fb : Rho → M D} (ha : DB X T EX a fa) (hb : DE X T EX (.BoolOp .Or (b :: rest) pos) fb) : DE X T EX (.BoolOp .Or (a :: b :: rest) pos) (fOrV fa fb) := by
  obtain ⟨_, a1, a2⟩ := ha
  obtain ⟨_, b1, b2⟩ := hb
  refine ⟨_, pe_or a1 b1, fun R p => a2 R (p.bind.mono fun d s1 k F1 H1 v g1 w1 => ?_)⟩
  cases d with
  | bool c =>
    refine ⟨c, w1.bool, ?_⟩
    cases c with
    | true =>
      rw [if_pos rfl]
      exact k.ret F1 H1 _ g1 (.bl true)
    | false =>
      rw [if_neg Bool.false_ne_true]
      exact b2 (R.grow g1) (k.mono fun b s2 k2 F2 H2 u g2 r2 => k2 F2 H2 u (g1.trans g2) r2)
  | none => exact k.elim
  | int _ => exact k.elim
  | str _ => exact k.elim
  | list _ => exact k.elim
  | tuple _ => exact k.elim
  | dict _ => exact k.elim
theorem de_not {a : Expr} {fa : Rho → M D} (ha : DB X T EX a fa) : DE X T EX (.UnaryOp .Not a pos) (f1 dNot fa) := by
  obtain ⟨_, a1, a2⟩ := ha
  refine ⟨_, pe_not a1, fun R p => a2 R (p.bind.mono fun d s1 k F1 H1 v g1 w1 => ?_)⟩
  obtain ⟨d', e, k2⟩ := k.lift
  cases d with
  | bool c => cases e; exact ⟨c, w1.bool, k2 F1 H1 _ g1 (.bl _)⟩
  | _ => cases e
def fIf (t : Rho → M Bool) (fa fb : Rho → M D) : Rho → M D := fun ρ => do
  let c ← t ρ
  if c then fa ρ else fb ρ
theorem de_if {c a b : Expr} {t : Rho → M Bool} {fa fb : Rho → M D} (hc : DT X T EX c t) (ha : DE X T EX a fa) (hb : DE X T EX b fb) : DE X T EX (.IfExp c a b pos) (fIf t fa fb) := by
  obtain ⟨_, c1, c2⟩ := hc
  obtain ⟨_, a1, a2⟩ := ha
  obtain ⟨_, b1, b2⟩ := hb
  refine ⟨_, pe_ifExp c1 a1 b1, fun R p => c2 R (p.bind.mono fun c s1 k F1 H1 g1 => ?_)⟩
  cases c with
  | true =>
    rw [if_pos rfl]
    rw [if_pos rfl] at k
    exact a2 (R.grow g1) (k.mono fun b s2 k2 F2 H2 u g2 r2 => k2 F2 H2 u (g1.trans g2) r2)
  | false =>
    rw [if_neg Bool.false_ne_true]
    rw [if_neg Bool.false_ne_true] at k
    exact b2 (R.grow g1) (k.mono fun b s2 k2 F2 H2 u g2 r2 => k2 F2 H2 u (g1.trans g2) r2)
/-! ### displays, arguments -/
def dNil : Rho → M (List D) := fun _ => pure []
def dCons (fa : Rho → M D) (fr : Rho → M (List D)) : Rho → M (List D) := fun ρ => do
  let x ← fa ρ
  let xs ← fr ρ
  pure (x :: xs)
theorem dd_nil : DD X T EX 0 [] dNil := ⟨_, pa_nil, fun R p => p.ret _ _ [] R.g.refl .nil rfl⟩
theorem dd_cons {e : Expr} {es : List Expr} {n : Nat} {fa : Rho → M D} {fr : Rho → M (List D)} (ha : DE X T EX e fa) (hr : DD X T EX n es fr) (he : starEach (e :: es) X.env = (false, eval e X.env) :: starEach es X.env := by rfl) : DD X T EX (n + 1) (e :: es) (dCons fa fr) := by
  obtain ⟨_, a1, a2⟩ := ha
  obtain ⟨_, b1, b2⟩ := hr
  refine ⟨_, pa_cons a1 b1 he, fun R p => a2 R (p.bind.mono fun d s1 k F1 H1 v g1 w1 => ?_)⟩
  exact b2 (R.grow g1) (k.bind.mono fun ds s2 k2 F2 H2 vs g2 r2 hn => k2.ret F2 H2 (v :: vs) (g1.trans g2) (.cons (Rp.up g2.ff w1) r2) (congrArg Nat.succ hn))
def fTup (f : Rho → M (List D)) : Rho → M D := fun ρ => do
  let xs ← f ρ
  pure (.tuple xs)
theorem de_tup {es : List Expr} {n x1 : Nat} {f : Rho → M (List D)} (h : DD X T EX n es f) (hn : n ≤ 16777216 := by decide) : DE X T EX (.Tuple es x1 pos) (fTup f) := by
  obtain ⟨_, a1, a2⟩ := h
  refine ⟨_, pe_tup a1, fun R p => a2 R (p.bind.mono fun ds s1 k F1 H1 vs g1 r1 hl => ⟨by rw [hl, sizeLine_eq]; exact hn, fun q hq => ?_⟩)⟩
  refine k.ret _ _ _ (g1.trans ((R.grow g1).g.new hq)) (.tup (.inl (.inl upd_same)) (RpAll.up (fun x u z => ?_) r1))
  rw [upd_ne (ne_of_none (g1.sub _ _ z) hq)]
  exact z
theorem dl_lst {es : List Expr} {n : Nat} {f : Rho → M (List D)} (h : DD X T EX n es f) (hn : n ≤ 16777216 := by decide) : DL X T EX (.List es pos) f := by
  obtain ⟨_, a1, a2⟩ := h
  refine ⟨_, pe_lst a1, fun R p => a2 R (p.mono fun ds s1 k F1 H1 vs g1 r1 hl => ⟨by rw [hl, sizeLine_eq]; exact hn, fun q hq => ?_⟩)⟩
  exact k _ _ _ (g1.trans ((R.grow g1).g.newOwn hq)) (g1.newL (NewL.of (R.grow g1).g hq r1))
def aNil : Rho → M (List Sl) := fun _ => pure []
def aCons (fa : Rho → M D) (fr : Rho → M (List Sl)) : Rho → M (List Sl) := fun ρ => do
  let x ← fa ρ
  let xs ← fr ρ
  pure (.dat x :: xs)
def aHand (i : Nat) (fr : Rho → M (List Sl)) : Rho → M (List Sl) := fun ρ => match ρ[i]? with
  | some .hand => do
    let xs ← fr ρ
    pure (.hand :: xs)
  | _ => M.bad
theorem da_nil : DA X T EX 0 [] aNil := ⟨_, pa_nil, fun R p => p.ret _ _ [] R.g.refl .nil rfl⟩
theorem da_cons {e : Expr} {es : List Expr} {n : Nat} {fa : Rho → M D} {fr : Rho → M (List Sl)} (ha : DE X T EX e fa) (hr : DA X T EX n es fr) (he : starEach (e :: es) X.env = (false, eval e X.env) :: starEach es X.env := by rfl) : DA X T EX (n + 1) (e :: es) (aCons fa fr) := by
  obtain ⟨_, a1, a2⟩ := ha
  obtain ⟨_, b1, b2⟩ := hr
  refine ⟨_, pa_cons a1 b1 he, fun R p => a2 R (p.bind.mono fun d s1 k F1 H1 v g1 w1 => ?_)⟩
  exact b2 (R.grow g1) (k.bind.mono fun ds s2 k2 F2 H2 vs g2 r2 hn => k2.ret F2 H2 (v :: vs) (g1.trans g2) (.cons (Rp.up g2.ff w1) r2) (congrArg Nat.succ hn))
theorem da_hand (i : Nat) {x : Str} {es : List Expr} {n : Nat} {fr : Rho → M (List Sl)} (hr : DA X T EX n es fr) (hN : X.N[i]? = some x := by rfl) (hv : Vis X.env.scope x := by first | exact Or.inl rfl | exact Or.inr (Or.inl rfl) | exact Or.inr (Or.inr rfl)) (hd : (x == ("__debug__" : Str)) = false := by decide)
    (hcd : (x == ("__classdict__" : Str)) = false := by decide) (he : starEach (.Name x pos :: es) X.env = (false, eval (.Name x pos) X.env) :: starEach es X.env := by rfl) : DA X T EX (n + 1) (.Name x pos :: es) (aHand i fr) := by
  obtain ⟨_, b1, b2⟩ := hr
  refine ⟨_, pa_cons (pe_var hN hv hd hcd) b1 he, fun {hp F0 H0 F H σ ρ s Q} R p => ?_⟩
  unfold aHand at p
  cases q : ρ[i]? with
  | none => rw [q] at p; exact p.elim
  | some y =>
    rw [q] at p
    cases y with
    | hand =>
      exact ⟨.ref hp, R.sl i _ q, b2 R (p.bind.mono fun as s2 k2 F2 H2 vs g2 r2 hn => k2.ret F2 H2 _ g2 (.cons rfl r2) (congrArg Nat.succ hn))⟩
    | un => exact p.elim
    | own xs => exact p.elim
    | dat d => exact p.elim
end
end Jw
namespace Jw
open PySem PySem.Spec PyProof.Rows L2
/-! ### built-ins -/
def CallP1 (K : PySem.W.Frag) (r : List V → Hp → VK → Prop) (h : D → Option D) : Prop := ∀ {T : List (Addr × Str)} {hp : Addr} {F0 H0 F H : Hp} {s : HS} {v : V} {a d : D} {Q : VK}, Grow K T hp F0 H0 F H s → Bw K hp F H v a → h a = some d →
  (∀ F' H' u, Grow K T hp F H F' H' s → Rp K F' u d → Q u H') → r [v] H Q
def CallN1 (K : PySem.W.Frag) (r : List V → Hp → VK → Prop) (h : D → Option (List D)) : Prop := ∀ {T : List (Addr × Str)} {hp : Addr} {F0 H0 F H : Hp} {s : HS} {v : V} {a : D} {xs : List D} {Q : VK}, Grow K T hp F0 H0 F H s → Bw K hp F H v a → h a = some xs →
  (∀ F' H' p, Grow K T hp F H F' H' s → NewL K hp H F' H' p xs → Q (.ref p) H') → r [v] H Q
def CallP2 (K : PySem.W.Frag) (r : List V → Hp → VK → Prop) (h : D → D → Option D) : Prop := ∀ {T : List (Addr × Str)} {hp : Addr} {F0 H0 F H : Hp} {s : HS} {v w : V} {a b d : D} {Q : VK}, Grow K T hp F0 H0 F H s → Bw K hp F H v a → Bw K hp F H w b → h a b = some d →
  (∀ F' H' u, Grow K T hp F H F' H' s → Rp K F' u d → Q u H') → r [v, w] H Q
section
variable {X : Cx} {T : List (Addr × Str)} {EX : String → Hp → Prop} {pos p : Pos}
def f1L (h : D → Option (List D)) (fa : Rho → M D) : Rho → M (List D) := fun ρ => do
  let a ← fa ρ
  O.lift (h a)
theorem ev_call1 {ta : TE} {fa : Rho → M D} {r : List V → Hp → VK → Prop} {h : D → Option D} (ha : EvB X.K T EX ta fa) (hr : CallP1 X.K r h) : EvE X.K T EX (tCB r (tCons ta tNil)) (f1 h fa) := fun R p =>
  ha R (p.bind.mono fun a s1 k1 F1 H1 v g1 b1 => by
    obtain ⟨d, e, k⟩ := k1.lift
    exact hr (R.grow g1).g b1 e fun F' H' u g3 r3 => k F' H' u (g1.trans g3) r3)
theorem evl_call1 {ta : TE} {fa : Rho → M D} {r : List V → Hp → VK → Prop} {h : D → Option (List D)} (ha : EvB X.K T EX ta fa) (hr : CallN1 X.K r h) : EvL X.K T EX (tCB r (tCons ta tNil)) (f1L h fa) := fun R p =>
  ha R (p.bind.mono fun a s1 k1 F1 H1 v g1 b1 => by
    obtain ⟨d, e, k⟩ := k1.lift
    exact hr (R.grow g1).g b1 e fun F' H' u g3 r3 => k F' H' u (g1.trans g3) (g1.newL r3))
theorem ev_call2 {ta tb : TE} {fa fb : Rho → M D} {r : List V → Hp → VK → Prop} {h : D → D → Option D} (ha : EvB X.K T EX ta fa) (hb : EvB X.K T EX tb fb) (hr : CallP2 X.K r h) : EvE X.K T EX (tCB r (tCons ta (tCons tb tNil))) (f2 h fa fb) := fun R p =>
  ha R (p.bind.mono fun a s1 k1 F1 H1 v g1 b1 => hb (R.grow g1) (k1.bind.mono fun b s2 k2 F2 H2 w g2 b2 => by
    obtain ⟨d, e, k⟩ := k2.lift
    exact hr ((R.grow g1).grow g2).g (b1.grow g2) b2 e fun F' H' u g3 r3 => k F' H' u ((g1.trans g2).trans g3) r3))
theorem de_b1 {x : Str} {id : String} {e : Expr} {fa : Rho → M D} {r : List V → Hp → VK → Prop} {h : D → Option D} (hc : CallR X (.builtin id) r) (hr : CallP1 X.K r h) (hv : bootBuiltins x = some (.builtin id)) (hn : x ≠ "__name__") (hd : (x == ("__debug__" : Str)) = false)
    (hg : Gl X x) (hm : X.mg x = none) (ha : DB X T EX e fa) (he : starEach [e] X.env = (false, eval e X.env) :: starEach [] X.env := by rfl) : DE X T EX (.Call (.Name x p) [e] [] pos) (f1 h fa) :=
  let ⟨_, a1, a2⟩ := ha; ⟨_, pe_callB hc hg hm hv (pa_cons a1 pa_nil he) hn hd he rfl, ev_call1 a2 hr⟩
theorem de_b2 {x : Str} {id : String} {e e2 : Expr} {fa fb : Rho → M D} {r : List V → Hp → VK → Prop} {h : D → D → Option D} (hc : CallR X (.builtin id) r) (hr : CallP2 X.K r h) (hv : bootBuiltins x = some (.builtin id)) (hn : x ≠ "__name__") (hd : (x == ("__debug__" : Str)) = false)
    (hg : Gl X x) (hm : X.mg x = none) (ha : DB X T EX e fa) (hb : DB X T EX e2 fb) (he : starEach [e, e2] X.env = (false, eval e X.env) :: starEach [e2] X.env := by rfl) (he2 : starEach [e2] X.env = (false, eval e2 X.env) :: starEach [] X.env := by rfl)
    (hpl : (backTo pos (starEach [e2] X.env)).any (·.1) = false := by rfl) : DE X T EX (.Call (.Name x p) [e, e2] [] pos) (f2 h fa fb) :=
  let ⟨_, a1, a2⟩ := ha; let ⟨_, b1, b2⟩ := hb; ⟨_, pe_callB hc hg hm hv (pa_cons a1 (pa_cons b1 pa_nil he2) he) hn hd he hpl, ev_call2 a2 b2 hr⟩
theorem de_ty1 {x : Str} {id : String} {e : Expr} {fa : Rho → M D} {r : List V → Hp → VK → Prop} {h : D → Option D} (hc : CallR X (.type id) r) (hr : CallP1 X.K r h) (hv : bootBuiltins x = some (.type id)) (hn : x ≠ "__name__") (hd : (x == ("__debug__" : Str)) = false)
    (hg : Gl X x) (hm : X.mg x = none) (ha : DB X T EX e fa) (he : starEach [e] X.env = (false, eval e X.env) :: starEach [] X.env := by rfl) : DE X T EX (.Call (.Name x p) [e] [] pos) (f1 h fa) :=
  let ⟨_, a1, a2⟩ := ha; ⟨_, pe_callTy hc hg hm hv (pa_cons a1 pa_nil he) hn hd he rfl, ev_call1 a2 hr⟩
theorem dl_ty1 {x : Str} {id : String} {e : Expr} {fa : Rho → M D} {r : List V → Hp → VK → Prop} {h : D → Option (List D)} (hc : CallR X (.type id) r) (hr : CallN1 X.K r h) (hv : bootBuiltins x = some (.type id)) (hn : x ≠ "__name__") (hd : (x == ("__debug__" : Str)) = false)
    (hg : Gl X x) (hm : X.mg x = none) (ha : DB X T EX e fa) (he : starEach [e] X.env = (false, eval e X.env) :: starEach [] X.env := by rfl) : DL X T EX (.Call (.Name x p) [e] [] pos) (f1L h fa) :=
  let ⟨_, a1, a2⟩ := ha; ⟨_, pe_callTy hc hg hm hv (pa_cons a1 pa_nil he) hn hd he rfl, evl_call1 a2 hr⟩
theorem dl_b1 {x : Str} {id : String} {e : Expr} {fa : Rho → M D} {r : List V → Hp → VK → Prop} {h : D → Option (List D)} (hc : CallR X (.builtin id) r) (hr : CallN1 X.K r h) (hv : bootBuiltins x = some (.builtin id)) (hn : x ≠ "__name__") (hd : (x == ("__debug__" : Str)) = false)
    (hg : Gl X x) (hm : X.mg x = none) (ha : DB X T EX e fa) (he : starEach [e] X.env = (false, eval e X.env) :: starEach [] X.env := by rfl) : DL X T EX (.Call (.Name x p) [e] [] pos) (f1L h fa) :=
  let ⟨_, a1, a2⟩ := ha; ⟨_, pe_callB hc hg hm hv (pa_cons a1 pa_nil he) hn hd he rfl, evl_call1 a2 hr⟩
end
/-! the functions over data -/
def dAbs : D → Option D
  | .int i => some (.int (if i < 0 then -i else i))
  | _ => none
def dMax2 : D → D → Option D
  | .int i, .int j => some (.int (if j > i then j else i))
  | _, _ => none
def dMin2 : D → D → Option D
  | .int i, .int j => some (.int (if j < i then j else i))
  | _, _ => none
def dInt : D → Option D
  | .int i => some (.int i)
  | .bool b => some (.int (if b then 1 else 0))
  | _ => none
def dListL : D → Option (List D)
  | .list xs => some xs
  | .tuple xs => some xs
  | _ => none
def dTuple : D → Option D
  | .list xs => some (.tuple xs)
  | .tuple xs => some (.tuple xs)
  | _ => none
def dBools : List D → Option (List Bool)
  | [] => some []
  | .bool b :: r => (dBools r).map (b :: ·)
  | _ => none
def dInts : List D → Option (List Int)
  | [] => some []
  | .int b :: r => (dInts r).map (b :: ·)
  | _ => none
def dAll : D → Option D
  | .list xs => (dBools xs).map fun bs => .bool (bs.all id)
  | _ => none
def dAny : D → Option D
  | .list xs => (dBools xs).map fun bs => .bool (bs.any id)
  | _ => none
def dSum : D → Option D
  | .list xs => (dInts xs).map fun ns => .int ns.sum
  | _ => none
def alikeB (xs : List D) : Bool := (xs.all fun x => xs.all fun y => PySem.W.alike x y) && xs.all fun x => !isNone x
def dMinL : D → Option D
  | .list (x :: xs) => if alikeB (x :: xs) = true ∧ PyData.depthAll (x :: xs) ≤ 64 then some (PySem.W.minD x xs) else none
  | _ => none
def tyN : D → String
  | .none => "NoneType"
  | .bool _ => "bool"
  | .int _ => "int"
  | .str _ => "str"
  | .list _ => "list"
  | .tuple _ => "tuple"
  | .dict _ => "dict"
def dIsi (T : String) (d : D) : Option D := (kitB (tyN d) T).map .bool
section
variable {K : PySem.W.Frag}
theorem RpAll.boolsV {H : Hp} : ∀ {vs : List V} {ds : List D} {bs : List Bool}, RpAll K H vs ds → dBools ds = some bs → vs = bs.map V.bl
  | _, _, _, .nil, e => by cases e; rfl
  | _, _, _, .cons (d := d) (ds := ds) h a, e => by
    cases h with
    | bl b =>
      unfold Jw.dBools at e
      cases q : Jw.dBools ds with
      | none => rw [q] at e; cases e
      | some cs =>
        rw [q] at e
        cases e
        rw [RpAll.boolsV a q]
        rfl
    | _ => cases e
theorem RpAll.intsV {H : Hp} : ∀ {vs : List V} {ds : List D} {bs : List Int}, RpAll K H vs ds → dInts ds = some bs → vs = bs.map V.int
  | _, _, _, .nil, e => by cases e; rfl
  | _, _, _, .cons (d := d) (ds := ds) h a, e => by
    cases h with
    | int b =>
      unfold Jw.dInts at e
      cases q : Jw.dInts ds with
      | none => rw [q] at e; cases e
      | some cs =>
        rw [q] at e
        cases e
        rw [RpAll.intsV a q]
        rfl
    | _ => cases e
theorem c_abs : CallP1 K (fun xs H Q => ∃ i, xs = [V.int i] ∧ Q (V.int (if i < 0 then -i else i)) H) dAbs := by
  intro T hp F0 H0 F H s v a d Q G hv e q
  cases a <;> cases e
  rw [hv.int]
  exact ⟨_, rfl, q F H _ G.refl (.int _)⟩
theorem c_max2 : CallP2 K (fun xs H Q => ∃ i j, xs = [V.int i, V.int j] ∧ Q (V.int (if j > i then j else i)) H) dMax2 := by
  intro T hp F0 H0 F H s v w a b d Q G hv hw e q
  unfold dMax2 at e
  split at e
  · cases e
    rw [hv.int, hw.int]
    exact ⟨_, _, rfl, q F H _ G.refl (.int _)⟩
  · cases e
theorem c_min2 : CallP2 K (fun xs H Q => ∃ i j, xs = [V.int i, V.int j] ∧ Q (V.int (if j < i then j else i)) H) dMin2 := by
  intro T hp F0 H0 F H s v w a b d Q G hv hw e q
  unfold dMin2 at e
  split at e
  · cases e
    rw [hv.int, hw.int]
    exact ⟨_, _, rfl, q F H _ G.refl (.int _)⟩
  · cases e
theorem c_int : CallP1 K (fun xs H Q => (∃ i, xs = [V.int i] ∧ Q (V.int i) H) ∨ ∃ k, xs = [V.bl k] ∧ Q (V.int (if k = true then 1 else 0)) H) dInt := by
  intro T hp F0 H0 F H s v a d Q G hv e q
  cases a <;> cases e
  · rw [hv.bool]
    exact .inr ⟨_, rfl, q F H _ G.refl (.int _)⟩
  · rw [hv.int]
    exact .inl ⟨_, rfl, q F H _ G.refl (.int _)⟩
theorem c_len : CallP1 K (fun xs H Q => ∃ x n, xs = [x] ∧ LenV K x H n ∧ Q (V.int n) H) dLen := by
  intro T hp F0 H0 F H s v a d Q G hv e q
  unfold dLen at e
  split at e
  · cases e
    obtain ⟨p1, vs1, rfl, h1, r1⟩ := hv.list G.sub
    refine ⟨_, _, rfl, .inl ⟨vs1, .inl (.inl h1), rfl⟩, ?_⟩
    rw [r1.len]
    exact q F H _ G.refl (.int _)
  · cases e
    obtain ⟨p1, vs1, rfl, h1, r1⟩ := hv.tuple
    refine ⟨_, _, rfl, .inr ⟨vs1, St.up G.sub h1, rfl⟩, ?_⟩
    rw [r1.len]
    exact q F H _ G.refl (.int _)
  · split at e
    · cases e
      rename_i hz
      rw [hv.str]
      exact ⟨_, _, rfl, ⟨by rw [sizeLine_eq]; exact hz, rfl⟩, q F H _ G.refl (.int _)⟩
    · cases e
  · cases e
theorem c_list : CallN1 K (fun xs H Q => ∃ p ys, xs = [V.ref p] ∧ (SqL K H p ys ∨ SqT K H p ys) ∧ ∀ l, H l = none → Q (V.ref l) (upd H l (.lst ys))) dListL := by
  intro T hp F0 H0 F H s v a xs Q G hv e q
  unfold dListL at e
  split at e
  · cases e
    obtain ⟨p1, vs1, rfl, h1, r1⟩ := hv.list G.sub
    exact ⟨p1, vs1, rfl, .inl (.inl (.inl h1)), fun l hn => q _ _ _ (G.newOwn hn) (NewL.of G hn r1)⟩
  · cases e
    obtain ⟨p1, vs1, rfl, h1, r1⟩ := hv.tuple
    exact ⟨p1, vs1, rfl, .inr (St.up G.sub h1), fun l hn => q _ _ _ (G.newOwn hn) (NewL.of G hn r1)⟩
  · cases e
theorem c_tuple : CallP1 K (fun xs H Q => ∃ p ys, xs = [V.ref p] ∧ ((SqL K H p ys ∧ ∀ l, H l = none → Q (V.ref l) (upd H l (.tup ys))) ∨ SqT K H p ys ∧ Q (V.ref p) H)) dTuple := by
  intro T hp F0 H0 F H s v a xs Q G hv e q
  unfold dTuple at e
  split at e
  · cases e
    obtain ⟨p1, vs1, rfl, h1, r1⟩ := hv.list G.sub
    refine ⟨p1, vs1, rfl, .inl ⟨.inl (.inl h1), fun l hn => q _ _ _ (G.new hn) (.tup (.inl (.inl upd_same)) (RpAll.up (fun x u z => ?_) r1))⟩⟩
    rw [upd_ne (ne_of_none (G.sub _ _ z) hn)]
    exact z
  · cases e
    obtain ⟨p1, vs1, rfl, h1, r1⟩ := hv.tuple
    exact ⟨p1, vs1, rfl, .inr ⟨St.up G.sub h1, q F H _ G.refl (.tup h1 r1)⟩⟩
  · cases e
theorem map_some {α β : Type} {f : α → β} {o : Option α} {b : β} (h : o.map f = some b) : ∃ a, o = some a ∧ f a = b := by
  cases o with
  | none => cases h
  | some a => cases h; exact ⟨a, rfl, rfl⟩
theorem c_all : CallP1 K (rAll K) dAll := by
  intro T hp F0 H0 F H s v a d Q G hv e q
  cases a with
  | list xs =>
    obtain ⟨bs, e1, rfl⟩ := map_some e
    obtain ⟨p1, vs1, rfl, h1, r1⟩ := hv.list G.sub
    cases r1.boolsV e1
    exact ⟨p1, bs, rfl, .inl (.inl h1), q F H _ G.refl (.bl _)⟩
  | _ => cases e
theorem c_any : CallP1 K (rAny K) dAny := by
  intro T hp F0 H0 F H s v a d Q G hv e q
  cases a with
  | list xs =>
    obtain ⟨bs, e1, rfl⟩ := map_some e
    obtain ⟨p1, vs1, rfl, h1, r1⟩ := hv.list G.sub
    cases r1.boolsV e1
    exact ⟨p1, bs, rfl, .inl (.inl h1), q F H _ G.refl (.bl _)⟩
  | _ => cases e
theorem c_sum : CallP1 K (rSum K) dSum := by
  intro T hp F0 H0 F H s v a d Q G hv e q
  cases a with
  | list xs =>
    obtain ⟨bs, e1, rfl⟩ := map_some e
    obtain ⟨p1, vs1, rfl, h1, r1⟩ := hv.list G.sub
    cases r1.intsV e1
    exact ⟨p1, bs, rfl, .inl (.inl h1), q F H _ G.refl (.int _)⟩
  | _ => cases e
/-- isinstance(x, T) -/
theorem ty_of {hp : Addr} {F H : Hp} {v : V} {a : D} (h : Bw K hp F H v a) (e : ∀ a o, F a = some o → H a = some o) : TyX K H v (.type (tyN a)) := by
  rcases h with h | ⟨p, vs, xs, rfl, rfl, h1, _⟩
  · cases h with
    | non => exact .base .non
    | bl b => exact .base (.bl b)
    | int i => exact .base (.int i)
    | str x => exact .base (.str x)
    | lst h1 _ => exact .base (.lst (e _ _ h1))
    | dct h1 => exact .base (.dK (e _ _ h1))
    | tup h1 _ =>
      rcases h1 with (h1 | ⟨o, h1⟩) | ⟨o, its, n, h1, h2, h3⟩
      · exact .base (.tup (e _ _ h1))
      · exact .fTuple (e _ _ h1)
      · exact .kTuple h1 h2
  · exact .base (.lst h1)
end
end Jw
namespace Jw
open PySem PySem.Spec PyProof.Rows L2
section
variable {X : Cx} {T : List (Addr × Str)} {EX : String → Hp → Prop} {pos p p2 : Pos}
/-! ### isinstance -/
theorem de_isi {x Tx : Str} {Tn : String} {e : Expr} {fa : Rho → M D} (hx : bootBuiltins x = some (.builtin "isinstance")) (hn : x ≠ "__name__") (hd : (x == ("__debug__" : Str)) = false)
    (hT : bootBuiltins Tx = some (.type Tn)) (hTn : Tx ≠ "__name__") (hTd : (Tx == ("__debug__" : Str)) = false) (hg : Gl X x) (hm : X.mg x = none) (hgT : Gl X Tx) (hmT : X.mg Tx = none) (ha : DB X T EX e fa)
    (he : starEach [e, .Name Tx p2] X.env = (false, eval e X.env) :: starEach [.Name Tx p2] X.env := by rfl) : DE X T EX (.Call (.Name x p) [e, .Name Tx p2] [] pos) (f1 (dIsi Tn) fa) := by
  obtain ⟨_, a1, a2⟩ := ha
  refine ⟨_, pe_callB call_isi hg hm hx (pa_cons a1 (pa_cons (pe_bltn (v := .ty Tn) hgT hmT hT rfl hTn hTd) pa_nil) he) hn hd he rfl, fun R q => a2 R (q.bind.mono fun d s1 k F1 H1 v g1 w1 => ?_)⟩
  obtain ⟨d', e', k2⟩ := k.lift
  obtain ⟨b, e2, rfl⟩ := map_some e'
  exact ⟨v, .ty Tn, _, .type Tn, b, rfl, .ty Tn, ty_of w1 g1.sub, kit_ty e2, k2 F1 H1 _ g1 (.bl b)⟩
/-! ### slices -/
def cut {α : Type} (xs : List α) (lo hi : Option Int) : List α := (xs.drop (HT.sIx xs.length 0 lo)).take (HT.sIx xs.length xs.length hi - HT.sIx xs.length 0 lo)
def dSlice : D → Option Int → Option Int → Option D
  | .list xs, lo, hi => some (.list (cut xs lo hi))
  | .tuple xs, lo, hi => some (.tuple (cut xs lo hi))
  | _, _, _ => none
def dSliceL : D → Option Int → Option Int → Option (List D)
  | .list xs, lo, hi => some (cut xs lo hi)
  | _, _, _ => none
theorem RpAll.cut {K : PySem.W.Frag} {H : Hp} {vs : List V} {ds : List D} (h : RpAll K H vs ds) (lo hi : Option Int) : RpAll K H (cutV vs lo hi) (Jw.cut ds lo hi) := by
  unfold cutV Jw.cut
  rw [h.len]
  exact (h.drop _).take _
def rSlD (K : PySem.W.Frag) : V → Option Int → Option Int → Hp → VK → Prop := fun x lo hi H Q => rSlL K x lo hi H Q ∨ rSlA K x lo hi H Q
theorem sl_data : SlR X (rSlD X.K) := fun pins s σ H x v vl vu lo hi sl Q I r h1 h2 h3 h => h.elim (fun h => sl_list pins s σ H x v vl vu lo hi sl Q I r h1 h2 h3 h) fun h => sl_tupA pins s σ H x v vl vu lo hi sl Q I r h1 h2 h3 h
theorem whole_cut {α : Type} {xs : List α} {lo hi : Option Int} (h : HT.sIx xs.length 0 lo = 0 ∧ HT.sIx xs.length xs.length hi = xs.length) : cut xs lo hi = xs := by
  unfold cut
  rw [h.1, h.2]
  simp
theorem s_slice {K : PySem.W.Frag} {T : List (Addr × Str)} {hp : Addr} {F0 H0 F H : Hp} {s : HS} {v : V} {a d : D} {lo hi : Option Int} {Q : VK} (G : Grow K T hp F0 H0 F H s) (hv : Bw K hp F H v a) (e : dSlice a lo hi = some d)
    (q : ∀ F' H' u, Grow K T hp F H F' H' s → Rp K F' u d → Q u H') : rSlD K v lo hi H Q := by
  unfold dSlice at e
  split at e
  · cases e
    obtain ⟨p1, vs1, rfl, h1, r1⟩ := hv.list G.sub
    refine .inl ⟨p1, vs1, rfl, .inl (.inl h1), fun l hn => q _ _ _ (G.new hn) (.lst upd_same (RpAll.up (fun x u z => ?_) (r1.cut _ _)))⟩
    rw [upd_ne (ne_of_none (G.sub _ _ z) hn)]
    exact z
  · cases e
    obtain ⟨p1, vs1, rfl, h1, r1⟩ := hv.tuple
    refine .inr ⟨p1, vs1, rfl, St.up G.sub h1, fun hw => ?_, fun _ l hn => q _ _ _ (G.new hn) (.tup (.inl (.inl upd_same)) (RpAll.up (fun x u z => ?_) (r1.cut _ _)))⟩
    · rw [r1.len] at hw
      rw [whole_cut hw] at q
      exact q F H _ G.refl (.tup h1 r1)
    · rw [upd_ne (ne_of_none (G.sub _ _ z) hn)]
      exact z
  · cases e
theorem s_sliceL {K : PySem.W.Frag} {T : List (Addr × Str)} {hp : Addr} {F0 H0 F H : Hp} {s : HS} {v : V} {a : D} {xs : List D} {lo hi : Option Int} {Q : VK} (G : Grow K T hp F0 H0 F H s) (hv : Bw K hp F H v a) (e : dSliceL a lo hi = some xs)
    (q : ∀ F' H' p, Grow K T hp F H F' H' s → NewL K hp H F' H' p xs → Q (.ref p) H') : rSlD K v lo hi H Q := by
  unfold dSliceL at e
  split at e
  · cases e
    obtain ⟨p1, vs1, rfl, h1, r1⟩ := hv.list G.sub
    exact .inl ⟨p1, vs1, rfl, .inl (.inl h1), fun l hn => q _ _ _ (G.newOwn hn) (NewL.of G hn (r1.cut _ _))⟩
  · cases e
/-- a part of a slice -/
def DO (X : Cx) (T : List (Addr × Str)) (EX : String → Hp → Prop) (e : Option Expr) (f : Rho → M (Option Int)) : Prop := ∃ to, PO X e to ∧ ∀ {hp : Addr} {F0 H0 F H : Hp} {σ : L2.St} {ρ : Rho} {s : HS} {Q : Option Int → Hp → Prop}, Rel X.K T hp F0 H0 F H σ ρ s →
  Post (f ρ s) (fun b s' => ∀ F' H', Grow X.K T hp F H F' H' s' → Q b H') (WX X.K T hp F0 H0 EX) → to σ H Q
def dI : D → Option Int
  | .int i => some i
  | _ => none
theorem dI_is {d : D} {i : Int} (h : dI d = some i) : d = .int i := by
  cases d with
  | int k => cases h; rfl
  | _ => cases h
def oNone : Rho → M (Option Int) := fun _ => pure none
def oSome (fa : Rho → M D) : Rho → M (Option Int) := fun ρ => do
  let a ← fa ρ
  let i ← O.lift (dI a)
  pure (some i)
theorem do_none : DO X T EX none oNone := ⟨_, po_none, fun R q => q.ret _ _ R.g.refl⟩
theorem do_some {e : Expr} {fa : Rho → M D} (ha : DB X T EX e fa) : DO X T EX (some e) (oSome fa) := by
  obtain ⟨_, a1, a2⟩ := ha
  refine ⟨_, po_some a1, fun R q => a2 R (q.bind.mono fun d s1 k F1 H1 v g1 w1 => ?_)⟩
  obtain ⟨i, e1, k2⟩ := k.bind.lift
  cases dI_is e1
  exact ⟨i, w1.int, k2.ret F1 H1 g1⟩
def fSlice (fa : Rho → M D) (fl fh : Rho → M (Option Int)) : Rho → M D := fun ρ => do
  let a ← fa ρ
  let l ← fl ρ
  let h ← fh ρ
  O.lift (dSlice a l h)
def fSliceL (fa : Rho → M D) (fl fh : Rho → M (Option Int)) : Rho → M (List D) := fun ρ => do
  let a ← fa ρ
  let l ← fl ρ
  let h ← fh ρ
  O.lift (dSliceL a l h)
theorem de_slice {e : Expr} {lo hi : Option Expr} {fa : Rho → M D} {fl fh : Rho → M (Option Int)} (ha : DB X T EX e fa) (hl : DO X T EX lo fl) (hh : DO X T EX hi fh) : DE X T EX (.Subscript e (.Slice lo hi none p2) pos) (fSlice fa fl fh) := by
  obtain ⟨_, a1, a2⟩ := ha
  obtain ⟨_, l1, l2⟩ := hl
  obtain ⟨_, h1, h2⟩ := hh
  refine ⟨_, pe_slice sl_data a1 l1 h1, fun R q => a2 R (q.bind.mono fun d s1 k1 F1 H1 v g1 w1 => l2 (R.grow g1) (k1.bind.mono fun l s2 k2 F2 H2 g2 => h2 ((R.grow g1).grow g2) (k2.bind.mono fun h s3 k3 F3 H3 g3 => ?_)))⟩
  obtain ⟨d', e', k4⟩ := k3.lift
  exact s_slice (((R.grow g1).grow g2).grow g3).g ((w1.grow g2).grow g3) e' fun F' H' u g4 r4 => k4 F' H' u (((g1.trans g2).trans g3).trans g4) r4
theorem dl_slice {e : Expr} {lo hi : Option Expr} {fa : Rho → M D} {fl fh : Rho → M (Option Int)} (ha : DB X T EX e fa) (hl : DO X T EX lo fl) (hh : DO X T EX hi fh) : DL X T EX (.Subscript e (.Slice lo hi none p2) pos) (fSliceL fa fl fh) := by
  obtain ⟨_, a1, a2⟩ := ha
  obtain ⟨_, l1, l2⟩ := hl
  obtain ⟨_, h1, h2⟩ := hh
  refine ⟨_, pe_slice sl_data a1 l1 h1, fun R q => a2 R (q.bind.mono fun d s1 k1 F1 H1 v g1 w1 => l2 (R.grow g1) (k1.bind.mono fun l s2 k2 F2 H2 g2 => h2 ((R.grow g1).grow g2) (k2.bind.mono fun h s3 k3 F3 H3 g3 => ?_)))⟩
  obtain ⟨d', e', k4⟩ := k3.lift
  exact s_sliceL (((R.grow g1).grow g2).grow g3).g ((w1.grow g2).grow g3) e' fun F' H' u g4 r4 => k4 F' H' u (((g1.trans g2).trans g3).trans g4) (((g1.trans g2).trans g3).newL r4)
/-! ### calls of defs -/
/-- a def's promise, from its worth F: n parameters; WE: what is wanted of its exceptions -/
def spOf (K : PySem.W.Frag) (T : List (Addr × Str)) (WE : XK → String → Hp → Prop) (n : Nat) (F : List Sl → M D) : Sp := fun vs H Q E => vs.length = n ∧ ∃ (hp : Addr) (Fz : Hp) (as : List Sl) (s : HS), Grow K T hp Fz H Fz H s ∧ ArgsOk K hp Fz vs as ∧
  Post (F as s) (fun d s' => ∀ F' H' v, Grow K T hp Fz H F' H' s' → Rp K F' v d → Q v H') (fun c s' => ∀ F' H', Grow K T hp Fz H F' H' s' → WE E c H')
abbrev noEX : String → Hp → Prop := fun _ _ => False
abbrev noWE : XK → String → Hp → Prop := fun _ _ _ => False
def fCall (F : List Sl → M D) (fas : Rho → M (List Sl)) : Rho → M D := fun ρ => do
  let as ← fas ρ
  F as
theorem de_callW {k n : Nat} {f : Addr} {fd : FuncData} {ps : List Str} {x : Str} {e : Expr} {es : List Expr} {F : List Sl → M D} {fas : Rho → M (List Sl)} {CX : CXT} {WE : XK → String → Hp → Prop} {E : XK} (G : FnOk X.prog X.w X.K X.mg X.base CX k f fd ps (spOf X.K T WE n F))
    (hr : Room k X.A) (hm : X.mg x = some (.ref f)) (hk : PySem.W.keepIn X.K (.ref f) = true) (hb : Binds X.K fd ps []) (hx : Passes CX X E) (hE : ∀ c H, EX c H → WE E c H) (hg : Gl X x) (ha : DA X T EX n (e :: es) fas)
    (hdb : (x == ("__debug__" : Str)) = false := by decide) (he : starEach (e :: es) X.env = (false, eval e X.env) :: starEach es X.env := by rfl) (hpl : (backTo pos (starEach es X.env)).any (·.1) = false := by rfl) :
    DE X T EX (.Call (.Name x p) (e :: es) [] pos) (fCall F fas) := by
  obtain ⟨_, a1, a2⟩ := ha
  refine ⟨_, pe_call G hr hg hm hk hb .nil hx a1 hdb he hpl, fun {hp F0 H0 Fz H σ ρ s Q} R q => a2 R (q.bind.mono fun as s1 q2 F1 H1 vs g1 w1 hn => ?_)⟩
  rw [List.append_nil]
  have R1 := R.grow g1
  exact ⟨hn, hp, F1, as, s1, R1.g.refl, w1, Post.imp q2 (fun d s2 k F' H' v g2 r2 => k F' H' v (g1.trans g2) r2) fun c s2 k F' H' g2 => hE c H' (k F' H' (R1.g.trans g2))⟩
/-- nothing is raised -/
theorem de_call {k n : Nat} {f : Addr} {fd : FuncData} {ps : List Str} {x : Str} {e : Expr} {es : List Expr} {F : List Sl → M D} {fas : Rho → M (List Sl)} (G : FnOk X.prog X.w X.K X.mg X.base CX0 k f fd ps (spOf X.K T noWE n F))
    (hr : Room k X.A) (hm : X.mg x = some (.ref f)) (hk : PySem.W.keepIn X.K (.ref f) = true) (hb : Binds X.K fd ps []) (hg : Gl X x) (ha : DA X T noEX n (e :: es) fas)
    (hdb : (x == ("__debug__" : Str)) = false := by decide) (he : starEach (e :: es) X.env = (false, eval e X.env) :: starEach es X.env := by rfl) (hpl : (backTo pos (starEach es X.env)).any (·.1) = false := by rfl) :
    DE X T noEX (.Call (.Name x p) (e :: es) [] pos) (fCall F fas) := de_callW G hr hm hk hb pass0 (fun _ _ h => h) hg ha hdb he hpl
end
end Jw
namespace Jw
open PySem PySem.Spec PyProof.Rows L2
/-! ### targets -/
mutual
inductive Pat where
  | nm (i : Nat)
  | tp (ps : Pats)
inductive Pats where
  | nil
  | cons (p : Pat) (ps : Pats)
end
mutual
def Pat.g (K : PySem.W.Frag) : Pat → TG
  | .nm i => gName i
  | .tp ps => gTup K ps.size (ps.gs K)
def Pats.gs (K : PySem.W.Frag) : Pats → TGs
  | .nil => gNil
  | .cons p ps => gCons (p.g K) (ps.gs K)
def Pats.size : Pats → Nat
  | .nil => 0
  | .cons _ ps => ps.size + 1
end
mutual
def Pat.bind : Pat → D → Rho → Option Rho
  | .nm i, d, ρ => if i < ρ.length then some (ρ.set i (.dat d)) else none
  | .tp ps, .tuple ds, ρ => ps.binds ds ρ
  | .tp _, _, _ => none
def Pats.binds : Pats → List D → Rho → Option Rho
  | .nil, [], ρ => some ρ
  | .cons p ps, d :: ds, ρ => (p.bind d ρ).bind (ps.binds ds)
  | _, _, _ => none
def Pat.slots : Pat → List Nat
  | .nm i => [i]
  | .tp ps => ps.slotss
def Pats.slotss : Pats → List Nat
  | .nil => []
  | .cons p ps => p.slots ++ ps.slotss
end
mutual
theorem Pats.binds_len : ∀ {ps : Pats} {ds : List D} {ρ ρ' : Rho}, ps.binds ds ρ = some ρ' → ds.length = ps.size
  | .nil, [], _, _, _ => rfl
  | .nil, _ :: _, _, _, h => by cases h
  | .cons p ps, [], _, _, h => by cases h
  | .cons p ps, d :: ds, ρ, ρ', h => by
    unfold Pats.binds at h
    cases q : p.bind d ρ with
    | none => rw [q] at h; cases h
    | some ρ1 =>
      rw [q] at h
      exact congrArg Nat.succ (Pats.binds_len (ps := ps) h)
end
/-- outside of vs nothing is bound -/
def Out (vs : List Nat) (σ σ' : L2.St) : Prop := σ'.length = σ.length ∧ ∀ j, j ∉ vs → σ'[j]? = σ[j]?
theorem Out.refl (vs : List Nat) (σ : L2.St) : Out vs σ σ := ⟨rfl, fun _ _ => rfl⟩
theorem Out.trans {vs : List Nat} {σ σ1 σ2 : L2.St} (a : Out vs σ σ1) (b : Out vs σ1 σ2) : Out vs σ σ2 := ⟨b.1.trans a.1, fun j h => (b.2 j h).trans (a.2 j h)⟩
theorem Out.mono {vs ws : List Nat} {σ σ1 : L2.St} (a : Out vs σ σ1) (h : ∀ j ∈ vs, j ∈ ws) : Out ws σ σ1 := ⟨a.1, fun j n => a.2 j fun z => n (h j z)⟩
section
variable {K : PySem.W.Frag} {T : List (Addr × Str)} {hp : Addr} {F0 H0 F H : Hp} {s : HS}
mutual
theorem Pat.ok : ∀ (pt : Pat) {σ : L2.St} {ρ ρ' : Rho} {v : V} {d : D} {Q : L2.St → Hp → Prop}, Rel K T hp F0 H0 F H σ ρ s → Rp K F v d → pt.bind d ρ = some ρ' → (∀ σ', Rel K T hp F0 H0 F H σ' ρ' s → Out pt.slots σ σ' → Q σ' H) → pt.g K v σ H Q
  | .nm i, σ, ρ, ρ', v, d, Q, R, r, e, q => by
    unfold Pat.bind at e
    split at e
    · rename_i hi
      cases e
      unfold Pat.g
      refine q _ (R.setD hi r) ⟨List.length_set, fun j hj => ?_⟩
      have n : i ≠ j := fun z => hj (by unfold Pat.slots; rw [z]; exact List.mem_singleton_self j)
      exact List.getElem?_set_ne n
    · cases e
  | .tp ps, σ, ρ, ρ', v, d, Q, R, r, e, q => by
    cases r with
    | tup h1 h2 =>
      unfold Pat.bind at e
      unfold Pat.g
      have hl := Pats.binds_len e
      exact ⟨_, _, rfl, St.up R.g.sub h1, h2.len.trans hl, Pats.ok ps R h2 e fun σ' R' o => q σ' R' (by unfold Pat.slots; exact o)⟩
    | _ => cases e
theorem Pats.ok : ∀ (ps : Pats) {σ : L2.St} {ρ ρ' : Rho} {vs : List V} {ds : List D} {Q : L2.St → Hp → Prop}, Rel K T hp F0 H0 F H σ ρ s → RpAll K F vs ds → ps.binds ds ρ = some ρ' → (∀ σ', Rel K T hp F0 H0 F H σ' ρ' s → Out ps.slotss σ σ' → Q σ' H) → ps.gs K vs σ H Q
  | .nil, σ, ρ, ρ', vs, ds, Q, R, r, e, q => by
    cases r with
    | nil =>
      unfold Pats.binds at e
      cases e
      unfold Pats.gs
      exact ⟨rfl, q σ R (Out.refl _ _)⟩
    | cons _ _ => cases e
  | .cons p ps, σ, ρ, ρ', vs, ds, Q, R, r, e, q => by
    cases r with
    | nil => cases e
    | cons h a =>
      unfold Pats.binds at e
      unfold Pats.gs
      cases e1 : p.bind _ ρ with
      | none => rw [e1] at e; cases e
      | some ρ1 =>
        rw [e1] at e
        refine ⟨_, _, rfl, Pat.ok p R h e1 fun σ1 R1 o1 => Pats.ok ps R1 a e fun σ2 R2 o2 => q σ2 R2 ?_⟩
        unfold Pats.slotss
        exact (o1.mono fun j hj => List.mem_append_left _ hj).trans (o2.mono fun j hj => List.mem_append_right _ hj)
end
end
/-! ### what is walked -/
/-- J walks the data ds, while F stands -/
def Wk (K : PySem.W.Frag) (T : List (Addr × Str)) (hp : Addr) (F : Hp) (J : It) (ds : List D) : Prop := ∀ F0 H0 F' H' s', (∀ a o, F a = some o → F' a = some o) → Grow K T hp F0 H0 F' H' s' →
  (∀ i, i < ds.length → J.go i H') ∧ J.stop ds.length H' ∧ ∀ (i : Nat) d x H'', ds[i]? = some d → J.yld i H' x H'' → ∃ F'', Grow K T hp F' H' F'' H'' s' ∧ Rp K F'' x d
/-- while nothing but the loose things changes -/
def WkB (K : PySem.W.Frag) (T : List (Addr × Str)) (hp : Addr) (F H : Hp) (J : It) (ds : List D) : Prop := ∀ F' H' s', Grow K T hp F H F' H' s' →
  (∀ i, i < ds.length → J.go i H') ∧ J.stop ds.length H' ∧ ∀ (i : Nat) d x H'', ds[i]? = some d → J.yld i H' x H'' → ∃ F'', Grow K T hp F' H' F'' H'' s' ∧ Rp K F'' x d
def DI (X : Cx) (T : List (Addr × Str)) (EX : String → Hp → Prop) (tg iter : Expr) (f : Rho → M (List D)) : Prop := ∃ wi, PI X tg iter wi ∧ ∀ {hp : Addr} {F0 H0 F H : Hp} {σ : L2.St} {ρ : Rho} {s : HS} {R' : It → Hp → Prop}, Rel X.K T hp F0 H0 F H σ ρ s →
  Post (f ρ s) (fun ds s' => ∀ F' H' J, Grow X.K T hp F H F' H' s' → Wk X.K T hp F' J ds → R' J H') (WX X.K T hp F0 H0 EX) → wi σ H R'
def DIB (X : Cx) (T : List (Addr × Str)) (EX : String → Hp → Prop) (tg iter : Expr) (f : Rho → M (List D)) : Prop := ∃ wi, PI X tg iter wi ∧ ∀ {hp : Addr} {F0 H0 F H : Hp} {σ : L2.St} {ρ : Rho} {s : HS} {R' : It → Hp → Prop}, Rel X.K T hp F0 H0 F H σ ρ s →
  Post (f ρ s) (fun ds s' => ∀ F' H' J, Grow X.K T hp F H F' H' s' → WkB X.K T hp F' H' J ds → R' J H') (WX X.K T hp F0 H0 EX) → wi σ H R'
def iSeqD (K : PySem.W.Frag) (tl : TE) : TI := fun σ H R => tl σ H fun x H1 => ∃ a, x = .ref a ∧ (((∃ xs, SqL K H1 a xs) ∧ R (Itl K a) H1) ∨ (∃ xs, SqT K H1 a xs) ∧ R (Itt K a) H1)
section
variable {X : Cx} {T : List (Addr × Str)} {EX : String → Hp → Prop} {pos p : Pos} {tg : Expr}
theorem DI.b {iter : Expr} {f : Rho → M (List D)} (h : DI X T EX tg iter f) : DIB X T EX tg iter f := by
  obtain ⟨wi, h1, h2⟩ := h
  exact ⟨wi, h1, fun R p => h2 R (p.mono fun ds s1 k F1 H1 J g w => k F1 H1 J g fun F' H' s' g' => w _ _ F' H' s' g'.ff g')⟩
/-- a list or a tuple -/
theorem pi_seqD {l : Expr} {tl : TE} (hl : PE X l tl) : PI X tg l (iSeqD X.K tl) := by
  constructor
  intro pins s σ H R I h
  refine thn (hl.run pins s σ H _ I h) ?_
  rintro v t ⟨x, G, J, rv, a, rfl, q⟩
  cases rv
  have fresh : ∀ b ∈ [t.heap.objs.size], FpOk X pins G b := by
    intro b hb
    rw [List.mem_singleton.mp hb]
    exact J.fpOk (Nat.le_refl _) (J.hok.fresh (Nat.le_refl _))
  have kept : ∀ o : Obj, L2.Inv X pins σ G { t with heap := t.heap.push o } := fun o => J.kept (t' := t.toks) fun b u e => Heap.get?_push_of_some _ e
  rcases q with ⟨⟨xs, hx⟩, q⟩ | ⟨⟨xs, hx⟩, q⟩
  · obtain ⟨its, _, pl, _⟩ := J.list hx
    exact wpAny_pyIter_list pl.isList ⟨_, [t.heap.objs.size], _, _, G, rfl, kept _, turn_list a _, ⟨_, Heap.get?_push_size _ rfl, rfl, rfl⟩, fresh, q⟩
  · obtain ⟨its, _, pl, _⟩ := J.tuple hx
    exact wpAny_pyIter_tuple pl ⟨_, [t.heap.objs.size], _, _, G, rfl, kept _, turn_tuple a _, ⟨_, Heap.get?_push_size _ rfl, rfl, rfl⟩, fresh, q⟩
end
end Jw
namespace Jw
open PySem PySem.Spec PyProof.Rows L2
def dItems : D → Option (List D)
  | .list xs => some xs
  | .tuple xs => some xs
  | _ => none
def fItems (fa : Rho → M D) : Rho → M (List D) := fun ρ => do
  let a ← fa ρ
  O.lift (dItems a)
/-- lo, lo + 1, .., n of them -/
def rng (lo : Int) (n : Nat) : List D := (List.range n).map fun (i : Nat) => PyData.int (lo + (i : Int))
theorem rng_len (lo : Int) (n : Nat) : (rng lo n).length = n := by unfold rng; rw [List.length_map, List.length_range]
theorem rng_at {lo : Int} {n i : Nat} {d : D} (h : (rng lo n)[i]? = some d) : d = .int (lo + i) := by
  unfold rng at h
  rw [List.getElem?_map] at h
  cases q : (List.range n)[i]? with
  | none => rw [q] at h; cases h
  | some j =>
    rw [q] at h
    cases h
    have hj := (List.getElem?_eq_some_iff.mp q).2
    rw [List.getElem_range] at hj
    rw [← hj]
section
variable {X : Cx} {T : List (Addr × Str)} {EX : String → Hp → Prop} {pos p : Pos} {tg : Expr}
theorem wk_list {K : PySem.W.Frag} {hp a : Addr} {F : Hp} {vs : List V} {ds : List D} (h : F a = some (.lst vs)) (r : RpAll K F vs ds) : Wk K T hp F (Itl K a) ds := fun F0 H0 F' H' s' ff G => by
  have hs : SqL K H' a vs := .inl (.inl (G.sub _ _ (ff _ _ h)))
  refine ⟨fun i hi => ⟨vs, vs[i]'(by rw [r.len]; exact hi), hs, List.getElem?_eq_getElem _⟩, ⟨vs, hs, Nat.le_of_eq r.len⟩, fun i d x H'' e y => ?_⟩
  obtain ⟨rfl, y⟩ := y
  obtain ⟨v, h1, h2⟩ := r.at e
  have q := y vs hs
  rw [h1] at q
  cases q
  exact ⟨F', G.refl, Rp.up ff h2⟩
theorem wk_tup {K : PySem.W.Frag} {hp a : Addr} {F : Hp} {vs : List V} {ds : List D} (h : SqT K F a vs) (r : RpAll K F vs ds) : Wk K T hp F (Itt K a) ds := fun F0 H0 F' H' s' ff G => by
  have hs : SqT K H' a vs := St.up G.sub (St.up ff h)
  refine ⟨fun i hi => ⟨vs, vs[i]'(by rw [r.len]; exact hi), hs, List.getElem?_eq_getElem _⟩, ⟨vs, hs, Nat.le_of_eq r.len⟩, fun i d x H'' e y => ?_⟩
  obtain ⟨rfl, y⟩ := y
  obtain ⟨v, h1, h2⟩ := r.at e
  have q := y vs hs
  rw [h1] at q
  cases q
  exact ⟨F', G.refl, Rp.up ff h2⟩
theorem wkb_own {K : PySem.W.Frag} {hp a : Addr} {F H : Hp} {vs : List V} {ds : List D} (h : H a = some (.lst vs)) (r : RpAll K F vs ds) (nh : a ≠ hp) : WkB K T hp F H (Itl K a) ds := fun F' H' s' G => by
  have hs : SqL K H' a vs := .inl (.inl (G.st _ _ h (not_loose_lst nh)))
  refine ⟨fun i hi => ⟨vs, vs[i]'(by rw [r.len]; exact hi), hs, List.getElem?_eq_getElem _⟩, ⟨vs, hs, Nat.le_of_eq r.len⟩, fun i d x H'' e y => ?_⟩
  obtain ⟨rfl, y⟩ := y
  obtain ⟨v, h1, h2⟩ := r.at e
  have q := y vs hs
  rw [h1] at q
  cases q
  exact ⟨F', G.refl, Rp.up G.ff h2⟩
theorem wk_rng {K : PySem.W.Frag} {hp : Addr} {F : Hp} (lo : Int) (n : Nat) : Wk K T hp F (Itr lo n) (rng lo n) := fun F0 H0 F' H' s' ff G => by
  refine ⟨fun i hi => by rw [rng_len] at hi; exact hi, Nat.le_of_eq (rng_len lo n).symm, fun i d x H'' e y => ?_⟩
  obtain ⟨rfl, rfl⟩ := y
  rw [rng_at e]
  exact ⟨F', G.refl, .int _⟩
theorem di_seq {e : Expr} {fa : Rho → M D} (h : DE X T EX e fa) : DI X T EX tg e (fItems fa) := by
  obtain ⟨_, a1, a2⟩ := h
  refine ⟨_, pi_seqD a1, fun R q => a2 R (q.bind.mono fun d s1 k F1 H1 v g1 w1 => ?_)⟩
  obtain ⟨ds, e1, k2⟩ := k.lift
  have R1 := R.grow g1
  cases w1 with
  | lst h1 h2 =>
    cases e1
    exact ⟨_, rfl, .inl ⟨⟨_, .inl (.inl (R1.g.sub _ _ h1))⟩, k2 F1 H1 _ g1 (wk_list h1 h2)⟩⟩
  | tup h1 h2 =>
    cases e1
    exact ⟨_, rfl, .inr ⟨⟨_, St.up R1.g.sub h1⟩, k2 F1 H1 _ g1 (wk_tup h1 h2)⟩⟩
  | _ => cases e1
theorem dib_seq {e : Expr} {fa : Rho → M D} (h : DB X T EX e fa) : DIB X T EX tg e (fItems fa) := by
  obtain ⟨_, a1, a2⟩ := h
  refine ⟨_, pi_seqD a1, fun {hp F0 H0 F H σ ρ s R'} R q => a2 R (q.bind.mono fun d s1 k F1 H1 v g1 w1 => ?_)⟩
  obtain ⟨ds, e1, k2⟩ := k.lift
  have R1 := R.grow g1
  have toB : ∀ {J : It} {ds : List D}, Wk X.K T hp F1 J ds → WkB X.K T hp F1 H1 J ds := fun w F' H' s' g' => w _ _ F' H' s' g'.ff g'
  rcases w1 with w1 | ⟨a, vs, xs, rfl, rfl, h1, h2, h3⟩
  · cases w1 with
    | lst h1 h2 =>
      cases e1
      exact ⟨_, rfl, .inl ⟨⟨_, .inl (.inl (R1.g.sub _ _ h1))⟩, k2 F1 H1 _ g1 (toB (wk_list h1 h2))⟩⟩
    | tup h1 h2 =>
      cases e1
      exact ⟨_, rfl, .inr ⟨⟨_, St.up R1.g.sub h1⟩, k2 F1 H1 _ g1 (toB (wk_tup h1 h2))⟩⟩
    | _ => cases e1
  · cases e1
    exact ⟨_, rfl, .inl ⟨⟨_, .inl (.inl h1)⟩, k2 F1 H1 _ g1 (wkb_own h1 h2 h3)⟩⟩
def dRng1 : D → Option (List D)
  | .int n => if -(2 ^ 62) ≤ n ∧ n < 2 ^ 62 then some (rng 0 n.toNat) else none
  | _ => none
def dRng2 : D → D → Option (List D)
  | .int a, .int b => if -(2 ^ 62) ≤ a ∧ a < 2 ^ 62 ∧ -(2 ^ 62) ≤ b ∧ b < 2 ^ 62 then some (rng a (b - a).toNat) else none
  | _, _ => none
def fRng1 (fa : Rho → M D) : Rho → M (List D) := fun ρ => do
  let a ← fa ρ
  O.lift (dRng1 a)
def fRng2 (fa fb : Rho → M D) : Rho → M (List D) := fun ρ => do
  let a ← fa ρ
  let b ← fb ρ
  O.lift (dRng2 a b)
theorem di_rng1 {e : Expr} {fa : Rho → M D} (hm : X.mg "range" = none) (hg : Gl X "range") (h : DB X T EX e fa) (he : starEach [e] X.env = (false, eval e X.env) :: starEach [] X.env := by rfl) : DI X T EX tg (.Call (.Name "range" p) [e] [] pos) (fRng1 fa) := by
  obtain ⟨_, a1, a2⟩ := h
  refine ⟨_, pi_range1 hg hm (pa_cons a1 pa_nil he) he, fun R q => a2 R (q.bind.mono fun d s1 k F1 H1 v g1 w1 => ?_)⟩
  obtain ⟨ds, e1, k2⟩ := k.lift
  cases d with
  | int n =>
    simp only [dRng1] at e1
    split at e1
    · rename_i hz
      cases e1
      rw [w1.int]
      exact ⟨n, rfl, hz.1, hz.2, k2 F1 H1 _ g1 (wk_rng 0 n.toNat)⟩
    · cases e1
  | _ => cases e1
theorem di_rng2 {e e2 : Expr} {fa fb : Rho → M D} (hm : X.mg "range" = none) (hg : Gl X "range") (h : DB X T EX e fa) (h2 : DB X T EX e2 fb) (he : starEach [e, e2] X.env = [(false, eval e X.env), (false, eval e2 X.env)] := by rfl) (he2 : starEach [e2] X.env = [(false, eval e2 X.env)] := by rfl) :
    DI X T EX tg (.Call (.Name "range" p) [e, e2] [] pos) (fRng2 fa fb) := by
  obtain ⟨_, a1, a2⟩ := h
  obtain ⟨_, b1, b2⟩ := h2
  refine ⟨_, pi_range2 hg hm (pa_cons a1 (pa_cons b1 pa_nil (by rw [he2]; rfl)) (by rw [he, he2])) he he2, fun R q => a2 R (q.bind.mono fun d s1 k F1 H1 v g1 w1 => b2 (R.grow g1) (k.bind.mono fun d2 s2 k1 F2 H2 w g2 w2 => ?_))⟩
  obtain ⟨ds, e1, k2⟩ := k1.lift
  cases d with
  | int n =>
    cases d2 with
    | int m =>
      simp only [dRng2] at e1
      split at e1
      · rename_i hz
        cases e1
        rw [w1.int, w2.int]
        exact ⟨n, m, rfl, hz, k2 F2 H2 _ (g1.trans g2) (wk_rng n (m - n).toNat)⟩
      · cases e1
    | _ => cases e1
  | _ => cases e1
end
/-! ### list comprehensions -/
def M.noexc {α : Type} (m : M α) : M α := fun s => match m s with
  | .ok a s' => .ok a s'
  | _ => .bad
theorem Post.noexc {α : Type} {m : M α} {s : HS} {P : α → HS → Prop} {W W' : String → HS → Prop} (h : Post (M.noexc m s) P W) : Post (m s) P W' := by
  unfold M.noexc at h
  cases q : m s with
  | ok a s' => rw [q] at h; exact h
  | exc c s' => rw [q] at h; exact h.elim
  | bad => rw [q] at h; exact h.elim
/-- the slots vs forgotten -/
def wipeR (ρ : Rho) : List Nat → Rho
  | [] => ρ
  | v :: vs => (wipeR ρ vs).set v .un
def lcL (bp : D → Rho → Option Rho) (cond : Rho → M Bool) (elt : Rho → M D) (ρ : Rho) : List D → M (List D)
  | [] => pure []
  | x :: xs => do
    let ρ1 ← O.lift (bp x ρ)
    let b ← M.noexc (cond ρ1)
    if b then do
      let y ← M.noexc (elt ρ1)
      let ys ← lcL bp cond elt ρ xs
      pure (y :: ys)
    else lcL bp cond elt ρ xs
def fLc (vs : List Nat) (fi : Rho → M (List D)) (bp : D → Rho → Option Rho) (cond : Rho → M Bool) (elt : Rho → M D) : Rho → M (List D) := fun ρ => do
  let ds ← fi ρ
  if ds.length < 16777216 then lcL bp cond elt (wipeR ρ vs) ds else M.bad
theorem wipeR_len (ρ : Rho) : ∀ vs : List Nat, (wipeR ρ vs).length = ρ.length
  | [] => rfl
  | v :: vs => by unfold wipeR; rw [List.length_set, wipeR_len ρ vs]
section
variable {K : PySem.W.Frag} {T : List (Addr × Str)} {hp : Addr} {F0 H0 F H : Hp} {s : HS} {σ : L2.St} {ρ : Rho}
/-- a name forgotten -/
theorem Rel.forget (R : Rel K T hp F0 H0 F H σ ρ s) (i : Nat) : Rel K T hp F0 H0 F H (σ.set i none) (ρ.set i .un) s := by
  refine ⟨R.g, fun j y e => ?_, fun j k xs ys e1 e2 n => ?_, by rw [List.length_set, List.length_set, R.len]⟩
  · by_cases q : i = j
    · subst q
      by_cases hi : i < ρ.length
      · rw [List.getElem?_set_self hi] at e
        cases e
        trivial
      · rw [List.getElem?_eq_none (by simpa using hi)] at e
        cases e
    · rw [List.getElem?_set_ne q] at e
      rw [List.getElem?_set_ne q]
      exact R.sl j y e
  · have ne : ∀ {m : Nat} {zs : List D}, (ρ.set i .un)[m]? = some (.own zs) → i ≠ m ∧ ρ[m]? = some (.own zs) := fun {m zs} e => by
      by_cases q : i = m
      · subst q
        by_cases hi : i < ρ.length
        · rw [List.getElem?_set_self hi] at e; cases e
        · rw [List.getElem?_eq_none (by simpa using hi)] at e; cases e
      · rw [List.getElem?_set_ne q] at e
        exact ⟨q, e⟩
    obtain ⟨n1, f1⟩ := ne e1
    obtain ⟨n2, f2⟩ := ne e2
    rw [List.getElem?_set_ne n1, List.getElem?_set_ne n2]
    exact R.ne j k xs ys f1 f2 n
theorem Rel.wipe (R : Rel K T hp F0 H0 F H σ ρ s) : ∀ vs : List Nat, Rel K T hp F0 H0 F H (L2.wipe σ vs) (wipeR ρ vs) s
  | [] => R
  | v :: vs => (Rel.wipe R vs).forget v
end
theorem wipe_out {σ σ' : L2.St} : ∀ {vs : List Nat}, Out vs (L2.wipe σ vs) σ' → L2.wipe σ' vs = L2.wipe σ vs := fun {vs} o => by
  have key : ∀ (ws : List Nat) (τ : L2.St) (j : Nat), (L2.wipe τ ws)[j]? = if j ∈ ws then (if j < τ.length then some none else none) else τ[j]? := by
    intro ws τ
    induction ws with
    | nil => intro j; rfl
    | cons w ws ih =>
      intro j
      unfold L2.wipe
      by_cases q : w = j
      · subst q
        rw [if_pos List.mem_cons_self]
        by_cases hl : w < τ.length
        · rw [if_pos hl, List.getElem?_set_self (by rw [wipe_length]; exact hl)]
        · rw [if_neg hl, List.getElem?_eq_none (by rw [List.length_set, wipe_length]; omega)]
      · rw [List.getElem?_set_ne q, ih j]
        by_cases hj : j ∈ ws
        · rw [if_pos hj, if_pos (List.mem_cons_of_mem _ hj)]
        · rw [if_neg hj, if_neg (by simp [hj, Ne.symm q])]
  have hl : σ'.length = σ.length := by rw [o.1, wipe_length]
  refine List.ext_getElem? fun j => ?_
  rw [key vs σ' j, key vs σ j, hl]
  by_cases hj : j ∈ vs
  · rw [if_pos hj, if_pos hj]
  · rw [if_neg hj, if_neg hj, o.2 j hj, key vs σ j, if_neg hj]
/-- what an expression's worth f asks, as one reading -/
def tOf (K : PySem.W.Frag) (T : List (Addr × Str)) (EX : String → Hp → Prop) (f : Rho → M D) : TE := fun σ H Q => ∃ (hp : Addr) (F0 H0 F : Hp) (ρ : Rho) (s : HS), Rel K T hp F0 H0 F H σ ρ s ∧
  Post (f ρ s) (fun d s' => ∀ F' H' v, Grow K T hp F H F' H' s' → Rp K F' v d → Q v H') (WX K T hp F0 H0 EX)
def ttOf (K : PySem.W.Frag) (T : List (Addr × Str)) (EX : String → Hp → Prop) (f : Rho → M Bool) : TT := fun σ H Q => ∃ (hp : Addr) (F0 H0 F : Hp) (ρ : Rho) (s : HS), Rel K T hp F0 H0 F H σ ρ s ∧
  Post (f ρ s) (fun b s' => ∀ F' H', Grow K T hp F H F' H' s' → Q b H') (WX K T hp F0 H0 EX)
theorem DE.pe {X : Cx} {T : List (Addr × Str)} {EX : String → Hp → Prop} {e : Expr} {f : Rho → M D} (h : DE X T EX e f) : PE X e (tOf X.K T EX f) := by
  obtain ⟨te, h1, h2⟩ := h
  exact ⟨fun pins s σ H Q I ⟨hp, F0, H0, F, ρ, t, R, p⟩ => h1.run pins s σ H Q I (h2 R p)⟩
/-- the tests of a comprehension -/
def DTs (X : Cx) (T : List (Addr × Str)) (EX : String → Hp → Prop) (es : List Expr) (f : Rho → M Bool) : Prop := PTs X es (ttOf X.K T EX f)
theorem dts_nil {X : Cx} {T : List (Addr × Str)} {EX : String → Hp → Prop} : DTs X T EX [] (fun _ => pure true) := by
  obtain ⟨h⟩ := (pts_nil : PTs X [] tYes)
  exact ⟨fun pins s σ H Q I ⟨hp, F0, H0, F, ρ, t, R, p⟩ => h pins s σ H Q I (p.ret F H R.g.refl)⟩
theorem dts_one {X : Cx} {T : List (Addr × Str)} {EX : String → Hp → Prop} {e : Expr} {f : Rho → M Bool} (h : DT X T EX e f) : DTs X T EX [e] f := by
  obtain ⟨tt, h1, h2⟩ := h
  obtain ⟨g⟩ := pts_one h1
  exact ⟨fun pins s σ H Q I ⟨hp, F0, H0, F, ρ, t, R, p⟩ => g pins s σ H Q I (h2 R p)⟩
section
variable {X : Cx} {T : List (Addr × Str)} {EX : String → Hp → Prop} {pos : Pos}
/-- what a comprehension's reading gives -/
theorem evl_lc {pt : Pat} {wi : TI} {fi : Rho → M (List D)} {cond : Rho → M Bool} {fe : Rho → M D} {vs : List Nat} (hsl : ∀ j ∈ pt.slots, j ∈ vs)
    (i2 : ∀ {hp : Addr} {F0 H0 F H : Hp} {σ : L2.St} {ρ : Rho} {s : HS} {R' : It → Hp → Prop}, Rel X.K T hp F0 H0 F H σ ρ s →
      Post (fi ρ s) (fun ds s' => ∀ F' H' J, Grow X.K T hp F H F' H' s' → WkB X.K T hp F' H' J ds → R' J H') (WX X.K T hp F0 H0 EX) → wi σ H R') :
    EvL X.K T EX (tLc wi (pt.g X.K) (ttOf X.K T noEX cond) (tOf X.K T noEX fe) vs) (fLc vs fi pt.bind cond fe) := fun {hp F0 H0 F H σ ρ s Q} R q => i2 R (q.bind.mono fun ds s1 k F1 H1 J g1 w1 => by
  split at k
  case isFalse => exact k.elim
  rename_i hlen
  intro Dd hD
  have R1 := R.grow g1
  have nh : Dd ≠ hp := R1.g.noHp hD
  have lo : ∀ u, H1 Dd = some u → Loose hp Dd u := fun u e => by rw [hD] at e; cases e
  have nF1 : F1 Dd = none := by
    cases z : F1 Dd with
    | none => rfl
    | some u => have := R1.g.sub _ _ z; rw [hD] at this; cases this
  have G1 : Grow X.K T hp F1 H1 F1 (upd H1 Dd (.lst [])) s1 := R1.g.newOwn hD
  refine ⟨fun i m Hi => m = ds.length - i ∧ i ≤ ds.length ∧ ∃ (Fi : Hp) (acc : List V) (done : List D) (si : HS), Grow X.K T hp F1 H1 Fi Hi si ∧ Fi Dd = none ∧ Hi Dd = some (.lst acc) ∧ RpAll X.K Fi acc done ∧ done.length ≤ i ∧
      Post (lcL pt.bind cond fe (wipeR ρ vs) (ds.drop i) si) (fun rest s' => ∀ F' H' p, Grow X.K T hp F H F' H' s' → NewL X.K hp H F' H' p (done ++ rest) → Q (.ref p) H') (WX X.K T hp F0 H0 EX),
    ⟨_, rfl, Nat.zero_le _, F1, [], [], s1, G1, nF1, upd_same, .nil, Nat.le_refl _, by rw [List.drop_zero]; exact k⟩, ?_⟩
  rintro i m Hi ⟨rfl, hi, Fi, acc, done, si, Gi, nFi, hDi, ra, hdl, pi⟩
  obtain ⟨wgo, wst, wyl⟩ := w1 Fi Hi si Gi
  by_cases hlt : i < ds.length
  · refine .inr ⟨wgo i hlt, fun H' => ∃ m', m' < ds.length - i ∧ (m' = ds.length - (i + 1) ∧ i + 1 ≤ ds.length ∧ ∃ (Fi : Hp) (acc : List V) (done : List D) (si : HS), Grow X.K T hp F1 H1 Fi H' si ∧ Fi Dd = none ∧ H' Dd = some (.lst acc) ∧ RpAll X.K Fi acc done ∧ done.length ≤ i + 1 ∧
      Post (lcL pt.bind cond fe (wipeR ρ vs) (ds.drop (i + 1)) si) (fun rest s' => ∀ F' H' p, Grow X.K T hp F H F' H' s' → NewL X.K hp H F' H' p (done ++ rest) → Q (.ref p) H') (WX X.K T hp F0 H0 EX)), fun H' h => h, fun x H' y => ?_⟩
    have hx : ds[i]? = some ds[i] := List.getElem?_eq_getElem hlt
    obtain ⟨F2, g2, r2⟩ := wyl i _ x H' hx y
    have ed : ds.drop i = ds[i] :: ds.drop (i + 1) := List.drop_eq_getElem_cons hlt
    rw [ed] at pi
    unfold lcL at pi
    obtain ⟨ρ1, eb, p1⟩ := pi.bind.lift
    have Rw : Rel X.K T hp F0 H0 F2 H' (wipe σ vs) (wipeR ρ vs) si := ((R1.grow Gi).grow g2).wipe _
    have keepD : ∀ {F' H' Fa Ha : Hp} {sa : HS}, Grow X.K T hp F' H' Fa Ha sa → F' Dd = none → H' Dd = some (.lst acc) → Fa Dd = none ∧ Ha Dd = some (.lst acc) := fun {F' H' Fa Ha sa} g e1 e2 => by
      refine ⟨?_, g.st _ _ e2 (not_loose_lst nh)⟩
      cases z : Fa Dd with
      | none => rfl
      | some u =>
        rcases g.nw _ _ z with z1 | z1
        · rw [e1] at z1; cases z1
        · exact absurd (z1 _ e2) (not_loose_lst nh)
    refine Pat.ok pt Rw r2 eb fun σ2 R2 o2 => ⟨wipe_out (o2.mono hsl), hp, F0, H0, F2, ρ1, si, R2, ?_⟩
    refine Post.mono (Post.noexc p1.bind) fun b s3 k3 F3 H3 g3 => ?_
    have G3 := (Gi.trans g2).trans g3
    have D3 := keepD (g2.trans g3) nFi hDi
    cases b with
    | true =>
      dsimp only
      rw [if_pos rfl]
      rw [if_pos rfl] at k3
      refine ⟨hp, F0, H0, F3, ρ1, s3, R2.grow g3, Post.mono (Post.noexc k3.bind) fun d s4 k4 F4 H4 v g4 r4 => ?_⟩
      have D4 := keepD g4 D3.1 D3.2
      have up4 : ∀ a o, Fi a = some o → F4 a = some o := fun a o e => g4.ff _ _ (g3.ff _ _ (g2.ff _ _ e))
      refine ⟨acc, D4.2, by rw [ra.len, sizeLine_eq]; omega, _, by omega, rfl, hlt, F4, acc ++ [v], done ++ [d], s4, (G3.trans g4).write lo D4.1 nh D4.2, D4.1, upd_same, (RpAll.up up4 ra).app (.cons r4 .nil), by rw [List.length_append, List.length_singleton]; omega, ?_⟩
      refine k4.bind.mono fun rest s5 k5 => ?_
      have k6 := k5.ret
      rw [List.append_assoc]
      exact k6
    | false =>
      dsimp only
      rw [if_neg Bool.false_ne_true]
      rw [if_neg Bool.false_ne_true] at k3
      exact ⟨_, by omega, rfl, hlt, F3, acc, done, s3, G3, D3.1, D3.2, RpAll.up (fun a o e => g3.ff _ _ (g2.ff _ _ e)) ra, by omega, k3⟩
  · have e : i = ds.length := by omega
    subst e
    rw [List.drop_length] at pi
    unfold lcL at pi
    have p2 := pi.ret
    rw [List.append_nil] at p2
    refine .inl ⟨wst, p2 Fi Hi Dd (g1.trans Gi) (g1.newL ⟨⟨acc, hDi, ra⟩, nFi, nh, lo⟩)⟩)
theorem dl_lc {elt tg iter : Expr} {ifs : List Expr} {scope : Scope} {own : List (Str × Nat)} {pt : Pat} {fi : Rho → M (List D)} {cond : Rho → M Bool} {fe : Rho → M D} (hc : X.calm = true) (hN : X.N.Nodup) (ok : BlkOk X.N X.env.scope scope own)
    (hsl : ∀ j ∈ pt.slots, j ∈ own.map (·.2)) (hi : DIB X T EX tg iter fi)
    (hg : ∀ (s : Shared) (H : Hp) (C : Addr) (cl : List (Str × Addr)) (fp : List Addr), PG (X.blk s H scope (compEnvC scope cl C X.env) fp) tg (pt.g X.K))
    (ht : ∀ (s : Shared) (H : Hp) (C : Addr) (cl : List (Str × Addr)) (fp : List Addr), DTs (X.blk s H scope (compEnvC scope cl C X.env) fp) T noEX ifs cond)
    (he : ∀ (s : Shared) (H : Hp) (C : Addr) (cl : List (Str × Addr)) (fp : List Addr), DE (X.blk s H scope (compEnvC scope cl C X.env) fp) T noEX elt fe) (hs : ∀ x, foldedSetIterable iter X.env x = pure x := by intro _; rfl) :
    DL X T EX (.ListComp elt [⟨tg, iter, ifs, 0⟩] scope pos) (fLc (own.map (·.2)) fi pt.bind cond fe) :=
  let ⟨_, i1, i2⟩ := hi
  ⟨_, pe_lc (tt := ttOf X.K T noEX cond) (te := tOf X.K T noEX fe) hc hN i1 ok hg ht (fun s H C cl fp => (he s H C cl fp).pe) hs, evl_lc hsl i2⟩
end
end Jw
namespace Jw
open PySem PySem.Spec PyProof.Rows L2
inductive Ctl where
  | nx (ρ : Rho)
  | rt (d : D)
  | bk (ρ : Rho)
  | ct (ρ : Rho)
/-- what stands behind a statement that began over F -/
def CtlQ (K : PySem.W.Frag) (T : List (Addr × Str)) (hp : Addr) (F0 H0 F : Hp) (E : Ends) : Ctl → HS → Prop
  | .nx ρ, s => ∀ F' H' σ', (∀ a o, F a = some o → F' a = some o) → Rel K T hp F0 H0 F' H' σ' ρ s → E.nx σ' H'
  | .bk ρ, s => ∀ F' H' σ', (∀ a o, F a = some o → F' a = some o) → Rel K T hp F0 H0 F' H' σ' ρ s → E.bk σ' H'
  | .ct ρ, s => ∀ F' H' σ', (∀ a o, F a = some o → F' a = some o) → Rel K T hp F0 H0 F' H' σ' ρ s → E.ct σ' H'
  | .rt d, s => ∀ F' H' v, Grow K T hp F0 H0 F' H' s → Rp K F' v d → E.rt v H'
theorem CtlQ.up {K : PySem.W.Frag} {T : List (Addr × Str)} {hp : Addr} {F0 H0 F F1 : Hp} {E : Ends} {c : Ctl} {s : HS} (h : CtlQ K T hp F0 H0 F E c s) (e : ∀ a o, F a = some o → F1 a = some o) : CtlQ K T hp F0 H0 F1 E c s := by
  cases c with
  | nx ρ => exact fun F' H' σ' e' R => h F' H' σ' (fun a o q => e' a o (e a o q)) R
  | bk ρ => exact fun F' H' σ' e' R => h F' H' σ' (fun a o q => e' a o (e a o q)) R
  | ct ρ => exact fun F' H' σ' e' R => h F' H' σ' (fun a o q => e' a o (e a o q)) R
  | rt d => exact h
section
variable (X : Cx) (T : List (Addr × Str)) (EX : String → Hp → Prop)
def EvS (K : PySem.W.Frag) (ts : TS) (f : Rho → M Ctl) : Prop := ∀ {hp : Addr} {F0 H0 F H : Hp} {σ : L2.St} {ρ : Rho} {s : HS} {E : Ends}, Rel K T hp F0 H0 F H σ ρ s →
  Post (f ρ s) (CtlQ K T hp F0 H0 F E) (WX K T hp F0 H0 EX) → ts E σ H
def DS (st : Stmt) (f : Rho → M Ctl) : Prop := ∃ ts, PS X st ts ∧ EvS T EX X.K ts f
def DSs (st : List Stmt) (f : Rho → M Ctl) : Prop := ∃ ts, PSs X st ts ∧ EvS T EX X.K ts f
end
section
variable {X : Cx} {T : List (Addr × Str)} {EX : String → Hp → Prop} {pos p p2 : Pos}
/-! ### blocks -/
def fSkip : Rho → M Ctl := fun ρ => pure (.nx ρ)
/-- what comes behind a statement -/
def seqK (g : Rho → M Ctl) : Ctl → M Ctl
  | .nx ρ' => g ρ'
  | c => pure c
def fSeq (f g : Rho → M Ctl) : Rho → M Ctl := fun ρ => f ρ >>= seqK g
theorem dss_nil : DSs X T EX [] fSkip := ⟨_, pss_nil, fun R q => q.ret _ _ _ (fun _ _ h => h) R⟩
theorem dss_one {st : Stmt} {f : Rho → M Ctl} (h : DS X T EX st f) : DSs X T EX [st] f := let ⟨_, a, b⟩ := h; ⟨_, pss_one a, b⟩
theorem dss_cons {st : Stmt} {r : List Stmt} {f g : Rho → M Ctl} (h : DS X T EX st f) (hr : DSs X T EX r g) : DSs X T EX (st :: r) (fSeq f g) := by
  obtain ⟨_, a1, a2⟩ := h
  obtain ⟨_, b1, b2⟩ := hr
  refine ⟨_, pss_cons a1 b1, fun {hp F0 H0 F H σ ρ s E} R q => a2 R (q.bind.mono fun c s1 k => ?_)⟩
  cases c with
  | nx ρ' => exact fun F' H' σ' e R' => b2 R' (Post.mono k fun c s2 k2 => k2.up e)
  | rt d => exact k
  | bk ρ' => exact k
  | ct ρ' => exact k
/-- a list of the def's own stands still from here on -/
def freeze (i : Nat) (ρ : Rho) : Rho := match ρ[i]? with
  | some (.own xs) => ρ.set i (.dat (.list xs))
  | _ => ρ
theorem Rel.freeze {K : PySem.W.Frag} {hp : Addr} {F0 H0 F H : Hp} {σ : L2.St} {ρ : Rho} {s : HS} (R : Rel K T hp F0 H0 F H σ ρ s) (i : Nat) : ∃ F', (∀ a o, F a = some o → F' a = some o) ∧ Rel K T hp F0 H0 F' H σ (Jw.freeze i ρ) s := by
  unfold Jw.freeze
  cases q : ρ[i]? with
  | none => exact ⟨F, fun _ _ h => h, R⟩
  | some x =>
    cases x with
    | un => exact ⟨F, fun _ _ h => h, R⟩
    | dat d => exact ⟨F, fun _ _ h => h, R⟩
    | hand => exact ⟨F, fun _ _ h => h, R⟩
    | own xs =>
      obtain ⟨a, vs, h1, h2, h3, h4, h5, h6⟩ := R.sl i _ q
      have up : ∀ x u, F x = some u → upd F a (.lst vs) x = some u := fun x u e => by rw [upd_ne (ne_of_none e h4)]; exact e
      have hi : i < ρ.length := (List.getElem?_eq_some_iff.mp q).1
      refine ⟨upd F a (.lst vs), up, ⟨⟨fun x u e => up _ _ (R.g.ff x u e), fun x u e => ?_, R.g.st, fun x u e => ?_, R.g.tabs, R.g.hand.up up ?_ rfl, fun x ps e => ?_⟩, fun j y e => ?_, fun j k ys zs e1 e2 n => ?_, by rw [List.length_set]; exact R.len⟩⟩
      · by_cases z : x = a
        · rw [z]; exact .inr h6
        · rw [upd_ne z] at e; exact R.g.nw x u e
      · by_cases z : x = a
        · rw [z, upd_same] at e; cases e; rw [z]; exact h2
        · rw [upd_ne z] at e; exact R.g.sub x u e
      · obtain ⟨c, z, _⟩ := R.g.hand
        rw [upd_ne h5.symm]; exact z
      · by_cases z : x = a
        · rw [z, upd_same] at e; cases e
        · rw [upd_ne z] at e; exact R.g.nt x ps e
      · by_cases z : i = j
        · subst z
          rw [List.getElem?_set_self hi] at e
          cases e
          exact ⟨.ref a, h1, .lst upd_same (RpAll.up up h3)⟩
        · rw [List.getElem?_set_ne z] at e
          have hy := R.sl j y e
          cases y with
          | un => trivial
          | dat d =>
            obtain ⟨v, g1, g2⟩ := hy
            exact ⟨v, g1, Rp.up up g2⟩
          | hand => exact hy
          | own ys =>
            obtain ⟨b, ws, g1, g2, g3, g4, g5, g6⟩ := hy
            refine ⟨b, ws, g1, g2, RpAll.up up g3, ?_, g5, g6⟩
            rw [upd_ne]
            · exact g4
            · exact fun w => R.ne i j xs ys q e z (by rw [h1, g1, w])
      · have ne : ∀ {m : Nat} {ws : List D}, (ρ.set i (.dat (.list xs)))[m]? = some (.own ws) → ρ[m]? = some (.own ws) := fun {m ws} e => by
          by_cases z : i = m
          · subst z
            rw [List.getElem?_set_self hi] at e
            cases e
          · rw [List.getElem?_set_ne z] at e
            exact e
        exact R.ne j k ys zs (ne e1) (ne e2) n
def fFreeze (i : Nat) (f : Rho → M Ctl) : Rho → M Ctl := fun ρ => f (freeze i ρ)
theorem ds_freeze (i : Nat) {st : Stmt} {f : Rho → M Ctl} (h : DS X T EX st f) : DS X T EX st (fFreeze i f) := by
  obtain ⟨_, a1, a2⟩ := h
  refine ⟨_, a1, fun R q => ?_⟩
  obtain ⟨F', e, R'⟩ := R.freeze i
  exact a2 R' (Post.mono q fun c s1 k => k.up e)
/-! ### what is stored in a name: data, or a new list -/
def NewSl (K : PySem.W.Frag) (hp : Addr) (H F' H' : Hp) (v : V) : Sl → Prop
  | .dat d => Rp K F' v d
  | .own xs => ∃ p, v = .ref p ∧ NewL K hp H F' H' p xs
  | _ => False
def EvN (K : PySem.W.Frag) (T : List (Addr × Str)) (EX : String → Hp → Prop) (te : TE) (f : Rho → M Sl) : Prop := ∀ {hp : Addr} {F0 H0 F H : Hp} {σ : L2.St} {ρ : Rho} {s : HS} {Q : VK}, Rel K T hp F0 H0 F H σ ρ s →
  Post (f ρ s) (fun x s' => ∀ F' H' v, Grow K T hp F H F' H' s' → NewSl K hp H F' H' v x → Q v H') (WX K T hp F0 H0 EX) → te σ H Q
def DN (X : Cx) (T : List (Addr × Str)) (EX : String → Hp → Prop) (e : Expr) (f : Rho → M Sl) : Prop := ∃ te, PE X e te ∧ EvN X.K T EX te f
def nDat (f : Rho → M D) : Rho → M Sl := fun ρ => do
  let d ← f ρ
  pure (.dat d)
def nOwn (f : Rho → M (List D)) : Rho → M Sl := fun ρ => do
  let xs ← f ρ
  pure (.own xs)
theorem EvE.n {K : PySem.W.Frag} {te : TE} {f : Rho → M D} (h : EvE K T EX te f) : EvN K T EX te (nDat f) := fun R q => h R (q.bind.mono fun d s1 k F' H' v g r => k.ret F' H' v g r)
theorem EvL.n {K : PySem.W.Frag} {te : TE} {f : Rho → M (List D)} (h : EvL K T EX te f) : EvN K T EX te (nOwn f) := fun R q => h R (q.bind.mono fun d s1 k F' H' p g r => k.ret F' H' (.ref p) g ⟨p, rfl, r⟩)
theorem DE.n {e : Expr} {f : Rho → M D} (h : DE X T EX e f) : DN X T EX e (nDat f) := let ⟨_, a, b⟩ := h; ⟨_, a, b.n⟩
theorem DL.n {e : Expr} {f : Rho → M (List D)} (h : DL X T EX e f) : DN X T EX e (nOwn f) := let ⟨_, a, b⟩ := h; ⟨_, a, b.n⟩
def putSl (i : Nat) (x : Sl) (ρ : Rho) : M Rho := if i < ρ.length then pure (ρ.set i x) else M.bad
def fSet (i : Nat) (f : Rho → M Sl) : Rho → M Ctl := fun ρ => do
  let x ← f ρ
  let ρ' ← putSl i x ρ
  pure (.nx ρ')
theorem Post.putSl {i : Nat} {x : Sl} {ρ : Rho} {s : HS} {P : Rho → HS → Prop} {W : String → HS → Prop} (h : Post (Jw.putSl i x ρ s) P W) : i < ρ.length ∧ P (ρ.set i x) s := by
  unfold Jw.putSl at h
  split at h
  · rename_i z
    exact ⟨z, h⟩
  · exact h.elim
theorem Rel.put {K : PySem.W.Frag} {hp : Addr} {F0 H0 F H F' H' : Hp} {σ : L2.St} {ρ : Rho} {s s' : HS} {i : Nat} {v : V} {x : Sl} (R : Rel K T hp F0 H0 F H σ ρ s) (g : Grow K T hp F H F' H' s') (n : NewSl K hp H F' H' v x) (hi : i < ρ.length) :
    Rel K T hp F0 H0 F' H' (σ.set i (some v)) (ρ.set i x) s' := by
  cases x with
  | dat d => exact (R.grow g).setD hi n
  | own xs =>
    obtain ⟨a, rfl, n⟩ := n
    obtain ⟨vs, h1, h2⟩ := n.ex
    refine (R.grow g).set hi ⟨a, vs, rfl, h1, h2, n.nF, n.nh, fun o e => ?_⟩ fun ys e j zs hj hz w => ?_
    · exact Classical.byContradiction fun l => l (n.lo o (R.g.st _ _ e l))
    · obtain ⟨b, ws, g1, g2, g3, g4, g5, g6⟩ := R.sl j _ hz
      rw [g1] at w
      cases w
      exact absurd (n.lo _ g2) (not_loose_lst n.nh)
  | un => exact n.elim
  | hand => exact n.elim
theorem evs_set {K : PySem.W.Frag} {te : TE} {i : Nat} {f : Rho → M Sl} (h : EvN K T EX te f) : EvS T EX K (tAsg te (gName i)) (fSet i f) := fun R q =>
  h R (q.bind.mono fun x s1 k F' H' v g n => by
    obtain ⟨hi, k2⟩ := k.bind.putSl
    exact k2.ret F' H' _ g.ff (R.put g n hi))
/-- x = e -/
theorem ds_set (i : Nat) {x : Str} {e : Expr} {f : Rho → M Sl} (hN : X.N.Nodup) (h : DN X T EX e f) (hi : X.N[i]? = some x := by rfl) (hx : Loc X.env.scope x := by first | exact Or.inl rfl | exact Or.inr rfl) (hs : swapsWith e (some (.Name x p)) pos.line X.env = pure false := by rfl)
    (hf : X.fn x = true ∨ X.env.scope.names.lookup x = some .local := by first | exact Or.inl rfl | exact Or.inr rfl) : DS X T EX (.Assign [.Name x p] e pos) (fSet i f) := let ⟨_, a, b⟩ := h; ⟨_, ps_set hN hi hx a hs hf, evs_set b⟩
/-- x = [e for ..] on one line, x a local -/
theorem ds_setLcO (i : Nat) {y : Str} {py spos : Pos} {elt tg iter : Expr} {ifs : List Expr} {scope : Scope} {own : List (Str × Nat)} {pt : Pat} {fi : Rho → M (List D)} {cond : Rho → M Bool} {fe : Rho → M D} (hc : X.calm = true) (hN : X.N.Nodup)
    (hsw : swapsWith (.ListComp elt [⟨tg, iter, ifs, 0⟩] scope pos) (some (.Name y py)) spos.line X.env = pure true) (ok : BlkOk X.N X.env.scope scope own)
    (hsl : ∀ j ∈ pt.slots, j ∈ own.map (·.2)) (hi : DIB X T EX tg iter fi)
    (hg : ∀ (s : Shared) (H : Hp) (C : Addr) (cl : List (Str × Addr)) (fp : List Addr), PG (X.blk s H scope (compEnvC scope cl C X.env) fp) tg (pt.g X.K))
    (ht : ∀ (s : Shared) (H : Hp) (C : Addr) (cl : List (Str × Addr)) (fp : List Addr), DTs (X.blk s H scope (compEnvC scope cl C X.env) fp) T noEX ifs cond)
    (he : ∀ (s : Shared) (H : Hp) (C : Addr) (cl : List (Str × Addr)) (fp : List Addr), DE (X.blk s H scope (compEnvC scope cl C X.env) fp) T noEX elt fe) (hs : ∀ x, foldedSetIterable iter X.env x = pure x := by intro _; rfl)
    (hy : X.N[i]? = some y := by rfl) (hyl : X.env.scope.names.lookup y = some .local := by rfl) :
    DS X T EX (.Assign [.Name y py] (.ListComp elt [⟨tg, iter, ifs, 0⟩] scope pos) spos) (fSet i (nOwn (fLc (own.map (·.2)) fi pt.bind cond fe))) := by
  obtain ⟨wi, i1, i2⟩ := hi
  have ev : EvL X.K T EX (tLc wi (pt.g X.K) (ttOf X.K T noEX cond) (tOf X.K T noEX fe) (own.map (·.2))) (fLc (own.map (·.2)) fi pt.bind cond fe) := evl_lc hsl i2
  exact ⟨_, ps_setLc (tt := ttOf X.K T noEX cond) (te := tOf X.K T noEX fe) hc hN hy hyl hsw i1 ok hg ht (fun s H C cl fp => (he s H C cl fp).pe) hs, evs_set ev.n⟩
theorem ds_setLcD (i : Nat) {y : Str} {py spos : Pos} {elt tg iter : Expr} {ifs : List Expr} {scope : Scope} {own : List (Str × Nat)} {pt : Pat} {fi : Rho → M (List D)} {cond : Rho → M Bool} {fe : Rho → M D} (hc : X.calm = true) (hN : X.N.Nodup)
    (hsw : swapsWith (.ListComp elt [⟨tg, iter, ifs, 0⟩] scope pos) (some (.Name y py)) spos.line X.env = pure true) (ok : BlkOk X.N X.env.scope scope own)
    (hsl : ∀ j ∈ pt.slots, j ∈ own.map (·.2)) (hi : DIB X T EX tg iter fi)
    (hg : ∀ (s : Shared) (H : Hp) (C : Addr) (cl : List (Str × Addr)) (fp : List Addr), PG (X.blk s H scope (compEnvC scope cl C X.env) fp) tg (pt.g X.K))
    (ht : ∀ (s : Shared) (H : Hp) (C : Addr) (cl : List (Str × Addr)) (fp : List Addr), DTs (X.blk s H scope (compEnvC scope cl C X.env) fp) T noEX ifs cond)
    (he : ∀ (s : Shared) (H : Hp) (C : Addr) (cl : List (Str × Addr)) (fp : List Addr), DE (X.blk s H scope (compEnvC scope cl C X.env) fp) T noEX elt fe) (hs : ∀ x, foldedSetIterable iter X.env x = pure x := by intro _; rfl)
    (hy : X.N[i]? = some y := by rfl) (hyl : X.env.scope.names.lookup y = some .local := by rfl) :
    DS X T EX (.Assign [.Name y py] (.ListComp elt [⟨tg, iter, ifs, 0⟩] scope pos) spos) (fSet i (nDat (fList (fLc (own.map (·.2)) fi pt.bind cond fe)))) := by
  obtain ⟨wi, i1, i2⟩ := hi
  have ev : EvL X.K T EX (tLc wi (pt.g X.K) (ttOf X.K T noEX cond) (tOf X.K T noEX fe) (own.map (·.2))) (fLc (own.map (·.2)) fi pt.bind cond fe) := evl_lc hsl i2
  exact ⟨_, ps_setLc (tt := ttOf X.K T noEX cond) (te := tOf X.K T noEX fe) hc hN hy hyl hsw i1 ok hg ht (fun s H C cl fp => (he s H C cl fp).pe) hs, evs_set (EvE.n ev.toE)⟩
/-- a, b = e -/
def fUnpack (pt : Pat) (f : Rho → M D) : Rho → M Ctl := fun ρ => do
  let d ← f ρ
  let ρ' ← O.lift (pt.bind d ρ)
  pure (.nx ρ')
theorem ds_unpack {pt : Pat} {tg e : Expr} {f : Rho → M D} (hg : PG X tg (pt.g X.K)) (h : DE X T EX e f) (hs : swapsWithSole [tg] e pos.line X.env = pure false := by rfl) (hw : swappedStores [tg] e X.env = pure none := by rfl)
    (hh : (assignEach [tg] X.env).map (·.2) = [assign tg X.env] := by rfl) : DS X T EX (.Assign [tg] e pos) (fUnpack pt f) := by
  obtain ⟨_, a1, a2⟩ := h
  refine ⟨_, ps_asg a1 hg hs hw hh, fun R q => a2 R (q.bind.mono fun d s1 k F' H' v g r => ?_)⟩
  obtain ⟨ρ', e1, k2⟩ := k.bind.lift
  exact Pat.ok pt (R.grow g) r e1 fun σ' R' _ => k2.ret F' H' σ' g.ff R'
/-- a, b = e1, e2: two locals -/
def fPar (i j : Nat) (f g : Rho → M Sl) : Rho → M Ctl := fun ρ => do
  let x ← f ρ
  let y ← g ρ
  let ρ1 ← putSl i x ρ
  let ρ2 ← putSl j y ρ1
  pure (.nx ρ2)
theorem NewSl.grow {K : PySem.W.Frag} {hp : Addr} {H F1 H1 F2 H2 : Hp} {s2 : HS} {v : V} {x : Sl} (n : NewSl K hp H F1 H1 v x) (g : Grow K T hp F1 H1 F2 H2 s2) : NewSl K hp H F2 H2 v x := by
  cases x with
  | dat d => exact Rp.up g.ff (show Rp K F1 v d from n)
  | own xs =>
    obtain ⟨a, e, n⟩ := n
    obtain ⟨vs, h1, h2⟩ := n.ex
    refine ⟨a, e, ⟨vs, g.st _ _ h1 (not_loose_lst n.nh), RpAll.up g.ff h2⟩, ?_, n.nh, n.lo⟩
    cases z : F2 a with
    | none => rfl
    | some u =>
      rcases g.nw _ _ z with z1 | z1
      · rw [n.nF] at z1; cases z1
      · exact absurd (z1 _ h1) (not_loose_lst n.nh)
  | un => exact n.elim
  | hand => exact n.elim
theorem Rel.put2 {K : PySem.W.Frag} {hp : Addr} {F0 H0 F H F1 H1 F2 H2 : Hp} {σ : L2.St} {ρ : Rho} {s s1 s2 : HS} {i j : Nat} {v w : V} {x y : Sl} (R : Rel K T hp F0 H0 F H σ ρ s) (g1 : Grow K T hp F H F1 H1 s1) (g2 : Grow K T hp F1 H1 F2 H2 s2)
    (n1 : NewSl K hp H F1 H1 v x) (n2 : NewSl K hp H1 F2 H2 w y) (hi : i < ρ.length) (hj : j < ρ.length) : Rel K T hp F0 H0 F2 H2 ((σ.set i (some v)).set j (some w)) ((ρ.set i x).set j y) s2 :=
  Rel.put (R.put g1 n1 hi) g2 n2 (by rw [List.length_set]; exact hj)
theorem ds_par (i j : Nat) {x y : Str} {a b : Expr} {px py pt : Pos} {kt k2 : Nat} {pt2 : Pos} {f g : Rho → M Sl} (hc : X.calm = true) (hN : X.N.Nodup) (ha : DN X T EX a f) (hb : DN X T EX b g) (hij : i ≠ j := by decide) (hi : X.N[i]? = some x := by rfl) (hj : X.N[j]? = some y := by rfl)
    (hx : X.env.scope.names.lookup x = some .local := by rfl) (hy : X.env.scope.names.lookup y = some .local := by rfl)
    (hw : swappedStores [.Tuple [.Name x px, .Name y py] kt pt] (.Tuple [a, b] k2 pt2) X.env = pure (some [x, y]) := by rfl)
    (hs : swapsWithSole [.Tuple [.Name x px, .Name y py] kt pt] (.Tuple [a, b] k2 pt2) pos.line X.env = pure false := by rfl)
    (he : starEach [a, b] X.env = (false, eval a X.env) :: starEach [b] X.env := by rfl) (he2 : starEach [b] X.env = (false, eval b X.env) :: starEach [] X.env := by rfl) :
    DS X T EX (.Assign [.Tuple [.Name x px, .Name y py] kt pt] (.Tuple [a, b] k2 pt2) pos) (fPar i j f g) := by
  obtain ⟨_, a1, a2⟩ := ha
  obtain ⟨_, b1, b2⟩ := hb
  refine ⟨_, ps_par hc hN hi hj hij hx hy (pa_cons a1 (pa_cons b1 pa_nil he2) he) hw hs, fun R q => a2 R (q.bind.mono fun u s1 k F1 H1 v g1 n1 => b2 (R.grow g1) (k.bind.mono fun z s2 k2 F2 H2 w g2 n2 => ?_))⟩
  obtain ⟨hi', k3⟩ := k2.bind.putSl
  obtain ⟨hj', k4⟩ := k3.bind.putSl
  rw [List.length_set] at hj'
  exact ⟨v, w, rfl, k4.ret F2 H2 _ (fun a o e => g2.ff _ _ (g1.ff _ _ e)) (R.put2 g1 g2 n1 n2 hi' hj')⟩
/-! ### lists of the def's own, changed -/
def ownAt (i : Nat) (ρ : Rho) : M (List D) := match ρ[i]? with
  | some (.own xs) => pure xs
  | _ => M.bad
theorem Post.ownAt {i : Nat} {ρ : Rho} {s : HS} {P : List D → HS → Prop} {W : String → HS → Prop} (h : Post (Jw.ownAt i ρ s) P W) : ∃ xs, ρ[i]? = some (.own xs) ∧ P xs s := by
  unfold Jw.ownAt at h
  cases q : ρ[i]? with
  | none => rw [q] at h; exact h.elim
  | some x =>
    rw [q] at h
    cases x with
    | own xs => exact ⟨xs, rfl, h⟩
    | un => exact h.elim
    | dat d => exact h.elim
    | hand => exact h.elim
theorem Rel.write {K : PySem.W.Frag} {hp : Addr} {F0 H0 F H : Hp} {σ : L2.St} {ρ : Rho} {s : HS} {i : Nat} {xs ys : List D} {a : Addr} {vs ws : List V} (R : Rel K T hp F0 H0 F H σ ρ s) (h : ρ[i]? = some (.own xs)) (ha : σ[i]? = some (some (.ref a))) (hv : H a = some (.lst vs)) (hw : RpAll K F ws ys) :
    Rel K T hp F0 H0 F (upd H a (.lst ws)) σ (ρ.set i (.own ys)) s := by
  have hi : i < ρ.length := (List.getElem?_eq_some_iff.mp h).1
  obtain ⟨a', vs', h1, h2, h3, h4, h5, h6⟩ := R.sl i _ h
  rw [ha] at h1
  cases h1
  refine ⟨R.g.write h6 h4 h5 hv, fun j y e => ?_, fun j k zs us e1 e2 n => ?_, by rw [List.length_set]; exact R.len⟩
  · by_cases z : i = j
    · subst z
      rw [List.getElem?_set_self hi] at e
      cases e
      exact ⟨a, ws, ha, upd_same, hw, h4, h5, h6⟩
    · rw [List.getElem?_set_ne z] at e
      have hy := R.sl j y e
      cases y with
      | un => trivial
      | dat d => exact hy
      | hand => exact hy
      | own zs =>
        obtain ⟨b, us, g1, g2, g3, g4, g5, g6⟩ := hy
        refine ⟨b, us, g1, ?_, g3, g4, g5, g6⟩
        rw [upd_ne]
        · exact g2
        · exact fun w => R.ne i j xs zs h e z (by rw [ha, g1, w])
  · have ne : ∀ {m : Nat} {us : List D}, (ρ.set i (.own ys))[m]? = some (.own us) → ∃ us', ρ[m]? = some (.own us') := fun {m us} e => by
      by_cases z : i = m
      · subst z; exact ⟨xs, h⟩
      · rw [List.getElem?_set_ne z] at e
        exact ⟨us, e⟩
    obtain ⟨_, f1⟩ := ne e1
    obtain ⟨_, f2⟩ := ne e2
    exact R.ne j k _ _ f1 f2 n
def fAppend (i : Nat) (f : Rho → M D) : Rho → M Ctl := fun ρ => do
  let xs ← ownAt i ρ
  let d ← f ρ
  if xs.length < 16777216 then pure (.nx (ρ.set i (.own (xs ++ [d])))) else M.bad
theorem ds_append (i : Nat) {x : Str} {e : Expr} {f : Rho → M D} {px apos cpos : Pos} (h : DE X T EX e f) (hN : X.N[i]? = some x := by rfl) (hv : Vis X.env.scope x := by first | exact Or.inl rfl | exact Or.inr (Or.inl rfl) | exact Or.inr (Or.inr rfl)) (hd : (x == ("__debug__" : Str)) = false := by decide)
    (hcd : (x == ("__classdict__" : Str)) = false := by decide) (hb : attributeBase (.Name x px) "append" X.env (eval (.Name x px) X.env) = eval (.Name x px) X.env := by rfl)
    (hpl : ((backTo cpos (starEach [e] X.env)).all (fun x => !x.fst) && (backToKw cpos (keywordEach [] X.env)).all (fun x => x.fst.isSome) && decide ([e].length + ([] : List Keyword).length + (if ([] : List Keyword).isEmpty = true then 0 else 1) < 30)) = true := by rfl)
    (hl : (apos.endLine == cpos.line) = true := by rfl) (he : starEach [e] X.env = (false, eval e X.env) :: starEach [] X.env := by rfl) (hs : swapsWith (.Call (.Attribute (.Name x px) "append" apos) [e] [] cpos) none pos.line X.env = pure false := by rfl) :
    DS X T EX (.Expr (.Call (.Attribute (.Name x px) "append" apos) [e] [] cpos) pos) (fAppend i f) := by
  obtain ⟨_, a1, a2⟩ := h
  refine ⟨_, ps_expr (pe_bm PySem.F.plainAttrs_list PySem.F.slot_list_append PySem.F.type_list_append mt_append (pe_var hN hv hd hcd) (pa_cons a1 pa_nil he) hb hpl hl he rfl) hs, fun {hp F0 H0 F H σ ρ s E} R q => ?_⟩
  obtain ⟨xs, hx, q2⟩ := q.bind.ownAt
  obtain ⟨a, vs, h1, h2, h3, h4, h5, h6⟩ := R.sl i _ hx
  refine ⟨.ref a, h1, .inl ⟨rfl, _, .inl (.inl h2)⟩, a2 R (q2.bind.mono fun d s1 k F1 H1 v g r => ?_)⟩
  split at k
  case isFalse => exact k.elim
  rename_i hz
  have h2' := g.st _ _ h2 (not_loose_lst h5)
  exact ⟨a, vs, v, rfl, rfl, h2', by rw [h3.len, sizeLine_eq]; exact hz, k.ret F1 _ σ g.ff ((R.grow g).write hx h1 h2' ((RpAll.up g.ff h3).app (.cons r .nil)))⟩
def fExtend (i : Nat) (f : Rho → M D) : Rho → M Ctl := fun ρ => do
  let xs ← ownAt i ρ
  let d ← f ρ
  match d with
  | .list ys => if xs.length + ys.length ≤ 16777216 then pure (.nx (ρ.set i (.own (xs ++ ys)))) else M.bad
  | _ => M.bad
theorem ds_extend (i : Nat) {x : Str} {e : Expr} {f : Rho → M D} {px apos cpos : Pos} (h : DB X T EX e f) (hN : X.N[i]? = some x := by rfl) (hv : Vis X.env.scope x := by first | exact Or.inl rfl | exact Or.inr (Or.inl rfl) | exact Or.inr (Or.inr rfl)) (hd : (x == ("__debug__" : Str)) = false := by decide)
    (hcd : (x == ("__classdict__" : Str)) = false := by decide) (hb : attributeBase (.Name x px) "extend" X.env (eval (.Name x px) X.env) = eval (.Name x px) X.env := by rfl)
    (hpl : ((backTo cpos (starEach [e] X.env)).all (fun x => !x.fst) && (backToKw cpos (keywordEach [] X.env)).all (fun x => x.fst.isSome) && decide ([e].length + ([] : List Keyword).length + (if ([] : List Keyword).isEmpty = true then 0 else 1) < 30)) = true := by rfl)
    (hl : (apos.endLine == cpos.line) = true := by rfl) (he : starEach [e] X.env = (false, eval e X.env) :: starEach [] X.env := by rfl) (hs : swapsWith (.Call (.Attribute (.Name x px) "extend" apos) [e] [] cpos) none pos.line X.env = pure false := by rfl) :
    DS X T EX (.Expr (.Call (.Attribute (.Name x px) "extend" apos) [e] [] cpos) pos) (fExtend i f) := by
  obtain ⟨_, a1, a2⟩ := h
  refine ⟨_, ps_expr (pe_bm PySem.F.plainAttrs_list PySem.F.slot_list_extend PySem.F.type_list_extend mt_extend (pe_var hN hv hd hcd) (pa_cons a1 pa_nil he) hb hpl hl he rfl) hs, fun {hp F0 H0 F H σ ρ s E} R q => ?_⟩
  obtain ⟨xs, hx, q2⟩ := q.bind.ownAt
  obtain ⟨a, vs, h1, h2, h3, h4, h5, h6⟩ := R.sl i _ hx
  refine ⟨.ref a, h1, .inl ⟨rfl, _, .inl (.inl h2)⟩, a2 R (q2.bind.mono fun d s1 k F1 H1 v g r => ?_)⟩
  cases d with
  | list ys =>
    dsimp only at k
    split at k
    case isFalse => exact k.elim
    rename_i hz
    have h2' := g.st _ _ h2 (not_loose_lst h5)
    obtain ⟨b, ws, rfl, g1, g2⟩ := r.list g.sub
    exact ⟨a, b, vs, ws, rfl, rfl, h2', g1, by rw [h3.len, g2.len, sizeLine_eq]; exact hz, k.ret F1 _ σ g.ff ((R.grow g).write hx h1 h2' ((RpAll.up g.ff h3).app g2))⟩
  | none => exact k.elim
  | bool _ => exact k.elim
  | int _ => exact k.elim
  | str _ => exact k.elim
  | tuple _ => exact k.elim
  | dict _ => exact k.elim
/-! ### the rest of the statements -/
def fRet (f : Rho → M D) : Rho → M Ctl := fun ρ => do
  let d ← f ρ
  pure (.rt d)
theorem ds_ret {e : Expr} {f : Rho → M D} (h : DE X T EX e f) : DS X T EX (.Return (some e) pos) (fRet f) := let ⟨_, a, b⟩ := h; ⟨_, ps_ret a, fun R q => b R (q.bind.mono fun d s1 k F' H' v g r => k.ret F' H' v (R.g.trans g) r)⟩
def fDrop (f : Rho → M D) : Rho → M Ctl := fun ρ => do
  let _ ← f ρ
  pure (.nx ρ)
theorem ds_expr {e : Expr} {f : Rho → M D} (h : DE X T EX e f) (hs : swapsWith e none pos.line X.env = pure false := by rfl) : DS X T EX (.Expr e pos) (fDrop f) := let ⟨_, a, b⟩ := h; ⟨_, ps_expr a hs, fun R q => b R (q.bind.mono fun d s1 k F' H' v g r => k.ret F' H' _ g.ff (R.grow g))⟩
def fIfS (t : Rho → M Bool) (f g : Rho → M Ctl) : Rho → M Ctl := fun ρ => do
  let c ← t ρ
  if c then f ρ else g ρ
theorem ds_if {c : Expr} {a b : List Stmt} {t : Rho → M Bool} {f g : Rho → M Ctl} (hc : DT X T EX c t) (ha : DSs X T EX a f) (hb : DSs X T EX b g) : DS X T EX (.If c a b pos) (fIfS t f g) := by
  obtain ⟨_, c1, c2⟩ := hc
  obtain ⟨_, a1, a2⟩ := ha
  obtain ⟨_, b1, b2⟩ := hb
  refine ⟨_, ps_if c1 a1 b1, fun R q => c2 R (q.bind.mono fun c s1 k F1 H1 g1 => ?_)⟩
  cases c with
  | true =>
    rw [if_pos rfl]
    rw [if_pos rfl] at k
    exact a2 (R.grow g1) (Post.mono k fun c s2 k2 => k2.up g1.ff)
  | false =>
    rw [if_neg Bool.false_ne_true]
    rw [if_neg Bool.false_ne_true] at k
    exact b2 (R.grow g1) (Post.mono k fun c s2 k2 => k2.up g1.ff)
def fBreak : Rho → M Ctl := fun ρ => pure (.bk ρ)
def fCont : Rho → M Ctl := fun ρ => pure (.ct ρ)
theorem ds_break : DS X T EX (.Break pos) fBreak := ⟨_, ps_break, fun R q => q.ret _ _ _ (fun _ _ h => h) R⟩
theorem ds_continue : DS X T EX (.Continue pos) fCont := ⟨_, ps_continue, fun R q => q.ret _ _ _ (fun _ _ h => h) R⟩
theorem ds_pass : DS X T EX (.Pass pos) fSkip := ⟨_, ps_pass, fun R q => q.ret _ _ _ (fun _ _ h => h) R⟩
/-- where no exception may be: such a statement is not reached -/
def fRaise (c : String) : Rho → M Ctl := fun _ => M.raise c
theorem ds_raise0 (c : String) {st : Stmt} : DS X T noEX st (fRaise c) := ⟨_, ps_never, fun R q => (show WX _ _ _ _ _ noEX c _ from q) _ _ R.g⟩
def forL (bp : D → Rho → Option Rho) (body : Rho → M Ctl) : List D → Rho → M Ctl
  | [], ρ => pure (.nx ρ)
  | x :: xs, ρ => do
    let ρ1 ← O.lift (bp x ρ)
    let c ← body ρ1
    match c with
    | .nx ρ2 => forL bp body xs ρ2
    | .ct ρ2 => forL bp body xs ρ2
    | .bk ρ2 => pure (.nx ρ2)
    | .rt d => pure (.rt d)
def fFor (fi : Rho → M (List D)) (bp : D → Rho → Option Rho) (body : Rho → M Ctl) : Rho → M Ctl := fun ρ => do
  let ds ← fi ρ
  forL bp body ds ρ
theorem ds_for {tg iter : Expr} {body : List Stmt} {pt : Pat} {fi : Rho → M (List D)} {fb : Rho → M Ctl} (hp : PassesOwn (model X.prog X.w) X.A X.env X.xe) (hc : X.calm = true) (hi : DI X T EX tg iter fi) (hg : PG X tg (pt.g X.K)) (hb : DSs X T EX body fb)
    (hs : ∀ x, foldedSetIterable iter X.env x = pure x := by intro _; rfl) : DS X T EX (.For tg iter body [] pos) (fFor fi pt.bind fb) := by
  obtain ⟨_, i1, i2⟩ := hi
  obtain ⟨_, b1, b2⟩ := hb
  refine ⟨_, ps_for hp hc i1 hg b1 hs, fun {hp F0 H0 F H σ ρ s E} R q => i2 R (q.bind.mono fun ds s1 k F1 H1 J g1 w1 => ?_)⟩
  refine ⟨fun i m σ' H' => m = ds.length - i ∧ i ≤ ds.length ∧ ∃ (F' : Hp) (ρ' : Rho) (s' : HS), (∀ a o, F1 a = some o → F' a = some o) ∧ Rel X.K T hp F0 H0 F' H' σ' ρ' s' ∧ Post (forL pt.bind fb (ds.drop i) ρ' s') (CtlQ X.K T hp F0 H0 F E) (WX X.K T hp F0 H0 EX),
    ⟨_, rfl, Nat.zero_le _, F1, ρ, s1, fun _ _ h => h, R.grow g1, by rw [List.drop_zero]; exact k⟩, ?_⟩
  rintro i m σ' H' ⟨rfl, hi, F', ρ', s', e', R', p'⟩
  obtain ⟨wgo, wst, wyl⟩ := w1 F0 H0 F' H' s' e' R'.g
  by_cases hlt : i < ds.length
  · refine .inr ⟨wgo i hlt, fun σ2 H2 => ∃ m', m' < ds.length - i ∧ (m' = ds.length - (i + 1) ∧ i + 1 ≤ ds.length ∧ ∃ (F' : Hp) (ρ' : Rho) (s' : HS), (∀ a o, F1 a = some o → F' a = some o) ∧ Rel X.K T hp F0 H0 F' H2 σ2 ρ' s' ∧
      Post (forL pt.bind fb (ds.drop (i + 1)) ρ' s') (CtlQ X.K T hp F0 H0 F E) (WX X.K T hp F0 H0 EX)), fun σ2 H2 h => h, fun x H2 y => ?_⟩
    have hx : ds[i]? = some ds[i] := List.getElem?_eq_getElem hlt
    obtain ⟨F2, g2, r2⟩ := wyl i _ x H2 hx y
    rw [List.drop_eq_getElem_cons hlt] at p'
    unfold forL at p'
    obtain ⟨ρ1, eb, p1⟩ := p'.bind.lift
    refine Pat.ok pt (R'.grow g2) r2 eb fun σ3 R3 _ => b2 R3 (p1.bind.mono fun c s3 k3 => ?_)
    have up2 : ∀ a o, F1 a = some o → F2 a = some o := fun a o h => g2.ff _ _ (e' a o h)
    have nxt : ∀ (ρ4 : Rho), Post (forL pt.bind fb (ds.drop (i + 1)) ρ4 s3) (CtlQ X.K T hp F0 H0 F E) (WX X.K T hp F0 H0 EX) → ∀ F4 H4 σ4, (∀ a o, F2 a = some o → F4 a = some o) → Rel X.K T hp F0 H0 F4 H4 σ4 ρ4 s3 →
        ∃ m', m' < ds.length - i ∧ (m' = ds.length - (i + 1) ∧ i + 1 ≤ ds.length ∧ ∃ (F' : Hp) (ρ' : Rho) (s' : HS), (∀ a o, F1 a = some o → F' a = some o) ∧ Rel X.K T hp F0 H0 F' H4 σ4 ρ' s' ∧ Post (forL pt.bind fb (ds.drop (i + 1)) ρ' s') (CtlQ X.K T hp F0 H0 F E) (WX X.K T hp F0 H0 EX)) :=
      fun ρ4 k4 F4 H4 σ4 e4 R4 => ⟨_, by omega, rfl, hlt, F4, ρ4, s3, fun a o h => e4 a o (up2 a o h), R4, k4⟩
    cases c with
    | nx ρ4 => exact nxt ρ4 k3
    | ct ρ4 => exact nxt ρ4 k3
    | bk ρ4 => exact fun F4 H4 σ4 e4 R4 => k3.ret F4 H4 σ4 (fun a o h => e4 a o (up2 a o (g1.ff _ _ h))) R4
    | rt d => exact k3.ret
  · have e : i = ds.length := by omega
    subst e
    rw [List.drop_length] at p'
    exact .inl ⟨wst, p'.ret F' H' σ' (fun a o h => e' a o (g1.ff _ _ h)) R'⟩
def whileL (t : Rho → M Bool) (body : Rho → M Ctl) : Nat → Rho → M Ctl
  | 0, _ => M.bad
  | n + 1, ρ => do
    let b ← t ρ
    if b then do
      let c ← body ρ
      match c with
      | .nx ρ2 => whileL t body n ρ2
      | .ct ρ2 => whileL t body n ρ2
      | .bk ρ2 => pure (.nx ρ2)
      | .rt d => pure (.rt d)
    else pure (.nx ρ)
theorem evs_while {K : PySem.W.Frag} (n : Nat) {tc : TT} {tb : TS} {t : Rho → M Bool} {fb : Rho → M Ctl} (c2 : EvT K T EX tc t) (b2 : EvS T EX K tb fb) : EvS T EX K (tWhile tc tb) (whileL t fb n) := fun {hp F0 H0 F H σ ρ s E} R q => by
  refine ⟨fun m σ' H' => ∃ (F' : Hp) (ρ' : Rho) (s' : HS), (∀ a o, F a = some o → F' a = some o) ∧ Rel K T hp F0 H0 F' H' σ' ρ' s' ∧ Post (whileL t fb m ρ' s') (CtlQ K T hp F0 H0 F E) (WX K T hp F0 H0 EX), ⟨n, F, ρ, s, fun _ _ h => h, R, q⟩, ?_⟩
  rintro m σ' H' ⟨F', ρ', s', e', R', p'⟩
  cases m with
  | zero => exact p'.elim
  | succ m =>
    unfold whileL at p'
    refine c2 R' (p'.bind.mono fun b s1 k F1 H1 g1 => ?_)
    cases b with
    | false =>
      rw [if_neg Bool.false_ne_true]
      rw [if_neg Bool.false_ne_true] at k
      exact k.ret F1 H1 σ' (fun a o h => g1.ff _ _ (e' a o h)) (R'.grow g1)
    | true =>
      rw [if_pos rfl]
      rw [if_pos rfl] at k
      refine ⟨fun σ2 H2 => ∃ m', m' < m + 1 ∧ ∃ (F' : Hp) (ρ' : Rho) (s' : HS), (∀ a o, F a = some o → F' a = some o) ∧ Rel K T hp F0 H0 F' H2 σ2 ρ' s' ∧ Post (whileL t fb m' ρ' s') (CtlQ K T hp F0 H0 F E) (WX K T hp F0 H0 EX), fun σ2 H2 h => h, ?_⟩
      refine b2 (R'.grow g1) (k.bind.mono fun c s2 k2 => ?_)
      cases c with
      | nx ρ4 => exact fun F4 H4 σ4 e4 R4 => ⟨m, Nat.lt_succ_self m, F4, ρ4, s2, fun a o h => e4 a o (g1.ff _ _ (e' a o h)), R4, k2⟩
      | ct ρ4 => exact fun F4 H4 σ4 e4 R4 => ⟨m, Nat.lt_succ_self m, F4, ρ4, s2, fun a o h => e4 a o (g1.ff _ _ (e' a o h)), R4, k2⟩
      | bk ρ4 => exact fun F4 H4 σ4 e4 R4 => k2.ret F4 H4 σ4 (fun a o h => e4 a o (g1.ff _ _ (e' a o h))) R4
      | rt d => exact k2.ret

theorem ds_while (n : Nat) {c : Expr} {body : List Stmt} {t : Rho → M Bool} {fb : Rho → M Ctl} (hp : PassesOwn (model X.prog X.w) X.A X.env X.xe) (hc : DT X T EX c t) (hb : DSs X T EX body fb) : DS X T EX (.While c body [] pos) (whileL t fb n) :=
  let ⟨_, c1, c2⟩ := hc
  let ⟨_, b1, b2⟩ := hb
  ⟨_, ps_while hp c1 b1, evs_while n c2 b2⟩
end
end Jw
namespace Jw
open PySem PySem.Spec PyProof.Rows L2
/-! ### the drawing object, read and written by place -/
def hIx (k : Nat) (s : HS) : Option D := match k with
  | 0 => some (.list (s.cells.map PyData.int))
  | 1 => some (.int s.nxt)
  | 2 => some (.int s.rest)
  | 3 => some (.int s.mix)
  | 4 => some (.int s.cnt)
  | _ => none
def hPut (k : Nat) (n : Int) (s : HS) : Option HS := match k with
  | 1 => some { s with nxt := n }
  | 2 => some { s with rest := n }
  | 3 => some { s with mix := n }
  | 4 => some { s with cnt := n }
  | _ => none
def hGet (k : Nat) : M D := fun s => match hIx k s with
  | some d => .ok d s
  | none => .bad
def hSet (k : Nat) (n : Int) (ρ : Rho) : M Ctl := fun s => match hPut k n s with
  | some s' => .ok (.nx ρ) s'
  | none => .bad
def fHix (i k : Nat) : Rho → M D := fun ρ => match ρ[i]? with
  | some .hand => hGet k
  | _ => M.bad
def fHput (i k : Nat) (f : Rho → M D) : Rho → M Ctl := fun ρ => do
  let d ← f ρ
  match ρ[i]?, d with
  | some .hand, .int n => hSet k n ρ
  | _, _ => M.bad
section
variable {K : PySem.W.Frag} {T : List (Addr × Str)} {hp : Addr} {F0 H0 F H : Hp} {σ : L2.St} {ρ : Rho} {s s' : HS}
theorem Grow.putHand (a : Grow K T hp F0 H0 F H s) {c : Addr} (hc : F c = some (.lst (s.cells.map V.int))) (e : s'.cells = s.cells) : Grow K T hp F0 H0 F (upd H hp (.lst [.ref c, .int s'.nxt, .int s'.rest, .int s'.mix, .int s'.cnt])) s' := by
  obtain ⟨c0, z1, z2, _⟩ := a.hand
  have up : ∀ x u, H x = some u → (∀ zs, u ≠ .lst zs) → upd H hp (.lst [.ref c, .int s'.nxt, .int s'.rest, .int s'.mix, .int s'.cnt]) x = some u := fun x u q n => by
    rw [upd_ne (fun z => by rw [z, z2] at q; exact n _ (Option.some.inj q).symm)]
    exact q
  refine ⟨a.ff, a.nw, fun x u q l => ?_, fun x u q => ?_, fun q hq => ?_, ⟨c, z1, upd_same, by rw [e]; exact hc⟩, a.nt⟩
  · rw [upd_ne (fun z => l (.inl z))]
    exact a.st x u q l
  · rw [upd_ne (fun z => by rw [z, z1] at q; cases q)]
    exact a.sub x u q
  · obtain ⟨ps, h1, h2, h3⟩ := a.tabs q hq
    refine ⟨ps, up _ _ h1 (fun zs e => by cases e), h2, fun po cv hc => ?_⟩
    obtain ⟨c, e1, e2⟩ := h3 po cv hc
    exact ⟨c, e1, up _ _ e2 fun zs e => by unfold LamX.CodeO at e; cases e⟩
theorem Rel.putHand (R : Rel K T hp F0 H0 F H σ ρ s) {c : Addr} (hc : F c = some (.lst (s.cells.map V.int))) (e : s'.cells = s.cells) : Rel K T hp F0 H0 F (upd H hp (.lst [.ref c, .int s'.nxt, .int s'.rest, .int s'.mix, .int s'.cnt])) σ ρ s' := by
  refine ⟨R.g.putHand hc e, fun i x q => ?_, R.ne, R.len⟩
  have h := R.sl i x q
  cases x with
  | un => trivial
  | dat d => exact h
  | own xs =>
    obtain ⟨p, vs, h1, h2, h3, h4, h5, h6⟩ := h
    exact ⟨p, vs, h1, by rw [upd_ne h5]; exact h2, h3, h4, h5, h6⟩
  | hand => exact h
theorem Rp.intsOf {c : Addr} {ns : List Int} (h : F c = some (.lst (ns.map V.int))) : Rp K F (.ref c) (.list (ns.map PyData.int)) := .lst h (RpAll.ints ns)
end
section
variable {X : Cx} {T : List (Addr × Str)} {EX : String → Hp → Prop} {pos p p2 p3 : Pos}
theorem de_hix (i k : Nat) {x : Str} {kk : Nat} (hN : X.N[i]? = some x := by rfl) (hv : Vis X.env.scope x := by first | exact Or.inl rfl | exact Or.inr (Or.inl rfl) | exact Or.inr (Or.inr rfl)) (hd : (x == ("__debug__" : Str)) = false := by decide)
    (hcd : (x == ("__classdict__" : Str)) = false := by decide) : DE X T EX (.Subscript (.Name x p) (.Constant (.int k) kk p2) pos) (fHix i k) := by
  refine ⟨_, pe_ix ix_seq (pe_var hN hv hd hcd) pe_int (fun _ _ => rfl), fun {hp F0 H0 F H σ ρ s Q} R q => ?_⟩
  unfold fHix at q
  cases e : ρ[i]? with
  | none => rw [e] at q; exact q.elim
  | some y =>
    rw [e] at q
    cases y with
    | hand =>
      obtain ⟨c, h1, h2, h3⟩ := R.g.hand
      refine ⟨.ref hp, R.sl i _ e, ?_⟩
      have go : ∀ v d, atI [.ref c, .int s.nxt, .int s.rest, .int s.mix, .int s.cnt] (k : Int) = some v → hIx k s = some d → Rp X.K F v d → rIx X.K (.ref hp) (.int k) H Q := fun v d a b r => by
        have q2 : Post (match hIx k s with | some d => Res.ok d s | none => Res.bad) (fun d s' => ∀ F' H' v, Grow X.K T hp F H F' H' s' → Rp X.K F' v d → Q v H') (WX X.K T hp F0 H0 EX) := q
        rw [b] at q2
        exact .inl ⟨hp, _, _, v, rfl, rfl, .inl (.inl h2), a, q2 F H v R.g.refl r⟩
      show rIx X.K (.ref hp) (.int k) H Q
      rcases k with _ | _ | _ | _ | _ | k
      · exact go _ _ rfl rfl (Rp.intsOf h3)
      · exact go _ _ rfl rfl (.int _)
      · exact go _ _ rfl rfl (.int _)
      · exact go _ _ rfl rfl (.int _)
      · exact go _ _ rfl rfl (.int _)
      · exact q.elim
    | un => exact q.elim
    | own xs => exact q.elim
    | dat d => exact q.elim
theorem ds_hput (i k : Nat) {x : Str} {kk : Nat} {e : Expr} {f : Rho → M D} (h : DE X T EX e f) (hN : X.N[i]? = some x := by rfl) (hv : Vis X.env.scope x := by first | exact Or.inl rfl | exact Or.inr (Or.inl rfl) | exact Or.inr (Or.inr rfl)) (hd : (x == ("__debug__" : Str)) = false := by decide)
    (hcd : (x == ("__classdict__" : Str)) = false := by decide) (hs : swapsWithSole [.Subscript (.Name x p) (.Constant (.int k) kk p2) p3] e pos.line X.env = pure false := by rfl) (hw : swappedStores [.Subscript (.Name x p) (.Constant (.int k) kk p2) p3] e X.env = pure none := by rfl) :
    DS X T EX (.Assign [.Subscript (.Name x p) (.Constant (.int k) kk p2) p3] e pos) (fHput i k f) := by
  obtain ⟨_, a1, a2⟩ := h
  refine ⟨_, ps_asg a1 (pg_sub (pe_var hN hv hd hcd) pe_int set_list) hs hw rfl, fun {hp F0 H0 F H σ ρ s E} R q => a2 R (q.bind.mono fun d s1 k1 F1 H1 v g1 r1 => ?_)⟩
  have R1 := R.grow g1
  cases e0 : ρ[i]? with
  | none => rw [e0] at k1; exact k1.elim
  | some y =>
    rw [e0] at k1
    cases y with
    | hand =>
      cases d with
      | int n =>
        cases r1
        obtain ⟨c, h1, h2, h3⟩ := R1.g.hand
        refine ⟨.ref hp, R1.sl i _ e0, ?_⟩
        have go : ∀ (j : Nat) (s' : HS), ixN 5 (k : Int) = some j → hPut k n s1 = some s' → [V.ref c, .int s1.nxt, .int s1.rest, .int s1.mix, .int s1.cnt].set j (.int n) = [V.ref c, .int s'.nxt, .int s'.rest, .int s'.mix, .int s'.cnt] → s'.cells = s1.cells →
            rSetL (.ref hp) (.int k) (.int n) H1 (fun H3 => E.nx σ H3) := fun j s' a b z ec => by
          have k2 : Post (match hPut k n s1 with | some s' => Res.ok (Ctl.nx ρ) s' | none => Res.bad) (CtlQ X.K T hp F0 H0 F E) (WX X.K T hp F0 H0 EX) := k1
          rw [b] at k2
          refine ⟨hp, _, _, j, rfl, rfl, h2, a, ?_⟩
          rw [z]
          exact k2 F1 _ σ (fun a o h => g1.ff a o h) (R1.putHand h3 ec)
        show rSetL (.ref hp) (.int k) (.int n) H1 (fun H3 => E.nx σ H3)
        rcases k with _ | _ | _ | _ | _ | k
        · exact k1.elim
        · exact go _ _ rfl rfl rfl rfl
        · exact go _ _ rfl rfl rfl rfl
        · exact go _ _ rfl rfl rfl rfl
        · exact go _ _ rfl rfl rfl rfl
        · exact k1.elim
      | _ => exact k1.elim
    | un => exact k1.elim
    | own xs => exact k1.elim
    | dat d => exact k1.elim
end
end Jw
namespace Jw
open PySem PySem.Spec PyProof.Rows L2
/-! ### sum of a tuple of ints -/
def rSumT (K : PySem.W.Frag) : List V → Hp → VK → Prop := fun vs H Q => ∃ (a : Addr) (ns : List Int), vs = [V.ref a] ∧ SqT K H a (ns.map V.int) ∧ Q (.int ns.sum) H
def rSumD (K : PySem.W.Frag) : List V → Hp → VK → Prop := fun vs H Q => rSum K vs H Q ∨ rSumT K vs H Q
section
variable {prog : Program} {w : World} {A : Around} {E : Value → Shared → Prop} {s : Shared} {t : Addr} {its : List Value} {ns : List Int} {Q : Value → Shared → Prop}
theorem sumT_raw (hh : A.handled = none) (hl : s.heap.IsTuple t its.toArray) (hi : IntsAre its ns)
    (h : ∀ h' tk u, (∀ b o, s.heap.get? b = some o → h'.get? b = some o) → Q (.int ns.sum u) { s with heap := h', toks := tk }) : wpAny (model prog w) A (call (.builtin "sum") [.ref t]) Q E s := by
  obtain ⟨xs, e⟩ := hi.allInts.items
  have hn : numsOf (intItems xs).toList = ns := e ▸ hi.numsOf
  rw [nums_intItems] at hn
  rw [e] at hl
  refine PySem.W.ktm_sumG hh hl fun h' tk u hk => ?_
  have z := h h' tk u hk
  rw [preSum_eq, List.take_of_length_le (by simp), hn]
  exact z
end
section
variable {X : Cx} {T : List (Addr × Str)} {EX : String → Hp → Prop} {pos p p2 p3 : Pos}
theorem cr_sumD (hc : X.calm = true) : CallR X (.builtin "sum") (rSumD X.K) := by
  intro pins s σ H vs us Q I r h
  rcases h with h | ⟨a, ns, rfl, hs, q⟩
  · exact cr_sum hc pins s σ H vs us Q I r h
  · obtain ⟨its, rv, hl, _⟩ := I.tuple hs
    rw [Vals.ref1 r]
    exact sumT_raw (I.ok.hd hc) hl rv.ints fun h' tk t' hk => ⟨.int _, H, I.kept hk, ⟨_, rfl⟩, q⟩
def dSumD : D → Option D
  | .list xs => (dInts xs).map fun ns => .int ns.sum
  | .tuple xs => (dInts xs).map fun ns => .int ns.sum
  | _ => none
end
section
variable {K : PySem.W.Frag}
theorem c_sumD : CallP1 K (rSumD K) dSumD := by
  intro T hp F0 H0 F H s v a d Q G hv e q
  cases a with
  | list xs => exact .inl (c_sum (d := d) G hv e q)
  | tuple xs =>
    obtain ⟨bs, e1, rfl⟩ := map_some e
    obtain ⟨p1, vs1, rfl, h1, r1⟩ := hv.tuple
    cases r1.intsV e1
    exact .inr ⟨p1, bs, rfl, St.up G.sub h1, q F H _ G.refl (.int _)⟩
  | _ => cases e
/-! ### min, max of a list of data -/
theorem alikeB_all {xs : List D} (h : alikeB xs = true) : PySem.W.AlikeAll xs := by
  unfold alikeB at h
  rw [Bool.and_eq_true] at h
  refine ⟨fun x hx y hy => List.all_eq_true.mp (List.all_eq_true.mp h.1 x hx) y hy, fun x hx e => ?_⟩
  have z := List.all_eq_true.mp h.2 x hx
  subst e
  cases z
theorem nd_all_alike {xs : List D} (h : PySem.W.AlikeAll xs) : ndAll xs = true := by
  have key : ∀ ys : List D, (∀ y ∈ ys, PySem.W.alike y y = true) → ndAll ys = true := by
    intro ys
    induction ys with
    | nil => intro _; rfl
    | cons y ys ih =>
      intro k
      unfold ndAll
      rw [nd_alike y (k y List.mem_cons_self), ih fun z hz => k z (List.mem_cons_of_mem _ hz)]
      rfl
  exact key xs fun y hy => h.1 y hy y hy
def dBestL (best : D → List D → D) : D → Option D
  | .list (x :: xs) => if alikeB (x :: xs) = true ∧ PyData.depthAll (x :: xs) ≤ 64 then some (best x xs) else none
  | _ => none
theorem c_bestL (best : D → List D → D) : CallP1 K (rBestD K best) (dBestL best) := by
  intro T hp F0 H0 F H s v a d Q G hv e q
  cases a with
  | list ds =>
    cases ds with
    | nil => cases e
    | cons x xs =>
      simp only [dBestL] at e
      split at e
      · rename_i hz
        cases e
        obtain ⟨p1, vs1, rfl, h1, r1⟩ := hv.list G.sub
        refine ⟨p1, vs1, x, xs, rfl, .inl (.inl h1), (RpAll.up G.sub r1).dp (nd_all_alike (alikeB_all hz.1)), alikeB_all hz.1, hz.2, fun i v hv hb => ?_⟩
        obtain ⟨v2, h2, r2⟩ := r1.at hb
        rw [hv] at h2
        cases h2
        exact q F H v G.refl r2
      · cases e
  | _ => cases e
end
/-! ### from behind -/
def dBackT : D → Option D
  | .tuple xs => some (.tuple xs.reverse)
  | _ => none
def dBackL : D → Option D
  | .list xs => some (.list xs.reverse)
  | _ => none
section
variable {X : Cx} {T : List (Addr × Str)} {EX : String → Hp → Prop} {pos p p1 p2 p3 : Pos}
theorem RpAll.rev {K : PySem.W.Frag} {H : Hp} {vs : List V} {ds : List D} (h : RpAll K H vs ds) : RpAll K H vs.reverse ds.reverse := by
  induction vs generalizing ds with
  | nil => cases h; exact .nil
  | cons v vs ih =>
    cases h with
    | cons a b =>
      rw [List.reverse_cons, List.reverse_cons]
      exact (ih b).app (.cons a .nil)
theorem de_backT {e : Expr} {fa : Rho → M D} {k : Nat} (ha : DB X T EX e fa) : DE X T EX (.Subscript e (.Slice none none (some (.UnaryOp .USub (.Constant (.int 1) k p1) p2)) p3) pos) (f1 dBackT fa) := by
  obtain ⟨_, a1, a2⟩ := ha
  refine ⟨_, pe_backT a1, fun R q => a2 R (q.bind.mono fun d s1 k F1 H1 v g1 w1 => ?_)⟩
  obtain ⟨d', e', k2⟩ := k.lift
  have R1 := R.grow g1
  cases d with
  | tuple xs =>
    cases e'
    obtain ⟨a, vs, rfl, h1, r1⟩ := w1.tuple
    refine ⟨a, vs, rfl, St.up R1.g.sub h1, fun b hn => k2 _ _ _ (g1.trans (R1.g.new hn)) (.tup (.inl (.inl upd_same)) (RpAll.up (fun x u z => ?_) r1.rev))⟩
    rw [upd_ne (ne_of_none (R1.g.sub _ _ z) hn)]
    exact z
  | _ => cases e'
theorem de_backL {e : Expr} {fa : Rho → M D} {k : Nat} (ha : DB X T EX e fa) : DE X T EX (.Subscript e (.Slice none none (some (.UnaryOp .USub (.Constant (.int 1) k p1) p2)) p3) pos) (f1 dBackL fa) := by
  obtain ⟨_, a1, a2⟩ := ha
  refine ⟨_, pe_revL a1, fun R q => a2 R (q.bind.mono fun d s1 k F1 H1 v g1 w1 => ?_)⟩
  obtain ⟨d', e', k2⟩ := k.lift
  have R1 := R.grow g1
  cases d with
  | list xs =>
    cases e'
    obtain ⟨a, vs, rfl, h1, r1⟩ := w1.list R1.g.sub
    refine ⟨a, vs, rfl, .inl (.inl h1), fun b hn => k2 _ _ _ (g1.trans (R1.g.new hn)) (.lst upd_same (RpAll.up (fun x u z => ?_) r1.rev))⟩
    rw [upd_ne (ne_of_none (R1.g.sub _ _ z) hn)]
    exact z
  | _ => cases e'
/-! ### enumerate -/
def enumD : Nat → List D → List D
  | _, [] => []
  | i, d :: ds => .tuple [.int i, d] :: enumD (i + 1) ds
theorem enumD_len : ∀ (ds : List D) (i : Nat), (enumD i ds).length = ds.length
  | [], _ => rfl
  | _ :: ds, i => congrArg Nat.succ (enumD_len ds (i + 1))
theorem enumD_at : ∀ (ds : List D) (i j : Nat) {x : D}, (enumD i ds)[j]? = some x → ∃ d, ds[j]? = some d ∧ x = .tuple [.int ((i + j : Nat) : Int), d]
  | [], _, _, _, h => by cases h
  | d :: ds, i, 0, _, h => by cases h; exact ⟨d, rfl, rfl⟩
  | d :: ds, i, j + 1, _, h => by
    obtain ⟨d', h1, h2⟩ := enumD_at ds (i + 1) j (by simpa [enumD] using h)
    refine ⟨d', by simpa using h1, ?_⟩
    rw [h2]
    have : i + 1 + j = i + (j + 1) := by omega
    rw [this]
theorem wk_enumT {K : PySem.W.Frag} {hp a : Addr} {F : Hp} {vs : List V} {ds : List D} (h : SqT K F a vs) (r : RpAll K F vs ds) : Wk K T hp F (ItEt K a) (enumD 0 ds) := fun F0 H0 F' H' s' ff G => by
  have hs : SqT K H' a vs := St.up G.sub (St.up ff h)
  refine ⟨fun i hi => ⟨vs, vs[i]'(by rw [enumD_len] at hi; rw [r.len]; exact hi), hs, List.getElem?_eq_getElem _⟩, ⟨vs, hs, by rw [enumD_len]; exact r.len⟩, fun i d x H'' e y => ?_⟩
  obtain ⟨P, u, rfl, hn, rfl, y⟩ := y
  obtain ⟨d', e1, rfl⟩ := enumD_at ds 0 i e
  obtain ⟨v, h1, h2⟩ := r.at e1
  have q := y vs hs
  rw [h1] at q
  cases q
  rw [Nat.zero_add]
  refine ⟨_, G.new hn, .tup (.inl (.inl upd_same)) (.cons (.int _) (.cons (Rp.up (fun x u z => ?_) h2) .nil))⟩
  rw [upd_ne (ne_of_none (G.sub _ _ (ff _ _ z)) hn)]
  exact ff _ _ z
theorem wk_enumL {K : PySem.W.Frag} {hp a : Addr} {F : Hp} {vs : List V} {ds : List D} (h : F a = some (.lst vs)) (r : RpAll K F vs ds) : Wk K T hp F (Ite K a) (enumD 0 ds) := fun F0 H0 F' H' s' ff G => by
  have hs : SqL K H' a vs := .inl (.inl (G.sub _ _ (ff _ _ h)))
  refine ⟨fun i hi => ⟨vs, vs[i]'(by rw [enumD_len] at hi; rw [r.len]; exact hi), hs, List.getElem?_eq_getElem _⟩, ⟨vs, hs, by rw [enumD_len]; exact Nat.le_of_eq r.len⟩, fun i d x H'' e y => ?_⟩
  obtain ⟨P, u, rfl, hn, rfl, y⟩ := y
  obtain ⟨d', e1, rfl⟩ := enumD_at ds 0 i e
  obtain ⟨v, h1, h2⟩ := r.at e1
  have q := y vs hs
  rw [h1] at q
  cases q
  rw [Nat.zero_add]
  refine ⟨_, G.new hn, .tup (.inl (.inl upd_same)) (.cons (.int _) (.cons (Rp.up (fun x u z => ?_) h2) .nil))⟩
  rw [upd_ne (ne_of_none (G.sub _ _ (ff _ _ z)) hn)]
  exact ff _ _ z
def dEnumT : D → Option (List D)
  | .tuple xs => some (enumD 0 xs)
  | _ => none
def dEnumL : D → Option (List D)
  | .list xs => some (enumD 0 xs)
  | _ => none
def fIt (h : D → Option (List D)) (fa : Rho → M D) : Rho → M (List D) := fun ρ => do
  let a ← fa ρ
  O.lift (h a)
theorem di_enumT {e : Expr} {es : List Expr} {k0 : Nat} {fa : Rho → M D} (hm : X.mg "enumerate" = none) (hg : Gl X "enumerate") (h : DE X T EX e fa) (he : starEach [e] X.env = [(false, eval e X.env)] := by rfl) : DI X T EX (.Tuple es k0 p2) (.Call (.Name "enumerate" p) [e] [] pos) (fIt dEnumT fa) := by
  obtain ⟨_, a1, a2⟩ := h
  refine ⟨_, pi_enumT hg hm (pa_cons a1 pa_nil he) he, fun R q => a2 R (q.bind.mono fun d s1 k F1 H1 v g1 w1 => ?_)⟩
  obtain ⟨ds, e1, k2⟩ := k.lift
  have R1 := R.grow g1
  cases w1 with
  | tup h1 h2 =>
    cases e1
    exact ⟨_, _, rfl, St.up R1.g.sub h1, k2 F1 H1 _ g1 (wk_enumT h1 h2)⟩
  | _ => cases e1
theorem di_enumL {e : Expr} {es : List Expr} {k0 : Nat} {fa : Rho → M D} (hm : X.mg "enumerate" = none) (hg : Gl X "enumerate") (h : DE X T EX e fa) (he : starEach [e] X.env = [(false, eval e X.env)] := by rfl) : DI X T EX (.Tuple es k0 p2) (.Call (.Name "enumerate" p) [e] [] pos) (fIt dEnumL fa) := by
  obtain ⟨_, a1, a2⟩ := h
  refine ⟨_, pi_enum hg hm (pa_cons a1 pa_nil he) he, fun R q => a2 R (q.bind.mono fun d s1 k F1 H1 v g1 w1 => ?_)⟩
  obtain ⟨ds, e1, k2⟩ := k.lift
  have R1 := R.grow g1
  cases w1 with
  | lst h1 h2 =>
    cases e1
    exact ⟨_, _, rfl, .inl (.inl (R1.g.sub _ _ h1)), k2 F1 H1 _ g1 (wk_enumL h1 h2)⟩
  | _ => cases e1
/-! ### ** -/
def dPow : D → D → Option D
  | .int a, .int b => if 0 ≤ b ∧ b ≤ 1000000 ∧ a.natAbs < 2 ^ 64 then some (.int (a ^ b.toNat)) else none
  | _, _ => none
theorem p_pow {K : PySem.W.Frag} : OpP K (rI CPow fun i j => .int (i ^ j.toNat)) dPow := p_int (C := CPow) (g := fun i j => .int (i ^ j.toNat)) (fun a b d e => by
  unfold dPow at e
  split at e
  · split at e
    · cases e; rename_i hz; exact ⟨_, _, rfl, rfl, hz, rfl⟩
    · cases e
  · cases e) fun i j H Q hc q => ⟨i, j, rfl, rfl, hc, q _ (.int _)⟩
theorem de_pow {a b : Expr} {fa fb : Rho → M D} (ha : DB X T EX a fa) (hb : DB X T EX b fb) : DE X T EX (.BinOp a .Pow b pos) (f2 dPow fa fb) := de_op op_pow p_pow ha hb
end
end Jw
namespace Jw
open PySem PySem.Spec PyProof.Rows L2
/-! ### defs -/
/-- what a def gives, from its body -/
def endK : Ctl → M D
  | .rt d => pure d
  | .nx _ => pure .none
  | _ => M.bad
def run (f : Rho → M Ctl) (ρ : Rho) : M D := f ρ >>= endK
/-- m slots beyond the parameters -/
def fDef (m : Nat) (f : Rho → M Ctl) (as : List Sl) : M D := run f (as ++ List.replicate m .un)
/-- a def that may be called by its name: n parameters, worth F -/
structure Cal (P : Program) (w : World) (K : PySem.W.Frag) (mg : Str → Option Value) (base : Heap) (T : List (Addr × Str)) (k n : Nat) (x : Str) (F : List Sl → M D) : Prop where
  ex : ∃ (f : Addr) (fd : FuncData) (ps : List Str), FnOk P w K mg base L2.CX0 k f fd ps (spOf K T noWE n F) ∧ mg x = some (.ref f) ∧ PySem.W.keepIn K (.ref f) = true ∧ Binds K fd ps []
/-- a def of the module as the top has made it -/
structure Df (K : PySem.W.Frag) (mg : Str → Option Value) (x : Str) (st : Stmt) : Prop where
  ex : ∃ (f : Addr) (fd : FuncData), L2.Fun K x x st f fd ∧ mg x = some (.ref f)
theorem df_mk {K : PySem.W.Frag} {mg : Str → Option Value} {h : Heap} {x : Str} {st : Stmt} {f : Addr} {oc : Value} {od an : Option Addr} {osl : Array (Option Value)} {kV doc pm cdv ct : Value} (Y : K.In h) (G : h.Ns mainGlobals mg) (a : PySem.W.nsIn K mainGlobals x = some (some (.ref f)))
    (l : K.lookup f = some ⟨oc, od, .func (PySem.W.fnOf x x (defArgs st) (defBody st) (defScope st) .none kV doc pm an cdv ct), osl⟩) (c : PySem.W.codeIn K cdv x = true) (k : PySem.W.keepIn K (.ref f) = true) : Df K mg x st :=
  ⟨f, _, fun_mk l c k, PySem.W.mg_of Y G a⟩
theorem argsOk_at {K : PySem.W.Frag} {hp : Addr} {F : Hp} : ∀ {vs : List V} {as : List Sl}, ArgsOk K hp F vs as → ∀ (i : Nat) (x : Sl), as[i]? = some x → ∃ v, vs[i]? = some v ∧ ArgOk K hp F v x
  | _, _, .nil, _, _, e => by cases e
  | _, _, .cons h _, 0, _, e => by cases e; exact ⟨_, rfl, h⟩
  | _, _, .cons _ a, i + 1, x, e => by
    obtain ⟨v, h1, h2⟩ := argsOk_at a i x (by simpa using e)
    exact ⟨v, by simpa using h1, h2⟩
theorem argsOk_len {K : PySem.W.Frag} {hp : Addr} {F : Hp} : ∀ {vs : List V} {as : List Sl}, ArgsOk K hp F vs as → vs.length = as.length
  | _, _, .nil => rfl
  | _, _, .cons _ a => congrArg Nat.succ (argsOk_len a)
section
variable {P : Program} {w : World} {K : PySem.W.Frag} {mg : Str → Option Value} {base : Heap} {T : List (Addr × Str)}
/-- the entry of a def -/
theorem rel_start {hp : Addr} {F H : Hp} {N : List Str} {vs : List V} {as : List Sl} {s : HS} {m : Nat} (G : Grow K T hp F H F H s) (a : ArgsOk K hp F vs as) (hN : N.length = vs.length + m) : Rel K T hp F H F H (L2.start N vs) (as ++ List.replicate m .un) s := by
  have hl := argsOk_len a
  have hm : N.length - vs.length = m := by omega
  refine ⟨G, fun i x e => ?_, fun i j xs ys e1 e2 n => ?_, ?_⟩
  · by_cases hi : i < as.length
    · rw [List.getElem?_append_left hi] at e
      obtain ⟨v, h1, h2⟩ := argsOk_at a i x e
      have hs : (L2.start N vs)[i]? = some (some v) := by
        unfold L2.start
        rw [List.getElem?_append_left (by rw [List.length_map, hl]; exact hi), List.getElem?_map, h1]
        rfl
      rw [hs]
      cases x with
      | un => trivial
      | dat d => exact ⟨v, rfl, h2⟩
      | own xs => exact h2.elim
      | hand =>
        have h3 : v = .ref hp := h2
        rw [h3]
        rfl
    · rw [List.getElem?_append_right (by omega), List.getElem?_replicate] at e
      split at e
      · cases e
        trivial
      · cases e
  · by_cases hi : i < as.length
    · rw [List.getElem?_append_left hi] at e1
      obtain ⟨v, _, h2⟩ := argsOk_at a i _ e1
      exact h2.elim
    · rw [List.getElem?_append_right (by omega), List.getElem?_replicate] at e1
      split at e1 <;> cases e1
  · unfold L2.start
    rw [List.length_append, List.length_append, List.length_map, List.length_replicate, List.length_replicate, hl, ← hl, hm]
theorem fn_def {x : Str} {st : Stmt} {f : Addr} {fd : FuncData} {N ps : List Str} {k n m : Nat} {fb : Rho → M Ctl} (Fu : L2.Fun K x x st f fd) (S : FnScope N ps (defScope st)) (hn : ps.length = n) (hm : N.length = n + m)
    (body : ∀ (cdv : Value) (A : Around) (outer : List Env) (s : Shared) (H : Hp) (E : XK), Room k (A.deeper (envOfC x (defScope st) s.heap.objs.size f cdv)) → DSs (cxOf L2.CX0 P w K mg base N x (defScope st) f cdv A outer s H E).nox T noEX (defBody st) fb) :
    FnOk P w K mg base L2.CX0 (k + 1) f fd ps (spOf K T noWE n (fDef m fb)) := by
  refine Fu.ok S (fun vs H Q E h => by rw [h.1, hn]) fun cdv A outer s H vs Q E hr h => ?_
  obtain ⟨t, a, b⟩ := body cdv A outer s H E hr
  refine ⟨t, a, ?_⟩
  obtain ⟨hl, hp, F, as, s1, G, w1, p⟩ := h
  refine b (rel_start G w1 (by rw [hl]; exact hm)) ?_
  refine Post.imp (Post.bind p) (fun c s2 k2 => ?_) fun c s2 z F' H' g => z F' H' g
  cases c with
  | nx ρ => exact fun F' H' σ' _ R => Post.ret k2 F' H' _ R.g .non
  | rt d => exact fun F' H' v g r => Post.ret k2 F' H' v g r
  | bk ρ => exact k2.elim
  | ct ρ => exact k2.elim
theorem cal_mk {x : Str} {st : Stmt} {N ps : List Str} {k n m : Nat} {fb : Rho → M Ctl} (d : Df K mg x st) (S : FnScope N ps (defScope st)) (hn : ps.length = n) (hm : N.length = n + m)
    (hb : ∀ (kV doc pm : Value) (an : Option Addr) (cdv ct : Value) (us : List Value), us.length = ps.length → bindArgs (PySem.W.fnOf x x (defArgs st) (defBody st) (defScope st) .none kV doc pm an cdv ct) ⟨us, []⟩ = pure (ps.zip us))
    (body : ∀ (f : Addr) (cdv : Value) (A : Around) (outer : List Env) (s : Shared) (H : Hp) (E : XK), Room k (A.deeper (envOfC x (defScope st) s.heap.objs.size f cdv)) → DSs (cxOf L2.CX0 P w K mg base N x (defScope st) f cdv A outer s H E).nox T noEX (defBody st) fb) :
    Cal P w K mg base T (k + 1) n x (fDef m fb) := by
  obtain ⟨f, fd, Fu, hm1⟩ := d.ex
  exact ⟨f, fd, ps, fn_def Fu S hn hm fun cdv A outer s H E hr => body f cdv A outer s H E hr, hm1, Fu.kp, Fu.binds hb⟩
end
section
variable {X : Cx} {T : List (Addr × Str)} {pos p : Pos}
theorem de_cal {k j n : Nat} {x : Str} {e : Expr} {es : List Expr} {F : List Sl → M D} {fas : Rho → M (List Sl)} (c : Cal X.prog X.w X.K X.mg X.base T k n x F) (hr : Room j X.A) (hk : k ≤ j) (hg : Gl X x) (ha : DA X T noEX n (e :: es) fas)
    (hdb : (x == ("__debug__" : Str)) = false := by decide) (he : starEach (e :: es) X.env = (false, eval e X.env) :: starEach es X.env := by rfl) (hpl : (backTo pos (starEach es X.env)).any (·.1) = false := by rfl) :
    DE X T noEX (.Call (.Name x p) (e :: es) [] pos) (fCall F fas) := by
  obtain ⟨f, fd, ps, h1, h2, h3, h4⟩ := c.ex
  exact de_call h1 (hr.mono hk) h2 h3 h4 hg ha hdb he hpl
theorem hu64 {A : Around} {k : Nat} (hr : Room k A) : A.units + 64 < cLine := by have := hr.un; omega
theorem hu65 {A : Around} {k : Nat} (hr : Room k A) : A.units + 65 < cLine := by have := hr.un; omega
end
/-! ### targets -/
section
variable {X : Cx} {pos : Pos}
theorem pn (i : Nat) {x : Str} (hN : X.N.Nodup) (hi : X.N[i]? = some x := by rfl) (hx : Loc X.env.scope x := by first | exact Or.inl rfl | exact Or.inr rfl) (hf : X.fn x = true ∨ X.env.scope.names.lookup x = some .local := by first | exact .inl rfl | exact .inr rfl) : PG X (.Name x pos) ((Pat.nm i).g X.K) := by
  unfold Pat.g
  exact pg_name hN hi hx hf
theorem ptn : PGs X [] (Pats.nil.gs X.K) := by
  unfold Pats.gs
  exact pgs_nil
theorem ptc {e : Expr} {es : List Expr} {a : Pat} {as : Pats} (h1 : PG X e (a.g X.K)) (h2 : PGs X es (as.gs X.K)) (hs : (assignEach (e :: es) X.env).map (·.2) = assign e X.env :: (assignEach es X.env).map (·.2) := by rfl) : PGs X (e :: es) ((Pats.cons a as).gs X.K) := by
  unfold Pats.gs
  exact pgs_cons h1 h2 hs
theorem pt {es : List Expr} {k : Nat} {as : Pats} (hc : X.calm = true) (h : PGs X es (as.gs X.K)) (hn : (assignEach es X.env).length = as.size := by rfl) (hst : (assignEach es X.env).findIdx? (·.1) = none := by rfl) : PG X (.Tuple es k pos) ((Pat.tp as).g X.K) := by
  unfold Pat.g
  exact pg_tup hc h hn hst
end
end Jw
namespace Jw
open PySem PySem.Spec PyProof.Rows L2
/-! ### the drawing object is made -/
def absI (i : Int) : Int := if i < 0 then -i else i
def spHand (K : PySem.W.Frag) (c0 : Int) : Sp := fun vs H Q _ => ∃ (a : Addr) (ns : List Int), vs = [.ref a] ∧ SqL K H a (ns.map V.int) ∧ ns.length ≤ 63 ∧
  ∀ (H' : Hp) (c hp : Addr), c ≠ hp → H' c = some (.lst ((ns.map absI).map V.int)) → H' hp = some (.lst [.ref c, .int 0, .int 0, .int (c0 + 7 * (ns.length : Int)), .int 0]) → Q (.ref hp) H'
abbrev rAbsI : List V → Hp → VK → Prop := fun xs H Q => ∃ i, xs = [V.int i] ∧ Q (V.int (if i < 0 then -i else i)) H
abbrev rIntI : List V → Hp → VK → Prop := fun xs H Q => (∃ i, xs = [V.int i] ∧ Q (V.int i) H) ∨ ∃ k, xs = [V.bl k] ∧ Q (V.int (if k = true then 1 else 0)) H
abbrev rLenJ (K : PySem.W.Frag) : List V → Hp → VK → Prop := fun xs H Q => ∃ x n, xs = [x] ∧ LenV K x H n ∧ Q (.int n) H
def tHand (K : PySem.W.Frag) (c0 : Int) : TS :=
  tSeq (tAsg (tLc (iSeqD K (tSl (rSlD K) (tVar 0) tNoPart (tPart (tC (.int 63))))) (gName 2) tYes (tCB rAbsI (tCons (tCB rIntI (tCons (tVar 2) tNil)) tNil)) [2]) (gName 1))
    (tRet (tLst (tCons (tVar 1) (tCons (tC (.int 0)) (tCons (tC (.int 0)) (tCons (tOp (rI0 fun i j => .int (i + j)) (tC (.int c0)) (tOp (rI CMulX fun i j => .int (i * j)) (tC (.int 7)) (tCB (rLenJ K) (tCons (tVar 1) tNil)))) (tCons (tC (.int 0)) tNil)))))))
theorem hand_run {K : PySem.W.Frag} {c0 : Int} {D : Ends} {H : Hp} {vs : List V} {E : XK} (h : spHand K c0 vs H D.rt E) : tHand K c0 D (L2.start ["script", "cells", "cell"] vs) H := by
  obtain ⟨a, ns, rfl, hs, hl, q⟩ := h
  have e0 : L2.start ["script", "cells", "cell"] [V.ref a] = [some (V.ref a), none, none] := rfl
  rw [e0]
  have hcut : cutV (ns.map V.int) none (some 63) = ns.map V.int := by
    have e1 : HT.sIx (ns.map V.int).length (ns.map V.int).length (some 63) = (ns.map V.int).length := by
      rw [show (63 : Int) = ((63 : Nat) : Int) from rfl, HT.sIx_nat, List.length_map]
      omega
    unfold cutV
    rw [e1, HT.sIx_none, List.drop_zero, Nat.sub_zero, List.take_length]
  refine ⟨.ref a, rfl, 63, rfl, .inl ⟨a, ns.map V.int, rfl, hs, fun l hn => ?_⟩⟩
  rw [hcut]
  refine ⟨l, rfl, .inl ⟨⟨_, .inl (.inl upd_same)⟩, fun Dd hD => ?_⟩⟩
  have nl : l ≠ Dd := fun z => by rw [z, upd_same] at hD; cases hD
  refine ⟨fun i m Hi => m = ns.length - i ∧ i ≤ ns.length ∧ Hi l = some (.lst (ns.map V.int)) ∧ Hi Dd = some (.lst ((ns.take i).map fun z => V.int (absI z))), ⟨ns.length, rfl, Nat.zero_le _, by rw [upd_ne nl, upd_same], upd_same⟩, ?_⟩
  rintro i m Hi ⟨rfl, hi, hL, hD2⟩
  by_cases hlt : i < ns.length
  · refine .inr ⟨⟨ns.map V.int, V.int ns[i], .inl (.inl hL), by rw [List.getElem?_map, List.getElem?_eq_getElem hlt]; rfl⟩, fun H' => H' l = some (.lst (ns.map V.int)) ∧ H' Dd = some (.lst ((ns.take (i + 1)).map fun z => V.int (absI z))), fun H' h => ⟨_, by omega, rfl, hlt, h.1, h.2⟩, ?_⟩
    rintro x H' ⟨rfl, hx⟩
    have hx2 := hx _ (.inl (.inl hL))
    rw [List.getElem?_map, List.getElem?_eq_getElem hlt] at hx2
    cases hx2
    refine ⟨rfl, ?_⟩
    unfold tYes
    dsimp only
    rw [if_pos rfl]
    refine ⟨V.int ns[i], rfl, .inl ⟨_, rfl, ⟨_, rfl, _, hD2, ?_, by rw [upd_ne nl]; exact hL, ?_⟩⟩⟩
    · rw [List.length_map, List.length_take, sizeLine_eq]
      omega
    · rw [upd_same, List.take_succ, List.getElem?_eq_getElem hlt, List.map_append]
      rfl
  · have e : i = ns.length := by omega
    subst e
    refine .inl ⟨⟨_, .inl (.inl hL), by rw [List.length_map]; exact Nat.le_refl _⟩, ?_⟩
    rw [List.take_length] at hD2
    have hC : Hi Dd = some (.lst ((ns.map absI).map V.int)) := by
      rw [hD2, List.map_map]
      rfl
    have hlen : (((ns.map absI).map V.int).length : Int) = (ns.length : Int) := by rw [List.length_map, List.length_map]
    refine ⟨V.ref Dd, rfl, V.ref Dd, rfl, V.ref Dd, ((ns.map absI).map V.int).length, rfl, .inl ⟨_, .inl (.inl hC), rfl⟩, 7, _, rfl, rfl, ?_, c0, _, rfl, rfl, by rw [sizeLine_eq]; exact (by decide : (5 : Nat) ≤ 16777216), fun p hn => ?_⟩
    · rw [hlen]
      refine mulX_of ?_
      have h7 : (7 : Int).natAbs.log2 = 2 := by decide
      have h8 : (ns.length : Int).natAbs.log2 ≤ ns.length := by
        rw [Int.natAbs_natCast]
        exact Nat.log2_le_self _
      omega
    · rw [hlen]
      have ne : Dd ≠ p := fun z => by rw [← z, hC] at hn; cases hn
      exact q _ Dd p ne (by rw [upd_ne ne]; exact hC) upd_same
theorem hand_ok {P : Program} {w : World} {K : PySem.W.Frag} {mg : Str → Option Value} {base : Heap} {x : Str} {st : Stmt} {f : Addr} {fd : FuncData} {k : Nat} {c0 : Int} (Fu : L2.Fun K x x st f fd) (S : FnScope ["script", "cells", "cell"] ["script"] (defScope st))
    (body : ∀ (cdv : Value) (A : Around) (outer : List Env) (s : Shared) (H : Hp) (E : XK), Room k (A.deeper (envOfC x (defScope st) s.heap.objs.size f cdv)) → PSs (cxOf L2.CX0 P w K mg base ["script", "cells", "cell"] x (defScope st) f cdv A outer s H E).nox (defBody st) (tHand K c0)) :
    FnOk P w K mg base L2.CX0 (k + 1) f fd ["script"] (spHand K c0) :=
  Fu.ok S (fun vs H Q E h => by obtain ⟨a, ns, rfl, _⟩ := h; rfl) fun cdv A outer s H vs Q E hr h => ⟨_, body cdv A outer s H E hr, hand_run (D := { nx := fun _ H' => Q .non H', rt := Q }) h⟩
/-- a def whose promise is not the layer's -/
structure CalH (P : Program) (w : World) (K : PySem.W.Frag) (mg : Str → Option Value) (base : Heap) (k : Nat) (x : Str) (c0 : Int) : Prop where
  ex : ∃ (f : Addr) (fd : FuncData) (ps : List Str), FnOk P w K mg base L2.CX0 k f fd ps (spHand K c0) ∧ mg x = some (.ref f) ∧ PySem.W.keepIn K (.ref f) = true ∧ Binds K fd ps []
theorem CalH.mono {P : Program} {w : World} {K : PySem.W.Frag} {mg : Str → Option Value} {base : Heap} {j k : Nat} {x : Str} {c0 : Int} (c : CalH P w K mg base j x c0) (h : j ≤ k) : CalH P w K mg base k x c0 :=
  let ⟨f, fd, ps, h1, h2⟩ := c.ex; ⟨f, fd, ps, h1.mono h, h2⟩
/-! ### the law itself -/
def spLaw (K : PySem.W.Frag) (c0 : Int) (m : Nat) (fb : Rho → M Ctl) : Sp := fun vs H Q _ => ∃ (a : Addr) (ns : List Int), vs = [.ref a] ∧ SqL K H a (ns.map V.int) ∧ ns.length ≤ 63 ∧
  Post (fDef m fb [.un, .hand] ⟨ns.map absI, 0, 0, c0 + 7 * (ns.length : Int), 0⟩) (fun d _ => d = .bool true) (fun _ _ => False) ∧ ∀ H', Q (.bl true) H'
section
variable {P : Program} {w : World} {K : PySem.W.Frag} {mg : Str → Option Value} {base : Heap}
theorem law_ok {x xh : Str} {st s1 : Stmt} {rest : List Stmt} {p0 p1 p2 : Pos} {f : Addr} {fd : FuncData} {N : List Str} {k m : Nat} {c0 : Int} {fb : Rho → M Ctl} (Fu : L2.Fun K x x st f fd) (S : FnScope N ["script"] (defScope st)) (hm : N.length = 2 + m)
    (c : CalH P w K mg base k xh c0) (hb : defBody st = s1 :: rest)
    (first : ∀ (cdv : Value) (A : Around) (outer : List Env) (s : Shared) (H : Hp) (E : XK) (te : TE), PE (cxOf L2.CX0 P w K mg base N x (defScope st) f cdv A outer s H E).nox (.Call (.Name xh p0) [.Name "script" p1] [] p2) te →
      PS (cxOf L2.CX0 P w K mg base N x (defScope st) f cdv A outer s H E).nox s1 (tAsg te (gName 1)))
    (call : ∀ (cdv : Value) (A : Around) (outer : List Env) (s : Shared) (H : Hp) (E : XK) (f' : Addr) (fd' : FuncData) (ps' : List Str), Room k (A.deeper (envOfC x (defScope st) s.heap.objs.size f cdv)) → FnOk P w K mg base L2.CX0 k f' fd' ps' (spHand K c0) → mg xh = some (.ref f') → PySem.W.keepIn K (.ref f') = true → Binds K fd' ps' [] →
      PE (cxOf L2.CX0 P w K mg base N x (defScope st) f cdv A outer s H E).nox (.Call (.Name xh p0) [.Name "script" p1] [] p2) (tCall (spHand K c0) [] E0 (tCons (tVar 0) tNil)))
    (body : ∀ (cdv : Value) (A : Around) (outer : List Env) (s : Shared) (H : Hp) (E : XK), Room k (A.deeper (envOfC x (defScope st) s.heap.objs.size f cdv)) → DSs (cxOf L2.CX0 P w K mg base N x (defScope st) f cdv A outer s H E).nox [] noEX rest fb) :
    FnOk P w K mg base L2.CX0 (k + 1) f fd ["script"] (spLaw K c0 m fb) := by
  obtain ⟨f', fd', ps', c1, c2, c3, c4⟩ := c.ex
  refine Fu.ok S (fun vs H Q E h => by obtain ⟨a, ns, rfl, _⟩ := h; rfl) fun cdv A outer s H vs Q E hr h => ?_
  obtain ⟨t, b1, b2⟩ := body cdv A outer s H E hr
  rw [hb]
  refine ⟨_, pss_cons (first cdv A outer s H E _ (call cdv A outer s H E f' fd' ps' hr c1 c2 c3 c4)) b1, ?_⟩
  obtain ⟨a, ns, rfl, hs, hl, hp, hq⟩ := h
  have e0 : L2.start N [V.ref a] = some (V.ref a) :: none :: List.replicate m none := by
    unfold L2.start
    rw [List.map_cons, List.map_nil, List.length_singleton, show N.length - 1 = m + 1 by omega, List.replicate_succ]
    rfl
  rw [e0]
  refine ⟨.ref a, rfl, a, ns, rfl, hs, hl, fun H' c hpA ne hc hh => ?_⟩
  refine b2 (hp := hpA) (F0 := upd (fun _ => none) c (.lst ((ns.map absI).map V.int))) (H0 := H') (F := upd (fun _ => none) c (.lst ((ns.map absI).map V.int))) (ρ := [.un, .hand] ++ List.replicate m .un) (s := ⟨ns.map absI, 0, 0, c0 + 7 * (ns.length : Int), 0⟩) ?_ ?_
  · have nF : upd (fun _ => none) c (HO.lst ((ns.map absI).map V.int)) hpA = none := by rw [upd_ne ne.symm]
    refine ⟨⟨fun _ _ z => z, fun _ _ z => .inl z, fun _ _ z _ => z, fun x o z => ?_, fun q hq => (nomatch hq), ⟨c, nF, hh, upd_same⟩, fun x ps z => ?_⟩, fun i x e => ?_, fun i j xs ys e1 e2 n => ?_, ?_⟩
    · by_cases q : x = c
      · rw [q, upd_same] at z
        cases z
        rw [q]
        exact hc
      · rw [upd_ne q] at z
        cases z
    · by_cases q : x = c
      · rw [q, upd_same] at z
        cases z
      · rw [upd_ne q] at z
        cases z
    · rcases i with _ | _ | i
      · cases e
        trivial
      · cases e
        rfl
      · have e' : (List.replicate m Sl.un)[i]? = some x := e
        rw [List.getElem?_replicate] at e'
        split at e'
        · cases e'
          trivial
        · cases e'
    · rcases i with _ | _ | i
      · cases e1
      · cases e1
      · have e' : (List.replicate m Sl.un)[i]? = some (.own xs) := e1
        rw [List.getElem?_replicate] at e'
        split at e' <;> cases e'
    · simp
  · refine Post.imp (Post.bind hp) (fun c2 s2 k2 => ?_) fun c2 s2 z => z.elim
    cases c2 with
    | nx ρ =>
      have z : (PyData.none : D) = .bool true := Post.ret k2
      cases z
    | rt d =>
      intro F' H2 v g r
      have z : d = .bool true := Post.ret k2
      subst z
      cases r
      exact hq H2
    | bk ρ => exact k2.elim
    | ct ρ => exact k2.elim
end
end Jw
namespace Jw
open PySem PySem.Spec PyProof.Rows L2
/-! ### short words for the printing program -/
section
variable {X : Cx} {T : List (Addr × Str)} {EX : String → Hp → Prop} {pos p p2 : Pos} {e e2 : Expr} {fa fb : Rho → M D}
theorem e_glob {x : Str} {i : Int} (hm : ∃ u, X.mg x = some (.int i u)) (hg : Gl X x := by rfl) (hd : (x == ("__debug__" : Str)) = false := by decide) : DE X T EX (.Name x pos) (fun _ => pure (.int i)) :=
  let ⟨_, h⟩ := hm; de_glob hg h hd
theorem e_len (hm : X.mg "len" = none) (ha : DB X T EX e fa) (hg : Gl X "len" := by rfl) (he : starEach [e] X.env = (false, eval e X.env) :: starEach [] X.env := by rfl) : DE X T EX (.Call (.Name "len" p) [e] [] pos) (f1 dLen fa) :=
  de_b1 call_len c_len boot_len (by decide) (by decide) hg hm ha he
theorem e_abs (hm : X.mg "abs" = none) (ha : DB X T EX e fa) (hg : Gl X "abs" := by rfl) (he : starEach [e] X.env = (false, eval e X.env) :: starEach [] X.env := by rfl) : DE X T EX (.Call (.Name "abs" p) [e] [] pos) (f1 dAbs fa) :=
  de_b1 call_abs c_abs boot_abs (by decide) (by decide) hg hm ha he
theorem e_int (hm : X.mg "int" = none) (ha : DB X T EX e fa) (hg : Gl X "int" := by rfl) (he : starEach [e] X.env = (false, eval e X.env) :: starEach [] X.env := by rfl) : DE X T EX (.Call (.Name "int" p) [e] [] pos) (f1 dInt fa) :=
  de_ty1 call_int1 c_int boot_int (by decide) (by decide) hg hm ha he
theorem e_tuple (hm : X.mg "tuple" = none) (ha : DB X T EX e fa) (hg : Gl X "tuple" := by rfl) (he : starEach [e] X.env = (false, eval e X.env) :: starEach [] X.env := by rfl) : DE X T EX (.Call (.Name "tuple" p) [e] [] pos) (f1 dTuple fa) :=
  de_ty1 call_tuple_of c_tuple boot_tuple (by decide) (by decide) hg hm ha he
theorem l_list (hm : X.mg "list" = none) (ha : DB X T EX e fa) (hg : Gl X "list" := by rfl) (he : starEach [e] X.env = (false, eval e X.env) :: starEach [] X.env := by rfl) : DL X T EX (.Call (.Name "list" p) [e] [] pos) (f1L dListL fa) :=
  dl_ty1 call_list_of c_list boot_list (by decide) (by decide) hg hm ha he
theorem e_all (hc : X.calm = true) (hm : X.mg "all" = none) (ha : DB X T EX e fa) (hg : Gl X "all" := by rfl) (he : starEach [e] X.env = (false, eval e X.env) :: starEach [] X.env := by rfl) : DE X T EX (.Call (.Name "all" p) [e] [] pos) (f1 dAll fa) :=
  de_b1 (cr_all hc) c_all boot_all (by decide) (by decide) hg hm ha he
theorem e_any (hc : X.calm = true) (hm : X.mg "any" = none) (ha : DB X T EX e fa) (hg : Gl X "any" := by rfl) (he : starEach [e] X.env = (false, eval e X.env) :: starEach [] X.env := by rfl) : DE X T EX (.Call (.Name "any" p) [e] [] pos) (f1 dAny fa) :=
  de_b1 (cr_any hc) c_any boot_any (by decide) (by decide) hg hm ha he
theorem e_sum (hc : X.calm = true) (hm : X.mg "sum" = none) (ha : DB X T EX e fa) (hg : Gl X "sum" := by rfl) (he : starEach [e] X.env = (false, eval e X.env) :: starEach [] X.env := by rfl) : DE X T EX (.Call (.Name "sum" p) [e] [] pos) (f1 dSumD fa) :=
  de_b1 (cr_sumD hc) c_sumD boot_sum (by decide) (by decide) hg hm ha he
theorem e_min {k : Nat} (hc : X.calm = true) (hr : Room k X.A) (hm : X.mg "min" = none) (ha : DB X T EX e fa) (hg : Gl X "min" := by rfl) (he : starEach [e] X.env = (false, eval e X.env) :: starEach [] X.env := by rfl) : DE X T EX (.Call (.Name "min" p) [e] [] pos) (f1 (dBestL PySem.W.minD) fa) :=
  de_b1 (cr_minD hc (hu65 hr)) (c_bestL _) boot_min (by decide) (by decide) hg hm ha he
theorem e_max {k : Nat} (hc : X.calm = true) (hr : Room k X.A) (hm : X.mg "max" = none) (ha : DB X T EX e fa) (hg : Gl X "max" := by rfl) (he : starEach [e] X.env = (false, eval e X.env) :: starEach [] X.env := by rfl) : DE X T EX (.Call (.Name "max" p) [e] [] pos) (f1 (dBestL PySem.W.maxD) fa) :=
  de_b1 (cr_maxD hc (hu65 hr)) (c_bestL _) boot_max (by decide) (by decide) hg hm ha he
theorem e_max2 (hc : X.calm = true) (hm : X.mg "max" = none) (ha : DB X T EX e fa) (hb : DB X T EX e2 fb) (hg : Gl X "max" := by rfl) (he : starEach [e, e2] X.env = (false, eval e X.env) :: starEach [e2] X.env := by rfl) (he2 : starEach [e2] X.env = (false, eval e2 X.env) :: starEach [] X.env := by rfl)
    (hpl : (backTo pos (starEach [e2] X.env)).any (·.1) = false := by rfl) : DE X T EX (.Call (.Name "max" p) [e, e2] [] pos) (f2 dMax2 fa fb) :=
  de_b2 (call_max2 hc) c_max2 boot_max (by decide) (by decide) hg hm ha hb he he2 hpl
theorem e_min2 (hc : X.calm = true) (hm : X.mg "min" = none) (ha : DB X T EX e fa) (hb : DB X T EX e2 fb) (hg : Gl X "min" := by rfl) (he : starEach [e, e2] X.env = (false, eval e X.env) :: starEach [e2] X.env := by rfl) (he2 : starEach [e2] X.env = (false, eval e2 X.env) :: starEach [] X.env := by rfl)
    (hpl : (backTo pos (starEach [e2] X.env)).any (·.1) = false := by rfl) : DE X T EX (.Call (.Name "min" p) [e, e2] [] pos) (f2 dMin2 fa fb) :=
  de_b2 (call_min2 hc) c_min2 boot_min (by decide) (by decide) hg hm ha hb he he2 hpl
theorem e_isi (Tx : Str) {Tn : String} (hT : bootBuiltins Tx = some (.type Tn)) (hTn : Tx ≠ "__name__") (hTd : (Tx == ("__debug__" : Str)) = false) (hm : X.mg "isinstance" = none) (hmT : X.mg Tx = none) (ha : DB X T EX e fa) (hg : Gl X "isinstance" := by rfl) (hgT : Gl X Tx := by rfl)
    (he : starEach [e, .Name Tx p2] X.env = (false, eval e X.env) :: starEach [.Name Tx p2] X.env := by rfl) : DE X T EX (.Call (.Name "isinstance" p) [e, .Name Tx p2] [] pos) (f1 (dIsi Tn) fa) :=
  de_isi boot_isinstance (by decide) (by decide) hT hTn hTd hg hm hgT hmT ha he
theorem evt_test {K : PySem.W.Frag} {te : TE} {f : Rho → M D} (h : EvE K T EX te f) : EvT K T EX (tTest te) (fTest f) := fun R q => h R (q.bind.mono fun d s1 k F1 H1 v g r => by
  obtain ⟨b, e1, k2⟩ := k.lift
  cases dBool_is e1
  cases r
  exact ⟨b, rfl, k2 F1 H1 g⟩)
theorem dt_cmp {op : CmpOp} {r : R2} {h : D → D → Option D} (ho : OpR X (compareOp op) r) (hr : OpP X.K r h) (hm : behindInMarks op e2 = false) (ha : DB X T EX e fa) (hb : DB X T EX e2 fb) : DT X T EX (.Compare e [op] [e2] pos) (fTest (f2 h fa fb)) :=
  let ⟨_, a1, a2⟩ := ha; let ⟨_, b1, b2⟩ := hb; ⟨_, pt_cmpR ho a1 b1 hm, evt_test (ev_op a2 b2 hr)⟩
theorem dt_chain {c : Expr} {fc : Rho → M D} {op op' : CmpOp} {r r' : R2} {h h' : D → D → Option D} (ho : OpR X (compareOp op) r) (ho' : OpR X (compareOp op') r') (hr : OpP X.K r h) (hr' : OpP X.K r' h') (ha : DB X T EX e fa) (hb : DB X T EX e2 fb) (hc : DB X T EX c fc)
    (hm : lastMarks [op, op'] [e2, c] = false := by rfl) : DT X T EX (.Compare e [op, op'] [e2, c] pos) (fTest (fChain h h' fa fb fc)) :=
  let ⟨_, a1, a2⟩ := ha; let ⟨_, b1, b2⟩ := hb; let ⟨_, c1, c2⟩ := hc; ⟨_, L2.pt_chain ho ho' a1 b1 c1 hm, evt_test (ev_chain hr hr' a2 b2 c2)⟩
/-! ### while, with as many turns as the numbers in the names let one expect -/
def szD : D → Nat
  | .int i => i.natAbs
  | _ => 0
def fuelR : Rho → Nat
  | [] => 1000
  | .dat d :: r => szD d + fuelR r
  | _ :: r => fuelR r
def fWhile (t : Rho → M Bool) (body : Rho → M Ctl) : Rho → M Ctl := fun ρ => whileL t body (fuelR ρ) ρ
theorem ds_whileF {c : Expr} {body : List Stmt} {t : Rho → M Bool} {fb : Rho → M Ctl} (hp : PassesOwn (model X.prog X.w) X.A X.env X.xe) (hc : DT X T EX c t) (hb : DSs X T EX body fb) : DS X T EX (.While c body [] pos) (fWhile t fb) := by
  obtain ⟨_, c1, c2⟩ := hc
  obtain ⟨_, b1, b2⟩ := hb
  refine ⟨_, ps_while hp c1 b1, fun {hp F0 H0 F H σ ρ s E} R q => ?_⟩
  exact (evs_while (fuelR ρ) c2 b2) R q
end
/-! ### the scope of a comprehension, looked at -/
def blkC (N : List Str) (sc scope : Scope) (own : List (Str × Nat)) : Bool :=
  decide (scope.kind = .function) && scope.names.all (fun y => decide (scope.names.lookup y.1 = some y.2)) && own.all (fun q => decide (N[q.2]? = some q.1)) &&
    scope.names.all (fun y => !decide (y.2 = .free) || (decide (sc.names.lookup y.1 = some .cell) || decide (sc.names.lookup y.1 = some .free))) && scope.names.all fun y => !(decide (y.2 = .local) || decide (y.2 = .cell)) || (decide (y.1 ∈ own.map (·.1)) || decide (y.1 ∉ N))
theorem blk_by {N : List Str} {sc scope : Scope} {own : List (Str × Nat)} (h : blkC N sc scope own = true) : BlkOk N sc scope own := by
  unfold blkC at h
  simp only [Bool.and_eq_true, List.all_eq_true, decide_eq_true_eq, Bool.or_eq_true, Bool.not_eq_true', decide_eq_false_iff_not] at h
  obtain ⟨⟨⟨⟨h1, h2⟩, h3⟩, h4⟩, h5⟩ := h
  refine ⟨h1, h2, h3, fun y hy e => ?_, fun y hy e => ?_⟩
  · exact (h4 y hy).resolve_left fun z => z e
  · refine (h5 y hy).resolve_left fun z => ?_
    rw [Bool.or_eq_false_iff] at z
    rcases e with e | e
    · exact of_decide_eq_false z.1 e
    · exact of_decide_eq_false z.2 e
end Jw
namespace Jw
open PySem
/-! ### reckoning with worths -/
@[simp] theorem pb {α β : Type} (a : α) (f : α → M β) : ((pure a : M α) >>= f) = f a := rfl
@[simp] theorem bb {α β γ : Type} (m : M α) (f : α → M β) (g : β → M γ) : ((m >>= f) >>= g) = (m >>= fun a => f a >>= g) := by
  funext s
  show ((m s).bind f).bind g = (m s).bind fun a => f a >>= g
  cases m s <;> rfl
@[simp] theorem bp {α : Type} (m : M α) : (m >>= fun a => pure a) = m := by
  funext s
  show (m s).bind (fun a => M.ret a) = m s
  cases m s <;> rfl
@[simp] theorem badb {α β : Type} (f : α → M β) : ((M.bad : M α) >>= f) = M.bad := rfl
theorem raiseb {α β : Type} (c : String) (f : α → M β) : ((M.raise c : M α) >>= f) = M.raise c := rfl
@[simp] theorem ls {α : Type} (a : α) : (O.lift (some a) : M α) = pure a := rfl
@[simp] theorem ln {α : Type} : (O.lift (none : Option α) : M α) = M.bad := rfl
theorem iteb {α β : Type} (c : Prop) [Decidable c] (m n : M α) (f : α → M β) : ((if c then m else n) >>= f) = if c then m >>= f else n >>= f := by
  split <;> rfl
/-- it ends well, with P -/
def Tr {α : Type} (r : Res α) (P : α → HS → Prop) : Prop := Post r P fun _ _ => False
theorem Tr.bind {α β : Type} {m : M α} {f : α → M β} {s : HS} {P : β → HS → Prop} (h : Tr (m s) fun a s' => Tr (f a s') P) : Tr ((m >>= f) s) P := by
  have e : (m >>= f) s = (m s).bind f := rfl
  rw [e]
  cases q : m s with
  | ok a s' => rw [q] at h; exact h
  | exc c s' => rw [q] at h; exact h.elim
  | bad => rw [q] at h; exact h.elim
theorem Tr.imp {α : Type} {r : Res α} {P P' : α → HS → Prop} (h : Tr r P) (k : ∀ a s, P a s → P' a s) : Tr r P' := Post.mono h k
theorem Tr.ret {α : Type} {a : α} {s : HS} {P : α → HS → Prop} (h : P a s) : Tr ((pure a : M α) s) P := h
theorem Tr.andThen {α β : Type} {m : M α} {f : α → M β} {s : HS} {P : β → HS → Prop} {R : α → HS → Prop} (h : Tr (m s) R) (k : ∀ a s', R a s' → Tr (f a s') P) : Tr ((m >>= f) s) P := Tr.bind (h.imp k)
@[simp] theorem rep_s {α : Type} (n : Nat) (a : α) : List.replicate (n + 1) a = a :: List.replicate n a := rfl
@[simp] theorem rep_0 {α : Type} (a : α) : List.replicate 0 a = [] := rfl
/-! places in short lists -/
theorem at0 {α : Type} (a : α) (r : List α) : L2.atI (a :: r) 0 = some a := by
  unfold L2.atI L2.ixN
  simp
theorem get0 (d : Sl) (ρ : Rho) : (d :: ρ)[0]? = some d := rfl
theorem getS (d : Sl) (ρ : Rho) (i : Nat) : (d :: ρ)[i + 1]? = ρ[i]? := by simp
/-! small numbers -/
def Lg (x : Int) : Nat := x.natAbs.log2
theorem Lg_le {x : Int} {k : Nat} (h : x.natAbs < 2 ^ (k + 1)) : Lg x ≤ k := by
  unfold Lg
  by_cases h0 : x.natAbs = 0
  · rw [h0]
    exact Nat.zero_le _
  · exact Nat.le_of_lt_succ ((Nat.log2_lt h0).mpr h)
theorem lt_Lg (x : Int) : x.natAbs < 2 ^ (Lg x + 1) := by
  by_cases h0 : x.natAbs = 0
  · rw [h0]
    exact Nat.two_pow_pos _
  · exact (Nat.log2_lt h0).mp (Nat.lt_succ_self _)
theorem Lg_mul (x y : Int) : Lg (x * y) ≤ Lg x + Lg y + 1 := by
  refine Lg_le ?_
  rw [Int.natAbs_mul]
  have h1 := lt_Lg x
  have h2 := lt_Lg y
  have e : 2 ^ (Lg x + Lg y + 1 + 1) = 2 ^ (Lg x + 1) * 2 ^ (Lg y + 1) := by
    rw [← Nat.pow_add]
    congr 1
    omega
  rw [e]
  exact Nat.lt_of_le_of_lt (Nat.mul_le_mul_left _ (Nat.le_of_lt h2)) (Nat.mul_lt_mul_of_pos_right h1 (Nat.two_pow_pos _))
theorem Lg_add (x y : Int) : Lg (x + y) ≤ max (Lg x) (Lg y) + 1 := by
  refine Lg_le ?_
  have h1 := lt_Lg x
  have h2 := lt_Lg y
  have h3 : 2 ^ (Lg x + 1) ≤ 2 ^ (max (Lg x) (Lg y) + 1) := Nat.pow_le_pow_right (by omega) (by omega)
  have h4 : 2 ^ (Lg y + 1) ≤ 2 ^ (max (Lg x) (Lg y) + 1) := Nat.pow_le_pow_right (by omega) (by omega)
  have e : 2 ^ (max (Lg x) (Lg y) + 1 + 1) = 2 ^ (max (Lg x) (Lg y) + 1) * 2 := Nat.pow_succ _ _
  have := Int.natAbs_add_le x y
  omega
theorem Lg_neg (x : Int) : Lg (-x) = Lg x := by unfold Lg; rw [Int.natAbs_neg]
theorem Lg_sub (x y : Int) : Lg (x - y) ≤ max (Lg x) (Lg y) + 1 := by
  rw [Int.sub_eq_add_neg, ← Lg_neg y]
  exact Lg_add x (-y)
theorem Lg_mono {x y : Int} (h : x.natAbs ≤ y.natAbs) : Lg x ≤ Lg y := Lg_le (Nat.lt_of_le_of_lt h (lt_Lg y))
theorem Lg_div (x : Int) {y : Int} (h : 0 < y) : Lg (x / y) ≤ Lg x + 1 := by
  refine Lg_le ?_
  have h1 := lt_Lg x
  have h2 : (x / y).natAbs ≤ x.natAbs + 1 := by
    by_cases hx : 0 ≤ x
    · have a : 0 ≤ x / y := Int.ediv_nonneg hx (Int.le_of_lt h)
      have b : x / y ≤ x := Int.ediv_le_self _ hx
      omega
    · have a : x / y < 0 := Int.ediv_neg_of_neg_of_pos (by omega) h
      have b : x ≤ x / y := by
        have z : x * 1 ≤ (x / y) * 1 ∨ ¬ (x * 1 ≤ (x / y) * 1) := Classical.em _
        have c : (x / y) * y ≤ x := Int.ediv_mul_le x (by omega)
        have d : x < (x / y + 1) * y := Int.lt_ediv_add_one_mul_self x h
        refine Int.le_ediv_of_mul_le h ?_
        have : x * y ≤ x * 1 := Int.mul_le_mul_of_nonpos_left (by omega) (by omega)
        omega
      omega
  have e : 2 ^ (Lg x + 1 + 1) = 2 ^ (Lg x + 1) * 2 := Nat.pow_succ _ _
  have := Nat.two_pow_pos (Lg x)
  have e2 : 2 ^ (Lg x + 1) = 2 ^ Lg x * 2 := Nat.pow_succ _ _
  omega
theorem mulI {a b : Int} (h : Lg a + Lg b < 134000000) : dMul (.int a) (.int b) = some (.int (a * b)) := by
  unfold dMul
  exact if_pos h
theorem divI {a b : Int} (h : 0 < b) (h2 : Lg b < 9000) : dDiv (.int a) (.int b) = some (.int (a / b)) := by
  unfold dDiv
  exact if_pos ⟨h, h2⟩
theorem modI {a b : Int} (h : 0 < b) : dMod (.int a) (.int b) = some (.int (a % b)) := by
  unfold dMod
  show (if b ≠ 0 then _ else _) = _
  rw [if_pos (by omega), Int.fmod_eq_emod_of_nonneg a (by omega)]
end Jw
/-! An error class two levels above a built-in one, its __init__ saying super().__init__(). -/
namespace Jw
open PySem PySem.Spec PyProof.Rows L2
abbrev supB (p0 p1 p2 p3 p4 : Pos) : List Stmt := [.Expr (.Call (.Attribute (.Call (.Name "super" p0) [] [] p1) "__init__" p2) [] [] p3) p4]
section
open PySem.W
variable {prog : Program} {w : World} {A : Around} {E : Value → Shared → Prop} {R : Result → Shared → Prop} {h : Heap} {g : Array GenState} {d : Drawn} {t : Nat} {os : OsState}
/-- the built-in __init__, bound to the new error, is called -/
theorem mw_call {B i newId : String} {bmB : List Value} (FB : ExcBaseFacts B newId i bmB) {u x C N t0 : Addr} {nm q : Str} {bs bm : List Value} {hdct : Bool} {sn : List Str} {sub : List Value} {ab : Bool} {col : Option Bool} {dd : Option Addr} {k0 k1 k2 k3 k5 : Option Value} {Q : Value → Shared → Prop}
    (hC : h.get? C = some (excClassObj nm q C N bs bm hdct sn sub ab col dd k0 k1 k2 k3 k5 newId)) (hu : h.get? u = some (kxs_mw i x)) (he : h.get? x = some (PySem.HandSPX.excO C t0))
    (hq : ∀ h' t1, (∀ b o, b ≠ x → h.get? b = some o → h'.get? b = some o) → h'.get? x = some (PySem.HandSPX.excO C t1) → Q .none ⟨h', g, d, t, os⟩) :
    wpAny (model prog w) A (call (.ref u) []) Q E ⟨h, g, d, t, os⟩ := by
  refine wpAny_call (codeAny_of_tree ?_)
  show wpAny _ A.in1 (callAny (.ref u) ⟨[], []⟩) _ _ _
  simp only [callAny]
  refine wpAny_bind (wpAny_load hu ?_)
  simp only [kxs_mw, show (Value.type "method-wrapper" == Value.type "method" || Value.type "method-wrapper" == Value.type "builtin_function_or_method" || Value.type "method-wrapper" == Value.type "method-wrapper") = true by decide, if_true]
  refine KFB.if_so (by decide) ?_
  refine wpAny_bind (check_bound_init FB.toExcCallFacts hC he rfl ?_)
  refine wpAny_bind (wpAny_pure (wpAny_pure ?_))
  refine ⟨plainId_quiet FB.init.plain _, codeAny_builtin FB.initEntry ?_⟩
  exact exc_init_tree (cls := .ref C) (t0 := t0) (dv := none) (c2 := .none) (c3 := .none) (b4 := .bool false) he (by decide) fun h' k e' _ => hq h' _ k e'

/-- an error class's own __init__ -/
structure SupI (P : Program) (K : Frag) (C fI : Addr) (qual : Str) (params : Arguments) (body : List Stmt) (scope : Scope) : Prop where
  ex : ∃ (kV doc pm ct oc : Value) (an od : Option Addr) (osl : Array (Option Value)) (cda cc : Addr) (ccl cl : Value) (cdd cld : Option Addr) (ccs csl : Array (Option Value)) (vs : Array Value) (file : Str) (tf : Tok) (cd : ClassData),
    K.lookup fI = some ⟨oc, od, .func (ksFn "__init__" qual params body scope .none kV doc pm an (.ref cda) ct cc), osl⟩ ∧ codeIn K (.ref cda) qual = true ∧ K.lookup cda = some ⟨ccl, cdd, .fields vs, ccs⟩ ∧ vs[2]? = some (.str file tf) ∧ ((P.main.file : Str) == file) = true ∧
      K.lookup cc = some ⟨cl, cld, .cell (some (.ref C)), csl⟩ ∧ clsIn K C = some cd ∧ mroIn K C (.ref C) = some true ∧ alongIn K "__init__" ((cd.mro.dropWhile (· != .ref C)).drop 1) = some (some (.builtin "ValueError.__init__"))
  sub : subIn K (.ref C) (.type "ValueError") = some true
  tp : nsIn K cStatics "thirdparty.any" = some none
  sup : nsIn K mainGlobals "super" = some none
theorem sup_init {P : Program} {K : Frag} {C fI e t0 : Addr} {qual : Str} {params : Arguments} {scope : Scope} {p0 p1 p2 p3 p4 : Pos} {ar : Arg} {s : Shared} {mg mb : Str → Option Value} (S : SupI P K C fI qual params (supB p0 p1 p2 p3 p4) scope) (O : OexC K C)
    (hp : (params.posonlyargs ++ params.args).head? = some ar) (hks : scope.names.lookup ("super" : Str) = some .globalImplicit) (hkc : scope.names.lookup ("__class__" : Str) = some .free) (hka : scope.names.lookup ar.arg = some .local) (hnc : ∀ x ∈ scope.names, x.2 ≠ .cell)
    (hco : scope.isCoroutine = false) (hgen : scope.isGenerator = false) (hk : scope.kind = .function) (htop : (P.main.scope.names.lookup ("super" : Str)).isSome = false)
    {pl : Env → Sem Bool} (hev : ∀ env : Env, eval (.Call (.Attribute (.Call (.Name "super" p0) [] [] p1) "__init__" p2) [] [] p3) env = (do
      let ov ← attributeBase (.Call (.Name "super" p0) [] [] p1) "__init__" env (eval (.Call (.Name "super" p0) [] [] p1) env)
      standAt p2.atName
      let (f, first) ← holding [ov] (getMethod ov "__init__" (pl env))
      callWith p3 f first (backTo p3 (starEach [] env)) []))
    (hbind : ∀ (kV doc pm ct : Value) (an : Option Addr) (cda cc : Addr), bindArgs (ksFn "__init__" qual params (supB p0 p1 p2 p3 p4) scope .none kV doc pm an (.ref cda) ct cc) ⟨[.ref e], []⟩ = pure [(ar.arg, .ref e)])
    (X : K.In s.heap) (hG : s.heap.Ns mainGlobals mg) (hB : s.heap.Ns builtinsNs mb) (hbb : ∀ x : Str, x ≠ "__name__" → mb x = bootBuiltins x) (lim : s.heap.NoLimit) (hroom : A.depth < recursionLimit) (he : s.heap.get? e = some (PySem.HandSPX.excO C t0))
    (hq : ∀ h' tk' t1, (∀ b o, b ≠ e → s.heap.get? b = some o → h'.get? b = some o) → h'.get? e = some (PySem.HandSPX.excO C t1) → R (.ok (.ret .none)) { s with heap := h', toks := tk' }) :
    codeAny (model P w) A (.call (.ref fI) ⟨[.ref e], []⟩) R s := by
  obtain ⟨kV, doc, pm, ct, oc, an, od, osl, cda, cc, ccl, cl, cdd, cld, ccs, csl, vs, file, tf, cd, l1, l2, l3, l4, l5, l6, l7, l8, l9⟩ := S.ex
  obtain ⟨nm, q, N, bs, bm, sn, sub, ab, col, dd, k0, k1, k2, k3, k5, hC, hbm⟩ := O.cls
  refine ks_codeAny_call_defAt (fd := ksFn "__init__" qual params (supB p0 p1 p2 p3 p4) scope .none kV doc pm an (.ref cda) ct cc) (body := supB p0 p1 p2 p3 p4) (binds := [(ar.arg, .ref e)]) hroom (X _ _ l1) rfl lim (codeRec_of X l2) rfl (.of_eq (hbind kV doc pm ct an cda cc)) hnc
    (fun x hx => by rw [List.mem_singleton.mp hx]; exact hka) (fun h₁ hns hk₁ => ?_) hco hgen hk
  have X1 : K.In h₁ := X.keeps hk₁
  have he1 := hk₁ _ _ he
  have hv : (fun x => ([(ar.arg, Value.ref e)] : List (Str × Value)).reverse.lookup x) ar.arg = some (.ref e) := by simp
  obtain ⟨oD, hD1, hD2⟩ : ∃ oD, h₁.get? C = some oD ∧ oD.data = .cls cd := by
    have l7' := l7
    unfold clsIn at l7'
    split at l7'
    · rename_i c d cd' sl ho
      cases l7'
      exact ⟨_, X1 _ _ ho, rfl⟩
    · cases l7'
  show PySem.wpAt (model P w) (A.deeper (ksEnv qual scope s.heap.objs.size fI (.ref cda) cc)) (.func (supB p0 p1 p2 p3 p4) (ksEnv qual scope s.heap.objs.size fI (.ref cda) cc)) (execs (supB p0 p1 p2 p3 p4) (ksEnv qual scope s.heap.objs.size fI (.ref cda) cc)) _ _ _
  refine ks_wpAt_execs_cons (ks_wpAt_Expr_any (ks_wpAt_MethodCall ?_ (hev _)) (by simp [interactive, hk]) rfl)
  refine ks_wpAt_super_base (env := ksEnv qual scope s.heap.objs.size fI (.ref cda) cc) hks hkc (by decide) rfl (X1 _ _ l1) rfl hp rfl (X1 _ _ l3) rfl l4 l5 htop ?_
  refine ks_loadName_global hk hks (PySem.Calls.loadGlobal_builtin (env := ksEnv qual scope s.heap.objs.size fI (.ref cda) cc) (hG.keeps hk₁) (mg_none_of X hG S.sup) (hB.keeps hk₁) ((hbb _ (by decide +kernel)).trans PyProof.Rows.Boot.«super») ⟨rfl, ?_⟩)
  refine wpAny_loadName_free hk hkc rfl ⟨_, X1 _ _ l6, rfl⟩ ?_
  refine wpAny_loadName_local hk hka hns hv ?_
  refine ks_wpAny_isType_cls hD1 hD2 ⟨rfl, ?_⟩
  refine ks_wpAny_call_super hD1 hD2 he1 rfl (fun c z => nomatch z) (looks_mroIn X1 l8) (fun h' z k => ?_)
  have X2 : K.In h' := X1.keeps k
  have he2 := k _ _ he1
  have I2 : InstAt h' e (PySem.HandSPX.excO C t0) C none := ⟨he2, rfl, rfl, trivial⟩
  have hI : Looks (model P w) h' (isInstance (.ref e) (.type "ValueError")) true := I2.type.andThen (looks_subIn X2 S.sub)
  refine kxs_getMethod kxs_ValueError z (looks_opaque X2 S.tp) (l₀ := cd.mro) (fun A Q E s k q => wpAny_bind ((looks_clsIn X2 l7) A _ E s k (wpAny_pure q))) rfl X2 l9 hI (ks_ne X2 I2 l7) (by decide) ?_
  have k3 : ∀ b o, h'.get? b = some o → (h'.push (kxs_mw "ValueError.__init__" e)).get? b = some o := fun b o z => Heap.get?_push_of_some _ z
  have hu : (h'.push (kxs_mw "ValueError.__init__" e)).get? h'.objs.size = some (kxs_mw "ValueError.__init__" e) := Heap.get?_push_at rfl rfl
  refine kxs_callWith (i := "ValueError.__init__") (x := e) rfl (evalArgs_empty ⟨hu, ?_⟩)
  refine mw_call PySem.F.excBase_ValueError ((X2.keeps k3) _ _ hC) hu (k3 _ _ he2) (fun h5 t1 k5 e5 => ?_)
  refine wpAt_of_wpAny (wpAny_execs_nil ?_)
  exact hq _ _ t1 (fun b o hb z => k5 b o hb (k3 _ _ (k _ _ (hk₁ _ _ z)))) e5
end
end Jw
namespace Jw
open PySem PySem.Spec PyProof.Rows L2
/-- x names an error class of the module at C, which says super().__init__() -/
structure ErrC (P : Program) (K : PySem.W.Frag) (mg : Str → Option Value) (x : Str) (C : Addr) : Prop where
  mgC : mg x = some (.ref C)
  ox : OexC K C
  ini : ∃ (fI : Addr) (qual : Str) (params : Arguments) (scope : Scope) (p0 p1 p2 p3 p4 : Pos) (ar : Arg) (pl : Env → Sem Bool), PySem.W.findIn K (.ref C) "__init__" = some (some (.ref fI)) ∧ PySem.W.typeIn K (.ref fI) = some (.type "function") ∧ SupI P K C fI qual params (supB p0 p1 p2 p3 p4) scope ∧
    (params.posonlyargs ++ params.args).head? = some ar ∧ scope.names.lookup ("super" : Str) = some .globalImplicit ∧ scope.names.lookup ("__class__" : Str) = some .free ∧ scope.names.lookup ar.arg = some .local ∧ (∀ x ∈ scope.names, x.2 ≠ .cell) ∧
    scope.isCoroutine = false ∧ scope.isGenerator = false ∧ scope.kind = .function ∧ (P.main.scope.names.lookup ("super" : Str)).isSome = false ∧
    (∀ env : Env, eval (.Call (.Attribute (.Call (.Name "super" p0) [] [] p1) "__init__" p2) [] [] p3) env = (do
      let ov ← attributeBase (.Call (.Name "super" p0) [] [] p1) "__init__" env (eval (.Call (.Name "super" p0) [] [] p1) env)
      standAt p2.atName
      let (f, first) ← holding [ov] (getMethod ov "__init__" (pl env))
      callWith p3 f first (backTo p3 (starEach [] env)) [])) ∧
    ∀ (kV doc pm ct : Value) (an : Option Addr) (cda cc e : Addr), bindArgs (PySem.W.ksFn "__init__" qual params (supB p0 p1 p2 p3 p4) scope .none kV doc pm an (.ref cda) ct cc) ⟨[.ref e], []⟩ = pure [(ar.arg, .ref e)]
section
variable {X : Cx} {p pos : Pos}
/-- X(), the error made -/
theorem pmk_sup {x : Str} {C : Addr} {k : Nat} (c : ErrC X.prog X.K X.mg x C) (hr : Room (k + 1) X.A) (hg : Gl X x) (hdb : (x == ("__debug__" : Str)) = false := by decide) : PMk X (.Call (.Name x p) [] [] pos) (fun _ H Q => Q (.ref C) none H) := by
  intro pins s σ H Q I h
  obtain ⟨fI, qual, params, scope, p0, p1, p2, p3, p4, ar, pl, iC, tI, S, hp, hks, hkc, hka, hnc, hco, hgen, hk, htop, hev, hbind⟩ := c.ini
  obtain ⟨nm, q, N, bs, bm, sn, sub, ab, col, dd, k0, k1, k2, k3, k5, hC, hbm⟩ := c.ox.cls
  refine wpAny_Call_Name_kw (ld_glob I hg c.mgC ?_ hdb)
  refine PySem.W.callWith_K0 I.kIn c.ox.kC ?_
  show wpAny _ _ (call (.ref C) []) _ _ _
  have I0 := I
  obtain ⟨hp', g, dr, tk, os⟩ := s
  have hsz : hp'.objs.size ≤ hp'.objs.size + 1 := Nat.le_succ _
  have na : H (hp'.objs.size + 1) = none := I.hok.fresh hsz
  have kk : ∀ b o, hp'.get? b = some o → ((hp'.push (PySem.W.kdv_tup [])).push (PySem.HandSPX.excO C hp'.objs.size)).get? b = some o := fun b o e => Heap.get?_push_of_some _ (Heap.get?_push_of_some _ e)
  have hget : ((hp'.push (PySem.W.kdv_tup [])).push (PySem.HandSPX.excO C hp'.objs.size)).get? (hp'.objs.size + 1) = some (PySem.HandSPX.excO C hp'.objs.size) := by heap_get
  have hnone : hp'.get? (hp'.objs.size + 1) = none := by
    cases z : hp'.get? (hp'.objs.size + 1) with
    | none => rfl
    | some o => exact absurd (Heap.lt_size z) (Nat.not_lt.mpr (Nat.le_succ _))
  have M := I.ok.mod
  have bk : ∀ b o, X.base.get? b = some o → hp'.get? b = some o := fun b o e => I.bk b o e
  obtain ⟨mb, hb1, hb2⟩ := M.blt
  have bk2 : ∀ b o, X.base.get? b = some o → ((hp'.push (PySem.W.kdv_tup [])).push (PySem.HandSPX.excO C hp'.objs.size)).get? b = some o := fun b o e => kk b o (bk b o e)
  refine wpAny_call (PySem.HandSPX.call_own PySem.F.excBase_ValueError (fun Y => PySem.HandSPX.refsVE_contains Y bm hbm) (I.kIn _ _ hC) (PySem.W.looks_findIn I.kIn iC) (fun self => PySem.W.bind_fn I.kIn self tI) (by decide)
    (sup_init S c.ox hp hks hkc hka hnc hco hgen hk htop hev (fun kV doc pm ct an cda cc => hbind kV doc pm ct an cda cc _) (fun b o e => bk2 b o (M.kin b o e)) (M.glob.keeps bk2) (hb1.keeps bk2) hb2 (M.nolimit.keeps bk2) (hr.make C [] []).depth hget fun h' tk' t1 k1 e1 => ?_))
  refine ⟨rfl, ?_⟩
  refine ⟨hp'.objs.size + 1, _, _, ⟨hp', g, dr, tk, os⟩, H, .ref C, none, rfl, I0, fun b o e => ?_, hnone, e1, ⟨rfl, rfl⟩, rfl, rfl, na, rfl, I0.bare, raises_own c.ox.exC c.ox.tyC, h⟩
  exact k1 b o (fun z => by rw [z, hnone] at e; cases e) (kk b o e)
end
end Jw
/-! Defs that may raise own errors. -/
namespace Jw
open PySem PySem.Spec PyProof.Rows L2
/-- an error of the class that κ tells -/
abbrev weK (κ : String → Addr) : XK → String → Hp → Prop := fun E c H => E (.ref (κ c)) none H
/-- a def that may be called by its name and may raise -/
structure CalX (P : Program) (w : World) (K : PySem.W.Frag) (mg : Str → Option Value) (base : Heap) (T : List (Addr × Str)) (κ : String → Addr) (k n : Nat) (x : Str) (F : List Sl → M D) : Prop where
  ex : ∃ (f : Addr) (fd : FuncData) (ps : List Str), FnOk P w K mg base (L2.CX P w) k f fd ps (spOf K T (weK κ) n F) ∧ mg x = some (.ref f) ∧ PySem.W.keepIn K (.ref f) = true ∧ Binds K fd ps []
section
variable {P : Program} {w : World} {K : PySem.W.Frag} {mg : Str → Option Value} {base : Heap} {T : List (Addr × Str)} {κ : String → Addr}
theorem CalX.mono {j k n : Nat} {x : Str} {F : List Sl → M D} (c : CalX P w K mg base T κ j n x F) (h : j ≤ k) : CalX P w K mg base T κ k n x F :=
  let ⟨f, fd, ps, h1, h2⟩ := c.ex; ⟨f, fd, ps, h1.mono h, h2⟩
theorem fn_defX {x : Str} {st : Stmt} {f : Addr} {fd : FuncData} {N ps : List Str} {k n m : Nat} {fb : Rho → M Ctl} (Fu : L2.Fun K x x st f fd) (S : FnScope N ps (defScope st)) (hn : ps.length = n) (hm : N.length = n + m)
    (body : ∀ (cdv : Value) (A : Around) (outer : List Env) (s : Shared) (H : Hp) (E : XK), Room k (A.deeper (envOfC x (defScope st) s.heap.objs.size f cdv)) → DSs (cxOf (L2.CX P w) P w K mg base N x (defScope st) f cdv A outer s H E) T (weK κ E) (defBody st) fb) :
    FnOk P w K mg base (L2.CX P w) (k + 1) f fd ps (spOf K T (weK κ) n (fDef m fb)) := by
  refine Fu.okX S (fun vs H Q E h => by rw [h.1, hn]) fun cdv A outer s H vs Q E hr h => ?_
  obtain ⟨t, a, b⟩ := body cdv A outer s H E hr
  refine ⟨t, a, ?_⟩
  obtain ⟨hl, hp, F, as, s1, G, w1, p⟩ := h
  refine b (rel_start G w1 (by rw [hl]; exact hm)) ?_
  refine Post.imp (Post.bind p) (fun c s2 k2 => ?_) fun c s2 z F' H' g => z F' H' g
  cases c with
  | nx ρ => exact fun F' H' σ' _ R => Post.ret k2 F' H' _ R.g .non
  | rt d => exact fun F' H' v g r => Post.ret k2 F' H' v g r
  | bk ρ => exact k2.elim
  | ct ρ => exact k2.elim
theorem cal_mkX {x : Str} {st : Stmt} {N ps : List Str} {k n m : Nat} {fb : Rho → M Ctl} (d : Df K mg x st) (S : FnScope N ps (defScope st)) (hn : ps.length = n) (hm : N.length = n + m)
    (hb : ∀ (kV doc pm : Value) (an : Option Addr) (cdv ct : Value) (us : List Value), us.length = ps.length → bindArgs (PySem.W.fnOf x x (defArgs st) (defBody st) (defScope st) .none kV doc pm an cdv ct) ⟨us, []⟩ = pure (ps.zip us))
    (body : ∀ (f : Addr) (cdv : Value) (A : Around) (outer : List Env) (s : Shared) (H : Hp) (E : XK), Room k (A.deeper (envOfC x (defScope st) s.heap.objs.size f cdv)) → DSs (cxOf (L2.CX P w) P w K mg base N x (defScope st) f cdv A outer s H E) T (weK κ E) (defBody st) fb) :
    CalX P w K mg base T κ (k + 1) n x (fDef m fb) := by
  obtain ⟨f, fd, Fu, hm1⟩ := d.ex
  exact ⟨f, fd, ps, fn_defX Fu S hn hm fun cdv A outer s H E hr => body f cdv A outer s H E hr, hm1, Fu.kp, Fu.binds hb⟩
end
section
variable {X : Cx} {T : List (Addr × Str)} {κ : String → Addr} {pos p : Pos}
/-- in a body that may raise -/
theorem de_calX {k j n : Nat} {x : Str} {e : Expr} {es : List Expr} {F : List Sl → M D} {fas : Rho → M (List Sl)} {E : XK} (c : CalX X.prog X.w X.K X.mg X.base T κ k n x F) (hr : Room j X.A) (hk : k ≤ j) (hg : Gl X x) (tk : Takes X fun cls d _ H => E cls d H) (ha : DA X T (weK κ E) n (e :: es) fas)
    (hdb : (x == ("__debug__" : Str)) = false := by decide) (he : starEach (e :: es) X.env = (false, eval e X.env) :: starEach es X.env := by rfl) (hpl : (backTo pos (starEach es X.env)).any (·.1) = false := by rfl) :
    DE X T (weK κ E) (.Call (.Name x p) (e :: es) [] pos) (fCall F fas) := by
  obtain ⟨f, fd, ps, h1, h2, h3, h4⟩ := c.ex
  exact de_callW h1 (hr.mono hk) h2 h3 h4 (passes_call tk fun _ _ _ _ h => h) (fun _ _ h => h) hg ha hdb he hpl
/-- where nothing may be raised -/
theorem de_calN {k j n : Nat} {x : Str} {e : Expr} {es : List Expr} {F : List Sl → M D} {fas : Rho → M (List Sl)} (c : CalX X.prog X.w X.K X.mg X.base T κ k n x F) (hr : Room j X.A) (hk : k ≤ j) (hg : Gl X x) (ha : DA X T noEX n (e :: es) fas)
    (hdb : (x == ("__debug__" : Str)) = false := by decide) (he : starEach (e :: es) X.env = (false, eval e X.env) :: starEach es X.env := by rfl) (hpl : (backTo pos (starEach es X.env)).any (·.1) = false := by rfl) :
    DE X T noEX (.Call (.Name x p) (e :: es) [] pos) (fCall F fas) := by
  obtain ⟨f, fd, ps, h1, h2, h3, h4⟩ := c.ex
  exact de_callW h1 (hr.mono hk) h2 h3 h4 passL (fun _ _ h => h) hg ha hdb he hpl
/-- raise X() -/
theorem ds_raiseX {x : Str} {c : String} {C : Addr} {k : Nat} {E : XK} {p2 : Pos} (hc : X.calm = true) (tk : Takes X fun cls d _ H => E cls d H) (e : ErrC X.prog X.K X.mg x C) (hκ : κ c = C) (hr : Room (k + 1) X.A) (hg : Gl X x) (hdb : (x == ("__debug__" : Str)) = false := by decide) :
    DS X T (weK κ E) (.Raise (some (.Call (.Name x p) [] [] p2)) none pos) (fRaise c) := by
  refine ⟨_, ps_raise hc tk (pmk_sup e hr hg hdb), fun {hp F0 H0 F H σ ρ s D} R q => ?_⟩
  have z : WX X.K T hp F0 H0 (weK κ E) c s := q
  have z2 := z F H R.g
  show E (.ref C) none H
  rw [← hκ]
  exact z2
end
end Jw
/-! The word of a caught error: isinstance of it, list.count, and the suite. -/
namespace Jw
open PySem PySem.Spec PyProof.Rows L2
/-- what isinstance asks of an error's class -/
structure KcE (K : PySem.W.Frag) (C : Addr) : Prop where
  cl : (PySem.W.clsIn K C).isSome = true
  ga : PySem.W.findIn K (.ref C) "__getattribute__" = some (some (.builtin "BaseException.__getattribute__"))
  gt : ∃ g, PySem.W.findIn K (.ref C) "__getattr__" = some g
  sub : PySem.W.subIn K (.ref C) (.type "BaseException") = some true
  ca : PySem.W.findIn K (.ref C) "__class__" = some (some (.builtin "object.__class__"))
  mr : PySem.W.mroIn K C (.type "object") = some true
  sp : PySem.W.specialIn K (.builtin "object.__class__") "__get__" = some (some (.builtin "getset_descriptor.__get__"))
  tk : PySem.W.takesIn K (.builtin "object.__class__") = some true
def rIsE (K : PySem.W.Frag) (a C : Addr) : List V → Hp → VK → Prop := fun xs H Q => ∃ (D : Addr) (b : Bool), xs = [V.ref a, V.ref D] ∧ PySem.W.kitOne K (.ref C) (.ref D) = some b ∧ Q (.bl b) H
def rCountL (K : PySem.W.Frag) : V → List V → Hp → VK → Prop := fun x xs H Q => ∃ (a : Addr) (ys : List V) (y : V), x = V.ref a ∧ xs = [y] ∧ SqL K H a ys ∧ flatV y = true ∧ ys.all flatV = true ∧ Q (.int ((ys.countP fun z => eqV z y : Nat) : Int)) H
section
variable {X : Cx}
theorem cr_isE {a C : Addr} {oe : Obj} (hp : (a, oe) ∈ X.pn) (hc : oe.cls = .ref C) (hdict : oe.dict = none) (hd : ∃ vs, oe.data = .fields vs) (k : KcE X.K C) : CallR X (.builtin "isinstance") (rIsE X.K a C) := by
  intro pins s σ H xs us Q I r h
  obtain ⟨D, b, rfl, e, q⟩ := h
  obtain ⟨u1, u2, rfl, r1, r2⟩ := vals2 r
  cases (show u1 = Value.ref a from r1)
  cases (show u2 = Value.ref D from r2)
  obtain ⟨h1, _⟩ := I.pin (a, oe) (List.mem_append_left _ hp)
  obtain ⟨g, hgt⟩ := k.gt
  obtain ⟨vs, hvs⟩ := hd
  refine PySem.W.kia_one (PySem.W.kitx_exc (od := none) (ox := oe) k.cl k.ga hgt k.sub k.ca k.sp k.tk k.mr) I.kIn ⟨h1, hc, ?_, ?_⟩ e (fun z => nomatch z) fun tk => ⟨.bl b, H, I.tok tk, rfl, q⟩
  · unfold PySem.W.notCls
    rw [hvs]
  · rw [hdict]
    trivial
theorem countP_eqU {x : V} : ∀ {xs : List V} {us : List Value}, Vals xs us → xs.all flatV = true → us.countP (eqU x) = xs.countP fun y => eqV y x
  | _, _, .nil, _ => rfl
  | y :: xs, u :: us, .cons r t, f => by
    rw [List.all_cons, Bool.and_eq_true] at f
    rw [List.countP_cons, List.countP_cons, eqU_of r f.1, countP_eqU t f.2]
theorem mt_countL : MtR X "list.count" (rCountL X.K) := by
  intro pins s σ H x xs v us Q I rx rxs h
  obtain ⟨a, ys, y, rfl, rfl, hs, fy, fys, q⟩ := h
  cases rx
  cases rxs with
  | cons ry rt =>
    rename_i uy ut
    cases rt
    obtain ⟨its, rv, ⟨⟨cls, dd, data, sl⟩, n, ho, hc, hdn, hd⟩, hlen⟩ := I.list hs
    simp only at hc hd
    subst hc hd
    refine call_meets PySem.F.slot_list_count ⟨_, ho, rfl⟩ PySem.F.entry_list_count (PySem.F.args_list_count_2 _ _) (SeqAt.list_countAt a its.toArray n dd sl uy (eqU y)) ⟨ho, fun u' hu' => mem_eqAt ry fy rv fys u' (by simpa using hu'), ?_⟩
    have e : its.toArray.toList.countP (eqU y) = ys.countP fun z => eqV z y := countP_eqU rv fys
    rw [e]
    exact ⟨.int _, H, I.tok _, ⟨_, rfl⟩, q⟩
end
/-- a display of texts -/
theorem pa_strs {X : Cx} {es : List Expr} {ws : List Str} (h : StrEs es ws) : PA X es (ws.foldr (fun w t => tCons (tC (.str w)) t) tNil) := by
  induction h with
  | nil => exact pa_nil
  | cons x j p _ ih => exact pa_cons pe_str ih
/-- a display of isinstance(error, C) -/
inductive IsEs (mg : Str → Option Value) (sg : Scope) (er : Str) : List Expr → List Addr → Prop
  | nil : IsEs mg sg er [] []
  | cons (x : Str) (D : Addr) (p1 p2 p3 p4 : Pos) {es : List Expr} {Ds : List Addr} : mg x = some (.ref D) → sg.names.lookup x = some .globalImplicit → (x == ("__debug__" : Str)) = false → IsEs mg sg er es Ds → IsEs mg sg er (.Call (.Name "isinstance" p1) [.Name er p2, .Name x p3] [] p4 :: es) (D :: Ds)
theorem pa_isE {X : Cx} {er : Str} {a C : Addr} {oe : Obj} (hp : (a, oe) ∈ X.pn) (hc : oe.cls = .ref C) (hdict : oe.dict = none) (hd : ∃ vs, oe.data = .fields vs) (k : KcE X.K C) (hg : Gl X "isinstance") (hm : X.mg "isinstance" = none) {i : Nat} (hN : X.N[i]? = some er) (hv : Vis X.env.scope er) (hde : (er == ("__debug__" : Str)) = false) (hce : (er == ("__classdict__" : Str)) = false)
    {es : List Expr} {Ds : List Addr} (h : IsEs X.mg X.env.scope er es Ds) : PA X es (Ds.foldr (fun D t => tCons (tCB (rIsE X.K a C) (tCons (tVar i) (tCons (tC (.ref D)) tNil))) t) tNil) := by
  induction h with
  | nil => exact pa_nil
  | cons x D p1 p2 p3 p4 hmx hgx hdx _ ih => exact pa_cons (pe_callB (cr_isE hp hc hdict hd k) hg hm (by rfl) (pa_cons (pe_var hN hv hde hce) (pa_cons (pe_glob hgx hmx rfl hdx) pa_nil))) ih
end Jw
namespace Jw
open PySem PySem.Spec PyProof.Rows L2
/-- the word of an error by its flags -/
def pickW (bs : List Bool) (ws : List Str) (other : Str) : Option Str := if bs.countP id = 1 then ws[bs.findIdx id]? else some other
def tIsF (K : PySem.W.Frag) (a C : Addr) (i : Nat) (Ds : List Addr) : TA := Ds.foldr (fun D t => tCons (tCB (rIsE K a C) (tCons (tVar i) (tCons (tC (.ref D)) tNil))) t) tNil
def tStrs (ws : List Str) : TA := ws.foldr (fun w t => tCons (tC (.str w)) t) tNil
def tSuite (K : PySem.W.Frag) (a C : Addr) (Ds : List Addr) (ws : List Str) (other : Str) : TS :=
  tSeq (tAsg (tLst (tIsF K a C 1 Ds)) (gName 2)) (tRet (tIf (tTest (tOp rEq (tBM K "list" (rCountL K) (tVar 2) (tCons (tC (.bl true)) tNil)) (tC (.int 1)))) (tOp (rIx K) (tLst (tStrs ws)) (tBM K "list" (rIndex K) (tVar 2) (tCons (tC (.bl true)) tNil))) (tC (.str other))))
theorem isF_run {K : PySem.W.Frag} {a C : Addr} {i : Nat} {σ : L2.St} {H : Hp} (hσ : σ[i]? = some (some (.ref a))) : ∀ {Ds : List Addr} {bs : List Bool} {Q : List V → Hp → Prop}, Paired (fun D b => PySem.W.kitOne K (.ref C) (.ref D) = some b) Ds bs → Q (bs.map V.bl) H → tIsF K a C i Ds σ H Q
  | _, _, _, .nil, q => q
  | _, _, _, .cons h t, q => ⟨.ref a, hσ, _, _, rfl, h, isF_run hσ t q⟩
theorem strs_run {σ : L2.St} {H : Hp} : ∀ {ws : List Str} {Q : List V → Hp → Prop}, Q (ws.map V.str) H → tStrs ws σ H Q
  | [], _, q => q
  | _ :: ws, _, q => strs_run (ws := ws) q
theorem paired_len {α β : Type} {R : α → β → Prop} : ∀ {xs : List α} {ys : List β}, Paired R xs ys → xs.length = ys.length
  | _, _, .nil => rfl
  | _, _, .cons _ t => congrArg Nat.succ (paired_len t)
theorem flat_bls (bs : List Bool) : (bs.map V.bl).all flatV = true := by
  induction bs with
  | nil => rfl
  | cons b bs ih => rw [List.map_cons, List.all_cons, ih]; rfl
theorem count_bls (bs : List Bool) : (bs.map V.bl).countP (fun z => eqV z (.bl true)) = bs.countP id := by
  induction bs with
  | nil => rfl
  | cons b bs ih =>
    rw [List.map_cons, List.countP_cons, List.countP_cons, ih]
    cases b <;> rfl
theorem suite_run {K : PySem.W.Frag} {a C : Addr} {Ds : List Addr} {bs : List Bool} {ws : List Str} {other w : Str} {σ : L2.St} {H : Hp} {D : Ends} (hσ : σ[1]? = some (some (.ref a))) (hl : 2 < σ.length) (h : Paired (fun D b => PySem.W.kitOne K (.ref C) (.ref D) = some b) Ds bs) (hs : Ds.length ≤ 1000) (hw : ws.length ≤ 1000)
    (hp : pickW bs ws other = some w) (q : ∀ H', (∀ b o, H b = some o → H' b = some o) → D.rt (.str w) H') : tSuite K a C Ds ws other D σ H := by
  refine isF_run (Q := fun xs H1 => _) hσ h ⟨?_, fun p hn => ?_⟩
  · rw [List.length_map, ← paired_len h, sizeLine_eq]
    omega
  · have h2 : (σ.set 2 (some (V.ref p)))[2]? = some (some (.ref p)) := List.getElem?_set_self hl
    have hL : SqL K (upd H p (.lst (bs.map V.bl))) p (bs.map V.bl) := .inl (.inl upd_same)
    have keep : ∀ b o, H b = some o → upd H p (.lst (bs.map V.bl)) b = some o := fun b o e => by
      rw [upd_ne (ne_of_none e hn)]
      exact e
    refine ⟨.ref p, h2, .inl ⟨rfl, _, hL⟩, p, _, .bl true, rfl, rfl, hL, rfl, flat_bls bs, rfl, _, rfl, ?_⟩
    rw [count_bls]
    unfold pickW at hp
    by_cases hc : bs.countP id = 1
    · rw [if_pos hc] at hp
      rw [hc, if_pos (by rfl)]
      refine strs_run ⟨?_, fun p2 hn2 => ?_⟩
      · rw [List.length_map, sizeLine_eq]
        omega
      · have hL2 : SqL K (upd (upd H p (.lst (bs.map V.bl))) p2 (.lst (ws.map V.str))) p (bs.map V.bl) := .inl (.inl (by
          have np : p ≠ p2 := fun z => by rw [← z, upd_same] at hn2; cases hn2
          rw [upd_ne np, upd_same]))
        have hex : ∃ x ∈ bs, id x = true := List.countP_pos_iff.mp (by omega)
        have hlt : bs.findIdx id < bs.length := List.findIdx_lt_length_of_exists hex
        have hj : bs[bs.findIdx id]? = some true := by
          rw [List.getElem?_eq_getElem hlt]
          exact congrArg some (List.findIdx_getElem (p := id) (w := hlt))
        refine ⟨.ref p, h2, .inl ⟨rfl, _, hL2⟩, p, _, .bl true, bs.findIdx id, .bl true, rfl, rfl, hL2, rfl, flat_bls bs, by rw [List.getElem?_map, hj]; rfl, rfl, fun m z' hm hz => ?_, .inl ⟨p2, _, _, .str w, rfl, rfl, .inl (.inl upd_same), ?_, ?_⟩⟩
        · rw [List.getElem?_map] at hz
          cases e : bs[m]? with
          | none => rw [e] at hz; cases hz
          | some b =>
            rw [e] at hz
            cases hz
            have hn3 := List.not_of_lt_findIdx hm
            obtain ⟨hb, e2⟩ := List.getElem?_eq_some_iff.mp e
            cases b with
            | false => rfl
            | true => simp [e2] at hn3
        · rw [atI_nat]
          rw [List.getElem?_map, hp]
          rfl
        · refine q _ fun b o e => ?_
          rw [upd_ne (ne_of_none (keep b o e) hn2)]
          exact keep b o e
    · rw [if_neg hc] at hp
      cases hp
      rw [if_neg (by
        intro z
        have z2 := of_decide_eq_true z
        have z3 := V.int.inj z2
        omega)]
      exact q _ keep
end Jw
namespace Jw
open PySem PySem.Spec PyProof.Rows L2
/-- the errors that may come, and their words -/
structure Wds (K : PySem.W.Frag) (κ : String → Addr) (J : Addr) (Ds : List Addr) (ws : List Str) (other : Str) (ks : List (String × Str)) : Prop where
  each : ∀ p ∈ ks, KcE K (κ p.1) ∧ PySem.W.exmOne K (.ref (κ p.1)) (.ref J) = some true ∧ ∃ bs, Paired (fun D b => PySem.W.kitOne K (.ref (κ p.1)) (.ref D) = some b) Ds bs ∧ pickW bs ws other = some p.2
  few : Ds.length ≤ 1000
  fewW : ws.length ≤ 1000
/-- told where nothing is raised, else the error's word -/
def TTword (κ : String → Addr) (ks : List (String × Str)) (told : Str) : (XK → Hp → VK → Prop) → Hp → VK → Prop := fun tl H Q =>
  tl (fun cls d H' => ∃ p ∈ ks, cls = .ref (κ p.1) ∧ d = none ∧ ∀ H'', (∀ b o, H' b = some o → H'' b = some o) → Q (.str p.2) H'') H (fun _ H' => Q (.str told) H')
theorem pss_ex {X : Cx} {α : Type} {P : α → Prop} {st : List Stmt} {t : α → TS} (h : ∀ a, P a → PSs X st (t a)) : PSs X st (fun D σ H => ∃ a, P a ∧ t a D σ H) :=
  ⟨fun pins s σ H D I ⟨a, hp, q⟩ => (h a hp).run pins s σ H D I q⟩
theorem takes_len {X : Cx} {W : L2.WX} (t : Takes X W) : Takes X (fun c d σ H => σ.length = X.N.length → W c d σ H) := fun u s' ⟨a, B, sI, pins, σ, H, cls, d, e, I, nb, up, sky, na, os, ag, w⟩ =>
  t u s' ⟨a, B, sI, pins, σ, H, cls, d, e, I, nb, up, sky, na, os, ag, w I.len⟩
theorem word_gives {X : Cx} {Ng : List Str} {x a er fl Jn : Str} {q told other : Str} {sg : Scope} {g J : Addr} {cdg : Value} {es ss : List Expr} {Ds : List Addr} {ws : List Str} {κ : String → Addr} {ks : List (String × Str)} {j1 j2 j3 j4 j5 : Nat}
    {p1 p2 p3 p4 p5 p6 p7 p8 p9 p10 p11 p12 p13 p14 p15 p16 p17 p18 p19 p20 p21 p22 p23 p24 p25 p26 : Pos} (hNg : Ng = [a, er, fl]) (nd : Ng.Nodup) (hgJ : sg.names.lookup Jn = some .globalImplicit) (hmJ : X.mg Jn = some (.ref J)) (hdJ : (Jn == ("__debug__" : Str)) = false)
    (hle : sg.names.lookup er = some .local) (hlf : sg.names.lookup fl = some .local) (hde : (er == ("__debug__" : Str)) = false) (hce : (er == ("__classdict__" : Str)) = false) (hdf : (fl == ("__debug__" : Str)) = false) (hcf : (fl == ("__classdict__" : Str)) = false)
    (hgi : sg.names.lookup ("isinstance" : Str) = some .globalImplicit) (hmi : X.mg "isinstance" = none) (hes : IsEs X.mg sg er es Ds) (hss : StrEs ss ws)
    (hsw : ∀ env : Env, swapsWith (.List es p5) (some (.Name fl p6)) p7.line env = pure false) (hbc : ∀ env : Env, attributeBase (.Name fl p8) "count" env (eval (.Name fl p8) env) = eval (.Name fl p8) env) (hbi : ∀ env : Env, attributeBase (.Name fl p13) "index" env (eval (.Name fl p13) env) = eval (.Name fl p13) env)
    (hlc : (p9.endLine == p11.line) = true) (hli : (p14.endLine == p16.line) = true) (W : Wds X.K κ J Ds ws other ks) (hpl : PlainIx (.Call (.Attribute (.Name fl p13) "index" p14) [.Constant (.bool true) j3 p15] [] p16)) :
    LamX.GivesTo X Ng x sg g cdg [.Try [.Expr (.Call (.Name a p1) [] [] p2) p3] [.ExceptHandler (some (.Name Jn p4)) (some er)
      [.Assign [.Name fl p6] (.List es p5) p7,
       .Return (some (.IfExp (.Compare (.Call (.Attribute (.Name fl p8) "count" p9) [.Constant (.bool true) j1 p10] [] p11) [.Eq] [.Constant (.int 1) j2 p12] p17) (.Subscript (.List ss p18) (.Call (.Attribute (.Name fl p13) "index" p14) [.Constant (.bool true) j3 p15] [] p16) p19) (.Constant (.str other) j4 p20) p21)) p22] p23] [] [] p24,
      .Return (some (.Constant (.str told) j5 p25)) p26] a q (TTword κ ks told) := by
  subst hNg
  intro f c' s H Q tl act hc h
  have hgl : Gl (cxOf C8.CX0 X.prog X.w X.K X.mg X.base [a, er, fl] x sg g cdg X.A X.stack s H C8.E0).nox Jn := hgJ
  refine ⟨_, pss_cons (ps_try_as (X := (cxOf C8.CX0 X.prog X.w X.K X.mg X.base [a, er, fl] x sg g cdg X.A X.stack s H C8.E0).nox) (c := .ref J) (i := 1)
      (tb := fun W D σ H => ∃ Ech : XK, (∀ cls d (σ' : L2.St) H', σ'.length = 3 → Ech cls d H' → W cls d σ' H') ∧ σ[0]? = some (some (.ref f)) ∧ H c' = some (LamX.CodeO c' q) ∧ tl Ech H (fun _ H' => D.nx σ H'))
      (ts := fun aE cls d D σ H => ∃ C, (cls = .ref C ∧ d = none ∧ KcE X.K C) ∧ tSuite X.K aE C Ds ws other D σ H) (Wout := fun _ _ _ _ => False)
      rfl rfl nd rfl hle ⟨hgl, hdJ, .inl hmJ⟩ LamX.takes0 (fun W pn xe tk _ => ?_) (fun aE oe cls d pn hz hdt => ?_)) (pss_one (ps_ret pe_str)), ?_⟩
  · refine ⟨fun pins s' σ H' D I h' => ?_⟩
    obtain ⟨Ech, hW, h1, h2, h3⟩ := h'
    have hp := act _ pn xe Ech p1 p2 (takes_len tk) fun cls d σ' H' he hl => hW cls d σ' H' hl he
    have hq := pss_one (ps_expr (pos := p3) hp)
    exact hq.run pins s' σ H' D I ⟨h1, h2, h3⟩
  · refine pss_ex fun C hC => ?_
    obtain ⟨rfl, rfl, hk⟩ := hC
    refine pss_cons (ps_set (i := 2) nd rfl (.inl hlf) (pe_lst (pa_isE (X := L2.Cx.suite (cxOf C8.CX0 X.prog X.w X.K X.mg X.base [a, er, fl] x sg g cdg X.A X.stack s H C8.E0).nox aE ((aE, oe) :: pn)) (a := aE) (C := C) (oe := oe) List.mem_cons_self hz.1 hz.2 hdt hk hgi hmi (i := 1) rfl (.inl hle) hde hce hes)) (hsw _) (.inr hlf)) (pss_one (ps_ret (pe_ifExp (pt_cmpR op_eq ?_ pe_int (nomark _)) (pe_ix ix_seq (pe_lst (pa_strs hss)) ?_ hpl) pe_str)))
    · exact pe_bm PySem.F.plainAttrs_list PySem.F.slot_list_count PySem.F.type_list_count mt_countL (pe_var (i := 2) rfl (.inl hlf) hdf hcf) (pa_cons pe_bl pa_nil) (hbc _) rfl hlc
    · exact pe_bm PySem.F.plainAttrs_list PySem.F.slot_list_index PySem.F.type_list_index mt_index (pe_var (i := 2) rfl (.inl hlf) hdf hcf) (pa_cons pe_bl pa_nil) (hbi _) rfl hli
  · refine ⟨_, ?_, rfl, hc, h⟩
    rintro cls d σ' H' hlen ⟨p, hp, rfl, rfl, hq⟩
    obtain ⟨k1, k2, bs, k3, k4⟩ := W.each p hp
    refine ⟨true, k2, fun _ aE hn => ⟨κ p.1, ⟨rfl, rfl, k1⟩, ?_⟩, fun z => Bool.noConfusion z⟩
    exact suite_run (List.getElem?_set_self (by omega)) (by rw [List.length_set]; omega) k3 W.few W.fewW k4 hq
end Jw
namespace Jw
open PySem PySem.Spec PyProof.Rows L2
/-- lists of the def's own are not looked at in a lambda -/
def mask (ρ : Rho) : Rho := ρ.map fun x => match x with
  | .own _ => .un
  | x => x
def fWord (ks : List (String × Str)) (told : Str) (f : Rho → M D) : Rho → M D := fun ρ s => match f (mask ρ) s with
  | .ok _ s' => .ok (.str told) s'
  | .exc c s' => match ks.lookup c with
    | some w => .ok (.str w) s'
    | none => .bad
  | .bad => .bad
section
variable {K : PySem.W.Frag} {T : List (Addr × Str)} {hp : Addr} {F0 H0 F H H1 : Hp} {σ : L2.St} {ρ : Rho} {s : HS}
theorem Grow.extN (a : Grow K T hp F0 H0 F H s) (e : LamX.ExtN H H1) (t : LamX.Tabs T H1) : Grow K T hp F H F H1 s where
  ff := fun _ _ h => h
  nw := fun _ _ h => .inl h
  st := fun b o h n => e b o h fun ps z => n (.inr ⟨ps, z⟩)
  sub := fun b o h => e b o (a.sub b o h) fun ps z => a.nt b ps (z ▸ h)
  tabs := t
  hand := by
    obtain ⟨c, h1, h2, h3⟩ := a.hand
    exact ⟨c, h1, e _ _ h2 (fun ps z => by cases z), h3⟩
  nt := a.nt
theorem Grow.ext (a : Grow K T hp F0 H0 F H s) (e : ∀ b o, H b = some o → H1 b = some o) : Grow K T hp F H F H1 s := a.extN (fun b o h _ => e b o h) (a.tabs.ext e)
theorem Rel.mask (R : Rel K T hp F0 H0 F H σ ρ s) : Rel K T hp F H F H σ (mask ρ) s where
  g := R.g.refl
  sl := fun i x e => by
    unfold Jw.mask at e
    rw [List.getElem?_map] at e
    cases q : ρ[i]? with
    | none => rw [q] at e; cases e
    | some y =>
      rw [q] at e
      have h := R.sl i y q
      cases y with
      | un => cases e; trivial
      | own xs => cases e; trivial
      | hand => cases e; exact h
      | dat d => cases e; exact h
  ne := fun i j xs ys e1 e2 n => by
    unfold Jw.mask at e1
    rw [List.getElem?_map] at e1
    cases q : ρ[i]? with
    | none => rw [q] at e1; cases e1
    | some y =>
      rw [q] at e1
      cases y <;> cases e1
  len := by
    unfold Jw.mask
    rw [List.length_map]
    exact R.len
end
theorem lookup_mem {α : Type} {ks : List (String × α)} {c : String} {w : α} (h : ks.lookup c = some w) : (c, w) ∈ ks := by
  induction ks with
  | nil => cases h
  | cons p ks ih =>
    obtain ⟨a, b⟩ := p
    rw [List.lookup_cons] at h
    split at h
    · rename_i e
      cases h
      rw [beq_iff_eq.mp e]
      exact List.mem_cons_self
    · exact List.mem_cons_of_mem _ (ih h)
theorem ev_word {K : PySem.W.Frag} {T : List (Addr × Str)} {EX : String → Hp → Prop} {κ : String → Addr} {ks : List (String × Str)} {told : Str} {f : Rho → M D} : EvE K T EX (LamX.tLam T (TTword κ ks told) (fun E => tOf K T (weK κ E) f)) (fWord ks told f) := by
  intro hp F0 H0 F H σ ρ s Q R p
  refine ⟨R.g.tabs, fun H1 e t => ?_⟩
  have g1 := R.g.extN e t
  have R1 := (R.grow g1).mask
  refine ⟨hp, F, H1, F, mask ρ, s, R1, ?_⟩
  unfold fWord at p
  cases q : f (mask ρ) s with
  | ok d s' =>
    rw [q] at p
    exact fun F' H' v g r => p F' H' (.str told) (g1.trans g) (.str told)
  | exc c s' =>
    rw [q] at p
    dsimp only at p
    intro F' H' g
    cases z : ks.lookup c with
    | none => rw [z] at p; exact p.elim
    | some w =>
      rw [z] at p
      exact ⟨(c, w), lookup_mem z, rfl, rfl, fun H'' e2 => p F' H'' (.str w) ((g1.trans g).trans (g.ext e2)) (.str w)⟩
  | bad => rw [q] at p; exact p.elim
/-- a def that calls what it gets and tells the word of its error -/
structure WordD (P : Program) (w : World) (K : PySem.W.Frag) (mg : Str → Option Value) (base : Heap) (κ : String → Addr) (ks : List (String × Str)) (told : Str) (x : Str) : Prop where
  ex : ∃ (g : Addr) (a : Str) (Ng : List Str) (pg : Arguments) (bg : List Stmt) (sg : Scope) (dV kV doc pm cdv ct oc : Value) (an od : Option Addr) (osl : Array (Option Value)), mg x = some (.ref g) ∧ PySem.W.keepIn K (.ref g) = true ∧
    K.lookup g = some ⟨oc, od, .func (PySem.W.fnOf x x pg bg sg dV kV doc pm an cdv ct), osl⟩ ∧ PySem.W.codeIn K cdv x = true ∧ Binds K (PySem.W.fnOf x x pg bg sg dV kV doc pm an cdv ct) [a] [] ∧ FnScope Ng [a] sg ∧ Ng[0]? = some a ∧ Vis sg a ∧
    (a == ("__debug__" : Str)) = false ∧ (a == ("__classdict__" : Str)) = false ∧
    ∀ (X : Cx), X.prog = P → X.w = w → X.K = K → X.mg = mg → X.base = base → ∀ q, LamX.GivesTo X Ng x sg g cdv bg a q (TTword κ ks told)
theorem de_word {X : Cx} {T : List (Addr × Str)} {EX : String → Hp → Prop} {κ : String → Addr} {ks : List (String × Str)} {told x : Str} {c P : Addr} {k : Nat} {params : Arguments} {body : Expr} {scope : Scope} {f : Rho → M D} {p lpos pos : Pos}
    (W : WordD X.prog X.w X.K X.mg X.base κ ks told x) (hg : Gl X x) (TB : LamX.TabB X.base X.mg c P) (hcode : X.env.code = .ref c) (hmT : (P, X.env.qual ++ "<lambda>") ∈ T) (hu : ∀ p ∈ T, p.1 = P → p.2 = X.env.qual ++ "<lambda>") (hr : Room (k + 2) X.A) (L : LamX.LamS X.env.scope scope) (hdef : defaultsOf params X.env = ([], []))
    (hbind : ∀ (q : Str) (cl : List (Str × Addr)) (pm cv ctv : Value), bindArgs (PySem.W.kla_fn "<lambda>" q params body scope cl pm cv ctv) ⟨[], []⟩ = pure [])
    (hbody : ∀ (A : Around) (outer : List Env) (s : Shared) (H : Hp) (E : XK) (f' c' : Addr), Room k (A.deeper (LamX.lamEnv X scope s.heap.objs.size f' c')) → DE (LamX.lamCx X A outer s H E scope f' c') T (weK κ E) body f)
    (hdb : (x == ("__debug__" : Str)) = false := by decide) : DE X T EX (.Call (.Name x p) [.Lambda params body scope lpos] [] pos) (fWord ks told f) := by
  obtain ⟨g, a, Ng, pg, bg, sg, dV, kV, doc, pm, cdv, ct, oc, an, od, osl, h1, h2, h3, h4, h5, h6, h7, h8, h9, h10, h11⟩ := W.ex
  exact ⟨_, LamX.pe_lamcall (T := T) (t := fun E => tOf X.K T (weK κ E) f) hg h1 h2 h3 h4 h5 h6 h7 h8 (h11 X rfl rfl rfl rfl rfl _) TB hcode hmT hu hr L hdef hbind (fun A outer s H E f' c' hr2 => (hbody A outer s H E f' c' hr2).pe) hdb h9 h10, ev_word⟩
end Jw
/-! The drawing object made, and the law, where tables of code objects stand. -/
namespace Jw
open PySem PySem.Spec PyProof.Rows L2
theorem tabs_updL {T : List (Addr × Str)} {H : Hp} {p : Addr} {xs : List V} {o : HO} (h : H p = some (.lst xs)) (t : LamX.Tabs T H) : LamX.Tabs T (upd H p o) := by
  have up : ∀ x u, H x = some u → (∀ zs, u ≠ .lst zs) → upd H p o x = some u := fun x u e n => by
    rw [upd_ne (fun z => by rw [z, h] at e; exact n xs (Option.some.inj e).symm)]
    exact e
  intro q hq
  obtain ⟨ps, h1, h2, h3⟩ := t q hq
  refine ⟨ps, up _ _ h1 (fun zs e => by cases e), h2, fun po cv hc => ?_⟩
  obtain ⟨c, e1, e2⟩ := h3 po cv hc
  exact ⟨c, e1, up _ _ e2 fun zs e => by unfold LamX.CodeO at e; cases e⟩
def spHandT (K : PySem.W.Frag) (T : List (Addr × Str)) (c0 : Int) : Sp := fun vs H Q _ => ∃ (a : Addr) (ns : List Int), vs = [.ref a] ∧ SqL K H a (ns.map V.int) ∧ ns.length ≤ 63 ∧ LamX.Tabs T H ∧
  ∀ (H' : Hp) (c hp : Addr), LamX.Tabs T H' → c ≠ hp → H' c = some (.lst ((ns.map absI).map V.int)) → H' hp = some (.lst [.ref c, .int 0, .int 0, .int (c0 + 7 * (ns.length : Int)), .int 0]) → Q (.ref hp) H'
theorem hand_runT {K : PySem.W.Frag} {T : List (Addr × Str)} {c0 : Int} {D : Ends} {H : Hp} {vs : List V} {E : XK} (h : spHandT K T c0 vs H D.rt E) : tHand K c0 D (L2.start ["script", "cells", "cell"] vs) H := by
  obtain ⟨a, ns, rfl, hs, hl, ht, q⟩ := h
  have e0 : L2.start ["script", "cells", "cell"] [V.ref a] = [some (V.ref a), none, none] := rfl
  rw [e0]
  have hcut : cutV (ns.map V.int) none (some 63) = ns.map V.int := by
    have e1 : HT.sIx (ns.map V.int).length (ns.map V.int).length (some 63) = (ns.map V.int).length := by
      rw [show (63 : Int) = ((63 : Nat) : Int) from rfl, HT.sIx_nat, List.length_map]
      omega
    unfold cutV
    rw [e1, HT.sIx_none, List.drop_zero, Nat.sub_zero, List.take_length]
  refine ⟨.ref a, rfl, 63, rfl, .inl ⟨a, ns.map V.int, rfl, hs, fun l hn => ?_⟩⟩
  rw [hcut]
  refine ⟨l, rfl, .inl ⟨⟨_, .inl (.inl upd_same)⟩, fun Dd hD => ?_⟩⟩
  have nl : l ≠ Dd := fun z => by rw [z, upd_same] at hD; cases hD
  refine ⟨fun i m Hi => m = ns.length - i ∧ i ≤ ns.length ∧ Hi l = some (.lst (ns.map V.int)) ∧ Hi Dd = some (.lst ((ns.take i).map fun z => V.int (absI z))) ∧ LamX.Tabs T Hi, ⟨ns.length, rfl, Nat.zero_le _, by rw [upd_ne nl, upd_same], upd_same, Tabs.upd hD (Tabs.upd hn ht)⟩, ?_⟩
  rintro i m Hi ⟨rfl, hi, hL, hD2, ht2⟩
  by_cases hlt : i < ns.length
  · refine .inr ⟨⟨ns.map V.int, V.int ns[i], .inl (.inl hL), by rw [List.getElem?_map, List.getElem?_eq_getElem hlt]; rfl⟩, fun H' => H' l = some (.lst (ns.map V.int)) ∧ H' Dd = some (.lst ((ns.take (i + 1)).map fun z => V.int (absI z))) ∧ LamX.Tabs T H', fun H' h => ⟨_, by omega, rfl, hlt, h.1, h.2.1, h.2.2⟩, ?_⟩
    rintro x H' ⟨rfl, hx⟩
    have hx2 := hx _ (.inl (.inl hL))
    rw [List.getElem?_map, List.getElem?_eq_getElem hlt] at hx2
    cases hx2
    refine ⟨rfl, ?_⟩
    unfold tYes
    dsimp only
    rw [if_pos rfl]
    refine ⟨V.int ns[i], rfl, .inl ⟨_, rfl, ⟨_, rfl, _, hD2, ?_, by rw [upd_ne nl]; exact hL, ?_, tabs_updL hD2 ht2⟩⟩⟩
    · rw [List.length_map, List.length_take, sizeLine_eq]
      omega
    · rw [upd_same, List.take_succ, List.getElem?_eq_getElem hlt, List.map_append]
      rfl
  · have e : i = ns.length := by omega
    subst e
    refine .inl ⟨⟨_, .inl (.inl hL), by rw [List.length_map]; exact Nat.le_refl _⟩, ?_⟩
    rw [List.take_length] at hD2
    have hC : Hi Dd = some (.lst ((ns.map absI).map V.int)) := by
      rw [hD2, List.map_map]
      rfl
    have hlen : (((ns.map absI).map V.int).length : Int) = (ns.length : Int) := by rw [List.length_map, List.length_map]
    refine ⟨V.ref Dd, rfl, V.ref Dd, rfl, V.ref Dd, ((ns.map absI).map V.int).length, rfl, .inl ⟨_, .inl (.inl hC), rfl⟩, 7, _, rfl, rfl, ?_, c0, _, rfl, rfl, by rw [sizeLine_eq]; exact (by decide : (5 : Nat) ≤ 16777216), fun p hn => ?_⟩
    · rw [hlen]
      refine mulX_of ?_
      have h7 : (7 : Int).natAbs.log2 = 2 := by decide
      have h8 : (ns.length : Int).natAbs.log2 ≤ ns.length := by
        rw [Int.natAbs_natCast]
        exact Nat.log2_le_self _
      omega
    · rw [hlen]
      have ne : Dd ≠ p := fun z => by rw [← z, hC] at hn; cases hn
      exact q _ Dd p (Tabs.upd hn ht2) ne (by rw [upd_ne ne]; exact hC) upd_same
theorem hand_okT {T : List (Addr × Str)} {P : Program} {w : World} {K : PySem.W.Frag} {mg : Str → Option Value} {base : Heap} {x : Str} {st : Stmt} {f : Addr} {fd : FuncData} {k : Nat} {c0 : Int} (Fu : L2.Fun K x x st f fd) (S : FnScope ["script", "cells", "cell"] ["script"] (defScope st))
    (body : ∀ (cdv : Value) (A : Around) (outer : List Env) (s : Shared) (H : Hp) (E : XK), Room k (A.deeper (envOfC x (defScope st) s.heap.objs.size f cdv)) → PSs (cxOf L2.CX0 P w K mg base ["script", "cells", "cell"] x (defScope st) f cdv A outer s H E).nox (defBody st) (tHand K c0)) :
    FnOk P w K mg base L2.CX0 (k + 1) f fd ["script"] (spHandT K T c0) :=
  Fu.ok S (fun vs H Q E h => by obtain ⟨a, ns, rfl, _⟩ := h; rfl) fun cdv A outer s H vs Q E hr h => ⟨_, body cdv A outer s H E hr, hand_runT (D := { nx := fun _ H' => Q .non H', rt := Q }) h⟩
/-- a def whose promise is not the layer's -/
structure CalHT (P : Program) (w : World) (K : PySem.W.Frag) (T : List (Addr × Str)) (mg : Str → Option Value) (base : Heap) (k : Nat) (x : Str) (c0 : Int) : Prop where
  ex : ∃ (f : Addr) (fd : FuncData) (ps : List Str), FnOk P w K mg base L2.CX0 k f fd ps (spHandT K T c0) ∧ mg x = some (.ref f) ∧ PySem.W.keepIn K (.ref f) = true ∧ Binds K fd ps []
theorem CalHT.mono {P : Program} {w : World} {K : PySem.W.Frag} {T : List (Addr × Str)} {mg : Str → Option Value} {base : Heap} {j k : Nat} {x : Str} {c0 : Int} (c : CalHT P w K T mg base j x c0) (h : j ≤ k) : CalHT P w K T mg base k x c0 :=
  let ⟨f, fd, ps, h1, h2⟩ := c.ex; ⟨f, fd, ps, h1.mono h, h2⟩
/-! ### the law itself -/
def spLawT (K : PySem.W.Frag) (T : List (Addr × Str)) (c0 : Int) (m : Nat) (fb : Rho → M Ctl) : Sp := fun vs H Q _ => ∃ (a : Addr) (ns : List Int), vs = [.ref a] ∧ SqL K H a (ns.map V.int) ∧ ns.length ≤ 63 ∧ LamX.Tabs T H ∧
  Post (fDef m fb [.un, .hand] ⟨ns.map absI, 0, 0, c0 + 7 * (ns.length : Int), 0⟩) (fun d _ => d = .bool true) (fun _ _ => False) ∧ ∀ H', Q (.bl true) H'
section
variable {P : Program} {w : World} {K : PySem.W.Frag} {mg : Str → Option Value} {base : Heap}
theorem law_okT {T : List (Addr × Str)} {x xh : Str} {st s1 : Stmt} {rest : List Stmt} {p0 p1 p2 : Pos} {f : Addr} {fd : FuncData} {N : List Str} {k m : Nat} {c0 : Int} {fb : Rho → M Ctl} (Fu : L2.Fun K x x st f fd) (S : FnScope N ["script"] (defScope st)) (hm : N.length = 2 + m)
    (c : CalHT P w K T mg base k xh c0) (hb : defBody st = s1 :: rest)
    (first : ∀ (cdv : Value) (A : Around) (outer : List Env) (s : Shared) (H : Hp) (E : XK) (te : TE), PE (cxOf L2.CX0 P w K mg base N x (defScope st) f cdv A outer s H E).nox (.Call (.Name xh p0) [.Name "script" p1] [] p2) te →
      PS (cxOf L2.CX0 P w K mg base N x (defScope st) f cdv A outer s H E).nox s1 (tAsg te (gName 1)))
    (call : ∀ (cdv : Value) (A : Around) (outer : List Env) (s : Shared) (H : Hp) (E : XK) (f' : Addr) (fd' : FuncData) (ps' : List Str), Room k (A.deeper (envOfC x (defScope st) s.heap.objs.size f cdv)) → FnOk P w K mg base L2.CX0 k f' fd' ps' (spHandT K T c0) → mg xh = some (.ref f') → PySem.W.keepIn K (.ref f') = true → Binds K fd' ps' [] →
      PE (cxOf L2.CX0 P w K mg base N x (defScope st) f cdv A outer s H E).nox (.Call (.Name xh p0) [.Name "script" p1] [] p2) (tCall (spHandT K T c0) [] E0 (tCons (tVar 0) tNil)))
    (body : ∀ (cdv : Value) (A : Around) (outer : List Env) (s : Shared) (H : Hp) (E : XK), Room k (A.deeper (envOfC x (defScope st) s.heap.objs.size f cdv)) → DSs (cxOf L2.CX0 P w K mg base N x (defScope st) f cdv A outer s H E).nox T noEX rest fb) :
    FnOk P w K mg base L2.CX0 (k + 1) f fd ["script"] (spLawT K T c0 m fb) := by
  obtain ⟨f', fd', ps', c1, c2, c3, c4⟩ := c.ex
  refine Fu.ok S (fun vs H Q E h => by obtain ⟨a, ns, rfl, _⟩ := h; rfl) fun cdv A outer s H vs Q E hr h => ?_
  obtain ⟨t, b1, b2⟩ := body cdv A outer s H E hr
  rw [hb]
  refine ⟨_, pss_cons (first cdv A outer s H E _ (call cdv A outer s H E f' fd' ps' hr c1 c2 c3 c4)) b1, ?_⟩
  obtain ⟨a, ns, rfl, hs, hl, ht, hp, hq⟩ := h
  have e0 : L2.start N [V.ref a] = some (V.ref a) :: none :: List.replicate m none := by
    unfold L2.start
    rw [List.map_cons, List.map_nil, List.length_singleton, show N.length - 1 = m + 1 by omega, List.replicate_succ]
    rfl
  rw [e0]
  refine ⟨.ref a, rfl, a, ns, rfl, hs, hl, ht, fun H' c hpA ht2 ne hc hh => ?_⟩
  refine b2 (hp := hpA) (F0 := upd (fun _ => none) c (.lst ((ns.map absI).map V.int))) (H0 := H') (F := upd (fun _ => none) c (.lst ((ns.map absI).map V.int))) (ρ := [.un, .hand] ++ List.replicate m .un) (s := ⟨ns.map absI, 0, 0, c0 + 7 * (ns.length : Int), 0⟩) ?_ ?_
  · have nF : upd (fun _ => none) c (HO.lst ((ns.map absI).map V.int)) hpA = none := by rw [upd_ne ne.symm]
    refine ⟨⟨fun _ _ z => z, fun _ _ z => .inl z, fun _ _ z _ => z, fun x o z => ?_, ht2, ⟨c, nF, hh, upd_same⟩, fun x ps z => ?_⟩, fun i x e => ?_, fun i j xs ys e1 e2 n => ?_, ?_⟩
    · by_cases q : x = c
      · rw [q, upd_same] at z
        cases z
        rw [q]
        exact hc
      · rw [upd_ne q] at z
        cases z
    · by_cases q : x = c
      · rw [q, upd_same] at z
        cases z
      · rw [upd_ne q] at z
        cases z
    · rcases i with _ | _ | i
      · cases e
        trivial
      · cases e
        rfl
      · have e' : (List.replicate m Sl.un)[i]? = some x := e
        rw [List.getElem?_replicate] at e'
        split at e'
        · cases e'
          trivial
        · cases e'
    · rcases i with _ | _ | i
      · cases e1
      · cases e1
      · have e' : (List.replicate m Sl.un)[i]? = some (.own xs) := e1
        rw [List.getElem?_replicate] at e'
        split at e' <;> cases e'
    · simp
  · refine Post.imp (Post.bind hp) (fun c2 s2 k2 => ?_) fun c2 s2 z => z.elim
    cases c2 with
    | nx ρ =>
      have z : (PyData.none : D) = .bool true := Post.ret k2
      cases z
    | rt d =>
      intro F' H2 v g r
      have z : d = .bool true := Post.ret k2
      subst z
      cases r
      exact hq H2
    | bk ρ => exact k2.elim
    | ct ρ => exact k2.elim
end
end Jw
/-! Defs that are run where no guard of a repr stands on the stack. -/
namespace Jw
open PySem PySem.Spec PyProof.Rows L2
structure FnG (P : Program) (w : World) (K : PySem.W.Frag) (mg : Str → Option Value) (base : Heap) (k : Nat) (f : Addr) (fd : FuncData) (ps : List Str) (sp : Sp) : Prop where
  len : ∀ vs H Q E, sp vs H Q E → vs.length = ps.length
  go : ∀ {A : Around} {outer : List Env} {s : Shared} {H : Hp} {args : Args} {us : List Value} {vs : List V} {Q : VK} {E : XK}, A.guards = some [] → Room k A → Env0 P w K mg base A outer s H → BindsTo s fd args (ps.zip us) → Vals vs us → sp vs H Q E →
    codeAny (model P w) A (.call (.ref f) args) (CR L2.CX0 outer P w H s Q E) s
section
variable {P : Program} {w : World} {K : PySem.W.Frag} {mg : Str → Option Value} {base : Heap} {T : List (Addr × Str)}
theorem FnG.mono {j k : Nat} {f : Addr} {fd : FuncData} {ps : List Str} {sp : Sp} (g : FnG P w K mg base j f fd ps sp) (h : j ≤ k) : FnG P w K mg base k f fd ps sp :=
  ⟨g.len, fun a b => g.go a (b.mono h)⟩
theorem guards_deeper {A : Around} {env : Env} (h : A.guards = some []) : (A.deeper env).guards = some [] := by
  first | exact h | simpa [Around.deeper] using h
/-- a def of the text, by its body, where no guard stands -/
theorem fnG_of {x : Str} {st : Stmt} {f : Addr} {fd : FuncData} {N ps : List Str} {k : Nat} {sp : Sp} (Fu : L2.Fun K x x st f fd) (S : FnScope N ps (defScope st)) (len : ∀ vs H Q E, sp vs H Q E → vs.length = ps.length)
    (body : ∀ (cdv : Value) (A : Around) (outer : List Env) (s : Shared) (H : Hp) (vs : List V) (Q : VK) (E : XK), A.guards = some [] → Room k (A.deeper (envOfC x (defScope st) s.heap.objs.size f cdv)) → sp vs H Q E →
      ∃ t, PSs (cxOf L2.CX0 P w K mg base N x (defScope st) f cdv A outer s H E) (defBody st) t ∧ t { nx := fun _ H' => Q .non H', rt := Q } (start N vs) H) : FnG P w K mg base (k + 1) f fd ps sp := by
  obtain ⟨oc, od, kV, doc, pm, an, cdv, ct, osl, rfl, lk, hcd⟩ := Fu.ex
  refine ⟨len, fun {A outer s H args us vs Q E} gd hr e0 hb r hsp => ?_⟩
  have up : ∀ b o, base.get? b = some o → s.heap.get? b = some o := fun b o e => (e0.bs b o e).1
  have kin : K.In s.heap := e0.mod.kin.keeps up
  have kinds : ∀ y ∈ ps.zip us, (defScope st).names.lookup y.1 = some .local ∨ ((defScope st).names.lookup y.1 = some .cell ∧ ((cellsFrom (s.heap.objs.size + 1) (defScope st).names []).lookup y.1).isSome = true) := by
    rintro ⟨y, u⟩ hy
    cases S.par y (List.of_mem_zip hy).1 with
    | inl q => exact .inl q
    | inr q => exact .inr ⟨q, PySem.W.cellsFrom_some _ _ _ (.inl q)⟩
  refine codeAny_call_function hr.depth (kin _ _ lk) rfl S.co S.gen rfl (PySem.W.codeRec_of kin hcd) (hb _ _ _ _ (wpAny_newFunctionEnv_cells S.kind kinds ?_))
  rintro _ rfl s1 z
  refine ⟨(e0.mod.nolimit.keeps up).keeps z.toInCall.keep, codeAny_func ?_⟩
  obtain ⟨t, ht, hq⟩ := body cdv A outer s H vs Q E gd (hr.deeper _) hsp
  have I := inv_start (CX := L2.CX0) (E := E) S hr.hd e0 (len _ _ _ _ hsp) r z
  refine wpAny_mono (ht.run [] s1 (start N vs) H _ I hq) ?_ (fun e s' hs => hs)
  intro fl s' hs
  have stop : ∀ {σ' : L2.St} {H' : Hp} {v : V} {u : Value}, Inv (cxOf L2.CX0 P w K mg base N x (defScope st) f cdv A outer s H E) [] σ' H' s' → RelV v u → Q v H' → CE outer P w H s Q u s' :=
    fun J rv q => ⟨_, _, J.os, J.bare, J.base, J.hok, rv, q⟩
  match fl, hs with
  | .ret u, ⟨v, σ', H', J, rv, q⟩ => exact stop J rv q
  | .next, ⟨σ', H', J, q⟩ => exact stop (v := V.non) (u := Value.none) J rfl q
  | .brk, ⟨_, _, _, q⟩ => exact q.elim
  | .cont, ⟨_, _, _, q⟩ => exact q.elim
end
section
variable {X : Cx} {k : Nat} {f : Addr} {fd : FuncData} {ps : List Str} {sp : Sp} {E : XK} {x : Str} {p pos : Pos} {e : Expr} {es : List Expr} {t : TA}
theorem pe_callG (F : FnG X.prog X.w X.K X.mg X.base k f fd ps sp) (gd : X.A.guards = some []) (hr : Room k X.A) (hg : Gl X x) (hm : X.mg x = some (.ref f)) (hk : PySem.W.keepIn X.K (.ref f) = true) (hb : Binds X.K fd ps [])
    (ha : PA X (e :: es) t) (hdb : (x == ("__debug__" : Str)) = false := by decide) (he : starEach (e :: es) X.env = (false, eval e X.env) :: starEach es X.env := by rfl) (hpl : (backTo pos (starEach es X.env)).any (·.1) = false := by rfl) :
    PE X (.Call (.Name x p) (e :: es) [] pos) (tCall sp [] E t) := by
  constructor
  intro pins s σ H Q I h
  refine wpAny_Call_Name_kw (ld_glob I hg hm (PySem.W.callWith_K (h₀ := X.base) I.ok.mod.kin hk (thn (ha.run pos pins s σ H _ I h) ?_) he hpl) hdb)
  rintro us s1 ⟨vs, H1, I1, r, q⟩
  refine ⟨I1.kIn, ?_⟩
  rw [List.append_nil] at q
  have hl : us.length = ps.length := by rw [← r.length]; exact F.len _ _ _ _ q
  have bind := hb s1 us I1.kIn (by simpa using hl)
  rw [List.append_nil] at bind
  refine wpAny_call (codeAny_mono (F.go gd hr I1.env0 bind r q) ?_)
  intro r s' hq
  match r, hq with
  | .ok (.ret u), hq => exact I1.after hq
end
section
variable {P : Program} {w : World} {K : PySem.W.Frag} {mg : Str → Option Value} {base : Heap} {T : List (Addr × Str)}
/-- a def that may be called by its name, where no guard stands -/
structure CalG (P : Program) (w : World) (K : PySem.W.Frag) (mg : Str → Option Value) (base : Heap) (T : List (Addr × Str)) (k n : Nat) (x : Str) (F : List Sl → M D) : Prop where
  ex : ∃ (f : Addr) (fd : FuncData) (ps : List Str), FnG P w K mg base k f fd ps (spOf K T noWE n F) ∧ mg x = some (.ref f) ∧ PySem.W.keepIn K (.ref f) = true ∧ Binds K fd ps []
theorem cal_mkG {x : Str} {st : Stmt} {N ps : List Str} {k n m : Nat} {fb : Rho → M Ctl} (d : Df K mg x st) (S : FnScope N ps (defScope st)) (hn : ps.length = n) (hm : N.length = n + m)
    (hb : ∀ (kV doc pm : Value) (an : Option Addr) (cdv ct : Value) (us : List Value), us.length = ps.length → bindArgs (PySem.W.fnOf x x (defArgs st) (defBody st) (defScope st) .none kV doc pm an cdv ct) ⟨us, []⟩ = pure (ps.zip us))
    (body : ∀ (f : Addr) (cdv : Value) (A : Around) (outer : List Env) (s : Shared) (H : Hp) (E : XK), A.guards = some [] → Room k (A.deeper (envOfC x (defScope st) s.heap.objs.size f cdv)) → DSs (cxOf L2.CX0 P w K mg base N x (defScope st) f cdv A outer s H E).nox T noEX (defBody st) fb) :
    CalG P w K mg base T (k + 1) n x (fDef m fb) := by
  obtain ⟨f, fd, Fu, hm1⟩ := d.ex
  refine ⟨f, fd, ps, fnG_of Fu S (fun vs H Q E h => by rw [h.1, hn]) fun cdv A outer s H vs Q E gd hr h => ?_, hm1, Fu.kp, Fu.binds hb⟩
  obtain ⟨t, a, b⟩ := body f cdv A outer s H E gd hr
  refine ⟨t, a.nox, ?_⟩
  obtain ⟨hl, hp, F, as, s1, G, w1, p⟩ := h
  refine b (rel_start G w1 (by rw [hl]; exact hm)) (Post.imp (Post.bind p) ?_ fun c s2 z F' H' g => z F' H' g)
  intro c s2 k2
  match c with
  | .nx ρ => exact fun F' H' σ' _ R => Post.ret k2 F' H' _ R.g .non
  | .rt d => exact fun F' H' v g r => Post.ret k2 F' H' v g r
  | .bk ρ => exact k2.elim
  | .ct ρ => exact k2.elim
end
section
variable {X : Cx} {T : List (Addr × Str)} {pos p : Pos}
theorem de_calG {k j n : Nat} {x : Str} {e : Expr} {es : List Expr} {F : List Sl → M D} {fas : Rho → M (List Sl)} (c : CalG X.prog X.w X.K X.mg X.base T k n x F) (gd : X.A.guards = some []) (hr : Room j X.A) (hk : k ≤ j) (hg : Gl X x) (ha : DA X T noEX n (e :: es) fas)
    (hdb : (x == ("__debug__" : Str)) = false := by decide) (he : starEach (e :: es) X.env = (false, eval e X.env) :: starEach es X.env := by rfl) (hpl : (backTo pos (starEach es X.env)).any (·.1) = false := by rfl) :
    DE X T noEX (.Call (.Name x p) (e :: es) [] pos) (fCall F fas) := by
  obtain ⟨f, fd, ps, h1, h2, h3, h4⟩ := c.ex
  obtain ⟨_, a1, a2⟩ := ha
  refine ⟨_, pe_callG (E := L2.E0) h1 gd (hr.mono hk) hg h2 h3 h4 a1 hdb he hpl, ?_⟩
  intro hp F0 H0 Fz H σ ρ s Q R q
  refine a2 R (q.bind.mono fun as s1 q2 F1 H1 vs g1 w1 hn => ?_)
  rw [List.append_nil]
  have R1 := R.grow g1
  exact ⟨hn, hp, F1, as, s1, R1.g.refl, w1, Post.imp q2 (fun d s2 k F' H' v g2 r2 => k F' H' v (g1.trans g2) r2) fun c s2 k F' H' g2 => k F' H' (R1.g.trans g2)⟩
end
end Jw
/-! The end of a law's row, the law's own def run where no guard stands; with tables of code objects. -/
namespace Jw
open PySem PySem.Spec PyProof.Rows L2 LamX
abbrev tabO : Obj := { cls := .none, data := .fields #[] }
section
variable {P : Program} {w : World} {K : PySem.W.Frag} {mg mb : Str → Option Value} {s₁ : Shared} {a : Addr} {vs : List Value} {ns : List Int}
abbrev lstO (vs : List Value) : Obj := { cls := .type "list", data := .seq vs.toArray }
open Classical in
/-- what is tracked at the law's begin: the tables, and the script if nobody knows it -/
noncomputable def hp0 (K : PySem.W.Frag) (tb : List Addr) (a : Addr) (vs : List Value) (ns : List Int) : Hp := fun b =>
  if b ∈ tb then some (.tbl #[]) else if b = a ∧ K.lookup a = none then some (.frz (lstO vs) (.lst (ns.map V.int))) else none
theorem hp0_tab {tb : List Addr} {b : Addr} (h : b ∈ tb) : hp0 K tb a vs ns b = some (.tbl #[]) := by
  unfold hp0; rw [if_pos h]
theorem hp0_scr {tb : List Addr} (h : a ∉ tb) (k : K.lookup a = none) : hp0 K tb a vs ns a = some (.frz (lstO vs) (.lst (ns.map V.int))) := by
  unfold hp0; rw [if_neg h, if_pos ⟨rfl, k⟩]
theorem hp0_cases {tb : List Addr} {b : Addr} {u : HO} (h : hp0 K tb a vs ns b = some u) : (b ∈ tb ∧ u = .tbl #[]) ∨ (b ∉ tb ∧ b = a ∧ K.lookup a = none ∧ u = .frz (lstO vs) (.lst (ns.map V.int))) := by
  unfold hp0 at h
  split at h
  · rename_i q; exact .inl ⟨q, (Option.some.inj h).symm⟩
  · split at h
    · rename_i q1 q2; exact .inr ⟨q1, q2.1, q2.2, (Option.some.inj h).symm⟩
    · cases h
/-- an object that is neither a sequence nor a record without fields is not tracked -/
theorem hp0_none {tb : List Addr} (hT : ∀ b ∈ tb, s₁.heap.get? b = some tabO) (ha : s₁.heap.get? a = some (lstO vs)) {b : Addr} {o : Obj} (e : s₁.heap.get? b = some o) (h1 : ∀ xs n, o.data ≠ .seq xs n) (h2 : o.data ≠ .fields #[]) : hp0 K tb a vs ns b = none := by
  cases q : hp0 K tb a vs ns b with
  | none => rfl
  | some u =>
    rcases hp0_cases q with ⟨m, _⟩ | ⟨_, rfl, _, _⟩
    · rw [hT b m] at e; cases e; exact (h2 rfl).elim
    · rw [ha] at e; cases e; exact (h1 _ _ rfl).elim
theorem law_callG {k : Nat} {fa : Addr} {cs : List (Addr × Addr)} {fd : FuncData} {x : Str} {sp : Sp}
    (kin : K.In s₁.heap) (nsG : s₁.heap.Ns mainGlobals mg) (nsB : s₁.heap.Ns builtinsNs mb) (bt : ∀ x : Str, x ≠ "__name__" → mb x = bootBuiltins x) (lim : s₁.heap.NoLimit) (gn : s₁.gens = #[])
    (hT : ∀ p ∈ cs, s₁.heap.get? p.2 = some tabO) (nT : ∀ p ∈ cs, K.lookup p.2 = none) (hC : ∀ p ∈ cs, PySem.W.CodeHd s₁.heap p.1 p.2)
    (bmn : ∃ (bm : Addr) (ob : Obj), mg "__builtins__" = some (.ref bm) ∧ bm ≠ builtinsNs ∧ s₁.heap.get? bm = some ob ∧ ob.cls = .type "module" ∧ ob.dict = some builtinsNs ∧ ob.data = .plain)
    (ha : s₁.heap.get? a = some (lstO vs)) (hia : IntsAre vs ns) (small : ns.length ≤ sizeLine) (hr : Room k callerA)
    (F : ∀ base : Heap, K.In base → base.Ns mainGlobals mg → (∀ p ∈ cs, TabB base mg p.1 p.2) → FnG P w K mg base k fa fd [x] sp) (hbind : ∀ (s : Shared) (u : Value), BindsTo s fd ⟨[u], []⟩ [(x, u)])
    (hsp : ∀ H : Hp, (∀ p ∈ cs, H p.2 = some (.tbl #[])) → SqL K H a (ns.map V.int) → sp [.ref a] H (fun v _ => v = .bl true) L2.E0) :
    codeAny (model P w) callerA (.call (.ref fa) ⟨[.ref a], []⟩) (fun r s' => r = .ok (.ret (.bool true)) ∧ OldK s₁.heap s'.heap ∧ s'.os = s₁.os ∧ AllBare s'.gens) s₁ := by
  have tabsO : ∀ b ∈ cs.map (·.2), s₁.heap.get? b = some tabO := by
    intro b hb
    obtain ⟨p, hp, rfl⟩ := List.mem_map.mp hb
    exact hT p hp
  have inT : ∀ p ∈ cs, p.2 ∈ cs.map (·.2) := fun p hp => List.mem_map_of_mem hp
  have aT : a ∉ cs.map (·.2) := by
    intro z
    have e := tabsO a z
    rw [ha] at e
    cases congrArg Obj.data (Option.some.inj e)
  generalize hH : hp0 K (cs.map (·.2)) a vs ns = H
  have free : ∀ {b : Addr} {o : Obj}, s₁.heap.get? b = some o → (∀ xs n, o.data ≠ .seq xs n) → o.data ≠ .fields #[] → (hidT s₁.heap H).get? b = some o := by
    intro b o e h1 h2
    refine hidT_get e ?_
    rw [← hH]
    exact hp0_none tabsO ha e h1 h2
  have nsUp : ∀ {b : Addr} {m : Str → Option Value}, s₁.heap.Ns b m → (hidT s₁.heap H).Ns b m := by
    rintro b m ⟨o, es, ep, e, d, r⟩
    exact ⟨o, es, ep, free e (fun _ _ z => by rw [d] at z; cases z) (fun z => by rw [d] at z; cases z), d, r⟩
  have kinB : K.In (hidT s₁.heap H) := by
    intro b o e
    refine hidT_get (kin b o e) ?_
    rw [← hH]
    cases q : hp0 K (cs.map (·.2)) a vs ns b with
    | none => rfl
    | some u =>
      rcases hp0_cases q with ⟨m, _⟩ | ⟨_, rfl, z, _⟩
      · obtain ⟨p, hp, rfl⟩ := List.mem_map.mp m
        rw [nT p hp] at e; cases e
      · rw [z] at e; cases e
  have md : L2.Mod K mg (hidT s₁.heap H) := ⟨kinB, nsUp nsG, ⟨mb, nsUp nsB, bt⟩, let ⟨mc, h1, h2⟩ := lim; ⟨mc, nsUp h1, h2⟩⟩
  have plainF : ∀ {ob : Obj}, ob.data = .plain → (∀ xs n, ob.data ≠ .seq xs n) ∧ ob.data ≠ .fields #[] := fun {ob} h => And.intro (fun _ _ z => by rw [h] at z; cases z) (fun z => by rw [h] at z; cases z)
  have gNe : ∀ p ∈ cs, mainGlobals ≠ p.2 := by
    intro p hp z
    obtain ⟨o, es, ep, e, d, _⟩ := nsG
    rw [z, hT p hp] at e; cases e; cases d
  have TB : ∀ p ∈ cs, TabB (hidT s₁.heap H) mg p.1 p.2 := by
    intro p hp
    refine ⟨?_, ?_, gNe p hp⟩
    · obtain ⟨o, us, file, tf, flags, tg, inF, text, tt, e1, r1, r2, r3, rest⟩ := hC p hp
      refine ⟨o, us, file, tf, flags, tg, inF, text, tt, free e1 (fun _ _ z => by rw [r2] at z; cases z) (fun z => ?_), r1, r2, r3, rest⟩
      rw [r2] at z
      cases z
      simp at r3
    · obtain ⟨bm, ob, b1, b2, b3, b4, b5, b6⟩ := bmn
      refine ⟨bm, ob, b1, b2, fun q => ?_, fun q => ?_, free b3 (plainF b6).1 (plainF b6).2, b4, b5, b6⟩
      · obtain ⟨o, es, ep, e, d, _⟩ := nsG
        rw [q, e] at b3; cases b3; rw [d] at b6; cases b6
      · rw [q, hT p hp] at b3; cases b3; cases b6
  have lenV := hia.length
  have hok : HOk P w H s₁.heap := by
    intro b u e
    rw [← hH] at e
    rcases hp0_cases e with ⟨m, rfl⟩ | ⟨_, rfl, _, rfl⟩
    · exact tabsO b m
    · exact ⟨ha, by rw [List.length_map]; exact small, vs, _, vals_ints hia, ha⟩
  have tabH : ∀ p ∈ cs, H p.2 = some (.tbl #[]) := fun p hp => by rw [← hH]; exact hp0_tab (inT p hp)
  have sq : SqL K H a (ns.map V.int) := by
    cases hk : K.lookup a with
    | none => exact .inl (.inr ⟨_, by rw [← hH]; exact hp0_scr aT hk⟩)
    | some o =>
      have e := kin a o hk
      rw [ha] at e
      cases e
      exact .inr ⟨_, _, _, hk, rfl, rfl, rfl, by rw [List.size_toArray, lenV]; exact small, by simpa using vals_ints hia⟩
  have e0 : Env0 P w K mg (hidT s₁.heap H) callerA [] s₁ H := ⟨rfl, md, fun b o e => of_hidT e, Nat.le_of_eq (hidT_size _ _), trivial, fun b hb => (nomatch (show b ∈ ([] : List Addr) from hb)), hok, .of_eq gn⟩
  refine codeAny_mono ((F _ kinB (nsUp nsG) TB).go (us := [.ref a]) (vs := [.ref a]) rfl hr e0 (hbind s₁ (.ref a)) (.cons rfl .nil) (hsp H tabH sq)) ?_
  intro r s' h
  match r, h with
  | .error e, h => exact False.elim h
  | .ok (.ret u), h =>
    obtain ⟨v, H', os, bare, un, hok', rv, q⟩ := h
    have q' : v = .bl true := q
    subst q'
    obtain rfl : u = Value.bool true := rv
    have same : ∀ b o, b ∉ cs.map (·.2) → s₁.heap.get? b = some o → s'.heap.get? b = some o := by
      intro b o nb e
      cases q : H b with
      | none => exact un.keep b o e q (fun z => (nomatch (show b ∈ ([] : List Addr) from z))) (by simp)
      | some u =>
        have q0 := q
        rw [← hH] at q
        rcases hp0_cases q with ⟨m, _⟩ | ⟨_, rfl, _, rfl⟩
        · exact absurd m nb
        · obtain ⟨e1, _⟩ := hok b _ q0
          obtain ⟨e2, _⟩ := hok' b _ (un.frzs b _ _ q0)
          rw [e] at e1
          cases e1
          exact e2
    have more : ∀ p ∈ cs, ∃ m : Array Value, s'.heap.get? p.2 = some { cls := .none, data := .fields (#[] ++ m) } := by
      intro p hp
      obtain ⟨m, z⟩ := un.tbls p.2 #[] (tabH p hp)
      exact ⟨m, hok' p.2 _ z⟩
    refine ⟨rfl, ⟨?_, ?_⟩, os, bare⟩
    · intro b o e
      by_cases hb : b ∈ cs.map (·.2)
      · obtain ⟨p, hp, rfl⟩ := List.mem_map.mp hb
        obtain ⟨m, hm⟩ := more p hp
        rw [hT p hp] at e
        cases e
        exact .inr (.inl ⟨((hC p hp).tab (hT p hp)).isCodeTable, rfl, #[], _, rfl, hm⟩)
      · exact .inl (same b o hb e)
    · intro b o e
      by_cases hb : b ∈ cs.map (·.2)
      · obtain ⟨p, hp, rfl⟩ := List.mem_map.mp hb
        exact ⟨_, (more p hp).choose_spec⟩
      · exact ⟨o, same b o hb e⟩
end
/-- what is known of the law at the head's heap -/
def LawG (l : PySem.W.OpenLaw) (w : World) (K : PySem.W.Frag) (k n : Nat) (x : Str) (mg : Str → Option Value) (fa : Addr) (h : Heap) : Prop :=
  ∃ (fd : FuncData) (cs : List (Addr × Addr)) (sp : Sp), ((∀ p ∈ cs, h.get? p.2 = some tabO) ∧ (∀ p ∈ cs, K.lookup p.2 = none) ∧ ∀ p ∈ cs, PySem.W.CodeHd h p.1 p.2) ∧ (∀ (s : Shared) (u : Value), BindsTo s fd ⟨[u], []⟩ [(x, u)]) ∧
    (∀ (H : Hp) (a : Addr) (ns : List Int), ns.length ≤ n → (∀ z ∈ ns, Builtin.Int.intBits z ≤ 1048576) → (∀ p ∈ cs, H p.2 = some (.tbl #[])) → SqL K H a (ns.map V.int) → sp [.ref a] H (fun v _ => v = .bl true) L2.E0) ∧
    ∀ base : Heap, K.In base → base.Ns mainGlobals mg → (∀ p ∈ cs, TabB base mg p.1 p.2) → FnG l.prog w K mg base k fa fd [x] sp
theorem walk_G {l : PySem.W.OpenLaw} {n k : Nat} {q : Program} {loose : List Str} {XP : (Str → Option Value) → Heap → Prop} {YP : World → Heap → Prop} {d : DefRec} {K : Params → PySem.W.Frag} {x : Str}
    (hn : l.most = some n) (hn2 : n ≤ sizeLine) (hdf : d.params.defaults = []) (hr : Room k callerA) (hY : ∀ (w : World) (h : Heap), YP w h → (K w.params).In h)
    (F : ∀ (w : World) (mg : Str → Option Value) (fa : Addr) (h : Heap), YP w h → (K w.params).In h → h.Ns mainGlobals mg → mg d.name = some (.ref fa) → LawG l w (K w.params) k n x mg fa h) :
    PySem.W.WalkO q loose XP YP l.row.toRowW d [] (fun f vs => PySem.call f vs) := by
  refine Att.attach_callB hn hdf ?_
  intro w s₀ s₁ mg mb fa o pm cd doc a vs ns G Y ho hd hcd hmg hobj hints hlen hbits hg
  have kin := hY w _ Y
  obtain ⟨fd, cs, sp, ⟨hT, nT, hC⟩, hb, hsp, hF⟩ := F w mg fa _ Y kin G.T.g hmg
  exact law_callG kin G.T.g G.T.b G.T.builtins G.T.nolimit hg hT nT hC G.T.bmain hobj hints (Nat.le_trans hlen hn2) hr hF hb fun H hH hS => hsp H a ns hlen hbits hH hS
end Jw
/-! in, not in, count, index, zip of data. -/
namespace Jw
open PySem PySem.Spec PyProof.Rows L2
/-! ### x in xs -/
def signIn (x z : Str) : Bool := !(Builtin.Str.occurrences z x 0 z.length 1).isEmpty
def dIn : D → D → Option D
  | d, .list xs => if SeqAt.shaped d = true ∧ SeqAt.shaped (.list xs) = true then some (.bool (xs.any fun z => PyData.eqv z d)) else none
  | d, .tuple xs => if SeqAt.shaped d = true ∧ SeqAt.shaped (.tuple xs) = true then some (.bool (xs.any fun z => PyData.eqv z d)) else none
  | .str x, .str z => some (.bool (signIn x z))
  | _, _ => none
def dNot1 : D → Option D
  | .bool b => some (.bool (!b))
  | _ => none
def dNotIn (a b : D) : Option D := (dIn a b).bind dNot1
section
variable {X : Cx}
def rInTD (K : PySem.W.Frag) (neg : Bool) : R2 := fun x y H Q => ∃ d ds, Dp K H x d ∧ Dp K H y (.tuple ds) ∧ SeqAt.shaped d = true ∧ SeqAt.shaped (.tuple ds) = true ∧ Q (.bl ((ds.any fun z => PyData.eqv z d) ^^ neg)) H
theorem room_inT {A : Around} {d : PyData} {ds : List PyData} (sd : SeqAt.shaped d = true) (hu : A.units + 65 < cLine) : A.units + 1 + min (PyData.depthAll ds) d.depth < cLine := room_in_shaped sd hu
theorem op_inT (hu : X.A.units + 65 < cLine) : OpR X (compareOp .In) (rInTD X.K false) := by
  intro pins s σ H x y v u Q I rx ry h
  obtain ⟨d, ds, hd, he, sd, se, q⟩ := h
  obtain ⟨as, r1⟩ := Dp.reads I d x v hd rx
  obtain ⟨bs, r2⟩ := Dp.reads I (.tuple ds) y u he ry
  rw [Bool.xor_false] at q
  exact SeqAt.in_tuple_reads r2 r1 (SeqAt.canLay_of_shaped (d := .tuple ds) se) (SeqAt.canLay_of_shaped sd) (room_inT sd hu) ⟨.bl _, H, I, rfl, q⟩
theorem op_notInT (hu : X.A.units + 65 < cLine) : OpR X (compareOp .NotIn) (rInTD X.K true) := by
  intro pins s σ H x y v u Q I rx ry h
  obtain ⟨d, ds, hd, he, sd, se, q⟩ := h
  obtain ⟨as, r1⟩ := Dp.reads I d x v hd rx
  obtain ⟨bs, r2⟩ := Dp.reads I (.tuple ds) y u he ry
  rw [Bool.xor_true] at q
  exact SeqAt.notIn_tuple_reads r2 r1 (SeqAt.canLay_of_shaped (d := .tuple ds) se) (SeqAt.canLay_of_shaped sd) (room_inT sd hu) ⟨.bl _, H, I, rfl, q⟩
abbrev rInSt : R2 := fun x y H Q => ∃ i j, x = .str i ∧ y = .str j ∧ Q (.bl (signIn i j)) H
abbrev rNinSt : R2 := fun x y H Q => ∃ i j, x = .str i ∧ y = .str j ∧ Q (.bl (!signIn i j)) H
def rInA (K : PySem.W.Frag) : R2 := fun x y H Q => (rInD K x y H Q ∨ rInTD K false x y H Q) ∨ rInSt x y H Q
def rNinA (K : PySem.W.Frag) : R2 := fun x y H Q => (rNotInD K x y H Q ∨ rInTD K true x y H Q) ∨ rNinSt x y H Q
theorem op_notin_st : OpR X (compareOp .NotIn) rNinSt := by
  intro pins s σ H x y v u Q I rx ry ⟨i, j, e1, e2, q⟩
  exact op_notIn_str pins s σ H x y v u Q I rx ry ⟨i, j, e1, e2, q⟩
theorem op_inA (hu : X.A.units + 65 < cLine) : OpR X (compareOp .In) (rInA X.K) := ((op_inD hu).or (op_inT hu)).or op_in_str
theorem op_ninA (hu : X.A.units + 65 < cLine) : OpR X (compareOp .NotIn) (rNinA X.K) := ((op_notInD hu).or (op_notInT hu)).or op_notin_st
end
section
variable {K : PySem.W.Frag}
theorem p_in : OpP K (rInA K) dIn := by
  intro T hp F0 H0 F H s v w a b d Q G hv hw e q
  unfold dIn at e
  split at e
  · split at e
    · cases e
      rename_i hz
      exact .inl (.inl ⟨_, _, hv.dp G.sub (nd_shaped hz.1), hw.dp G.sub (nd_shaped hz.2), hz.1, hz.2, q F H _ G.refl (.bl _)⟩)
    · cases e
  · split at e
    · cases e
      rename_i hz
      refine .inl (.inr ⟨_, _, hv.dp G.sub (nd_shaped hz.1), hw.dp G.sub (nd_shaped hz.2), hz.1, hz.2, ?_⟩)
      rw [Bool.xor_false]
      exact q F H _ G.refl (.bl _)
    · cases e
  · cases e
    exact .inr ⟨_, _, hv.str, hw.str, q F H _ G.refl (.bl _)⟩
  · cases e
theorem p_nin : OpP K (rNinA K) dNotIn := by
  intro T hp F0 H0 F H s v w a b d Q G hv hw e q
  unfold dNotIn dIn at e
  split at e
  · split at e
    · cases e
      rename_i hz
      exact .inl (.inl ⟨_, _, hv.dp G.sub (nd_shaped hz.1), hw.dp G.sub (nd_shaped hz.2), hz.1, hz.2, q F H _ G.refl (.bl _)⟩)
    · cases e
  · split at e
    · cases e
      rename_i hz
      refine .inl (.inr ⟨_, _, hv.dp G.sub (nd_shaped hz.1), hw.dp G.sub (nd_shaped hz.2), hz.1, hz.2, ?_⟩)
      rw [Bool.xor_true]
      exact q F H _ G.refl (.bl _)
    · cases e
  · cases e
    exact .inr ⟨_, _, hv.str, hw.str, q F H _ G.refl (.bl _)⟩
  · cases e
end
section
variable {X : Cx} {T : List (Addr × Str)} {EX : String → Hp → Prop} {pos p p1 p2 p3 : Pos}
theorem de_in {a b : Expr} {fa fb : Rho → M D} (hu : X.A.units + 65 < cLine) (ha : DB X T EX a fa) (hb : DB X T EX b fb) (hm : behindInMarks .In b = false := by rfl) : DE X T EX (.Compare a [.In] [b] pos) (f2 dIn fa fb) := de_cmp (op_inA hu) p_in hm ha hb
theorem de_nin {a b : Expr} {fa fb : Rho → M D} (hu : X.A.units + 65 < cLine) (ha : DB X T EX a fa) (hb : DB X T EX b fb) (hm : behindInMarks .NotIn b = false := by rfl) : DE X T EX (.Compare a [.NotIn] [b] pos) (f2 dNotIn fa fb) := de_cmp (op_ninA hu) p_nin hm ha hb
theorem dt_in {a b : Expr} {fa fb : Rho → M D} (hu : X.A.units + 65 < cLine) (ha : DB X T EX a fa) (hb : DB X T EX b fb) (hm : behindInMarks .In b = false := by rfl) : DT X T EX (.Compare a [.In] [b] pos) (fTest (f2 dIn fa fb)) := dt_cmp (op_inA hu) p_in hm ha hb
theorem dt_nin {a b : Expr} {fa fb : Rho → M D} (hu : X.A.units + 65 < cLine) (ha : DB X T EX a fa) (hb : DB X T EX b fb) (hm : behindInMarks .NotIn b = false := by rfl) : DT X T EX (.Compare a [.NotIn] [b] pos) (fTest (f2 dNotIn fa fb)) := dt_cmp (op_ninA hu) p_nin hm ha hb
/-! ### methods of lists, tuples, texts by one argument -/
/-- a value of the type T -/
def chkT (Tn : String) : D → Option Unit
  | .list _ => if Tn = "list" then some () else none
  | .str _ => if Tn = "str" then some () else none
  | _ => none
def MthP1 (K : PySem.W.Frag) (r : V → List V → Hp → VK → Prop) (h : D → D → Option D) : Prop := ∀ {T : List (Addr × Str)} {hp : Addr} {F0 H0 F H : Hp} {s : HS} {v w : V} {a b d : D} {Q : VK}, Grow K T hp F0 H0 F H s → Bw K hp F H v a → Bw K hp F H w b → h a b = some d →
  (∀ F' H' u, Grow K T hp F H F' H' s → Rp K F' u d → Q u H') → r v [w] H Q
def fM1 (Tn : String) (h : D → D → Option D) (fa fb : Rho → M D) : Rho → M D := fun ρ => do
  let a ← fa ρ
  let _ ← O.lift (chkT Tn a)
  let b ← fb ρ
  O.lift (h a b)
theorem tyV_chk {K : PySem.W.Frag} {hp : Addr} {F H : Hp} {Tn : String} {v : V} {a : D} (w : Bw K hp F H v a) (e : ∀ a o, F a = some o → H a = some o) (h : chkT Tn a = some ()) : tyV K Tn v H := by
  cases a with
  | list xs =>
    have z : Tn = "list" := Classical.byContradiction fun n => by
      have h' : (if Tn = "list" then some () else none) = some () := h
      rw [if_neg n] at h'
      cases h'
    subst z
    obtain ⟨p, vs, rfl, h1, _⟩ := w.list e
    exact .inl ⟨rfl, vs, .inl (.inl h1)⟩
  | str x =>
    have z : Tn = "str" := Classical.byContradiction fun n => by
      have h' : (if Tn = "str" then some () else none) = some () := h
      rw [if_neg n] at h'
      cases h'
    subst z
    rw [w.str]
    exact rfl
  | _ => cases h
theorem de_m1 {o e : Expr} {fo fe : Rho → M D} {Tn id : String} {name : Str} {r : V → List V → Hp → VK → Prop} {h : D → D → Option D} (pa : PlainAttrs Tn) (slot : Slot Tn name id) (hty : typeOf (.builtin id) = pure (.type "method_descriptor")) (hm : MtR X id r) (hr : MthP1 X.K r h)
    (ho : DB X T EX o fo) (he : DB X T EX e fe)
    (hbase : attributeBase o name X.env (eval o X.env) = eval o X.env := by rfl)
    (hfew : ((backTo pos (starEach [e] X.env)).all (fun x => !x.1) && (backToKw pos (keywordEach [] X.env)).all (fun x => x.1.isSome)
      && decide (([e] : List Expr).length + ([] : List Keyword).length + (if ([] : List Keyword).isEmpty then 0 else 1) < 30)) = true := by rfl)
    (hline : (p.endLine == pos.line) = true := by rfl) (hs : starEach [e] X.env = (false, eval e X.env) :: starEach [] X.env := by rfl) (hplain : (backTo pos (starEach [] X.env)).any (·.1) = false := by rfl) :
    DE X T EX (.Call (.Attribute o name p) [e] [] pos) (fM1 Tn h fo fe) := by
  obtain ⟨_, o1, o2⟩ := ho
  obtain ⟨_, e1, e2⟩ := he
  refine ⟨_, pe_bm pa slot hty hm o1 (pa_cons e1 pa_nil hs) hbase hfew hline hs hplain, fun R q => o2 R (q.bind.mono fun a s1 k1 F1 H1 v g1 w1 => ?_)⟩
  obtain ⟨⟨⟩, c, k2⟩ := k1.bind.lift
  have R1 := R.grow g1
  refine ⟨tyV_chk w1 R1.g.sub c, e2 R1 (k2.bind.mono fun b s2 k3 F2 H2 w g2 w2 => ?_)⟩
  obtain ⟨d, e', k4⟩ := k3.lift
  exact hr (R1.grow g2).g (w1.grow g2) w2 e' fun F' H' u g3 r3 => k4 F' H' u ((g1.trans g2).trans g3) r3
end
/-! ### xs.count(x) -/
def dCount : D → D → Option D
  | .list xs, d => if SeqAt.shaped d = true ∧ SeqAt.shaped (.list xs) = true then some (.int (xs.countP fun z => PyData.eqv z d : Nat)) else none
  | _, _ => none
section
variable {X : Cx}
def rCountD (K : PySem.W.Frag) : V → List V → Hp → VK → Prop := fun x xs H Q => ∃ (a : Addr) (y : V) (d : PyData) (ds : List PyData), x = V.ref a ∧ xs = [y] ∧ Dp K H (V.ref a) (.list ds) ∧ Dp K H y d ∧ SeqAt.shaped (.list ds) = true ∧ SeqAt.shaped d = true ∧ Q (.int (ds.countP fun z => PyData.eqv z d : Nat)) H
theorem count_by_data {h : Heap} {vs : List Value} {xs : List PyData} {as : List Addr} {d : PyData} (rs : ReadsAll h vs xs as) (hxs : PyData.canLayAll0 xs = true) :
    vs.countP (fun y => PyData.eqv (SeqAt.readOf h y) d) = xs.countP fun y => PyData.eqv y d := by
  rw [← SeqAt.readsAll_map xs _ _ hxs rs, List.countP_map]
  rfl
theorem mt_countD (hu : X.A.units + 65 < cLine) : MtR X "list.count" (rCountD X.K) := by
  intro pins s σ H x xs v us Q I rx rxs h
  obtain ⟨a, y, d, ds, rfl, rfl, hl, hy, sl, sd, q⟩ := h
  cases rx
  obtain ⟨uy, rfl, ry⟩ := rxs.one
  obtain ⟨bs, r1⟩ := Dp.reads I d y uy hy ry
  have hxs : PyData.canLayAll0 ds = true := SeqAt.canLay_of_shaped (d := .list ds) sl
  cases hl with
  | lst hs ha =>
    obtain ⟨its, rv, ⟨⟨cls, dd, data, sls⟩, n, ho, hc, hdn, hdt⟩, hlen⟩ := I.list hs
    simp only at hc hdt
    subst hc hdt
    obtain ⟨as, h4⟩ := Dp.readsAll I ds _ its ha rv
    refine call_meets PySem.F.slot_list_count ⟨_, ho, rfl⟩ PySem.F.entry_list_count (PySem.F.args_list_count_2 _ _) (SeqAt.list_countAt a its.toArray n dd sls uy fun u => PyData.eqv (SeqAt.readOf s.heap u) d)
      ⟨ho, SeqAt.items_eqAt (vs := its.toArray) h4 r1 hxs (SeqAt.canLay_of_shaped sd) (room_in_shaped sd hu), ?_⟩
    rw [show its.toArray.toList.countP (fun u => PyData.eqv (SeqAt.readOf s.heap u) d) = ds.countP (fun z => PyData.eqv z d) from count_by_data h4 hxs]
    exact ⟨.int _, H, I.tok _, ⟨_, rfl⟩, q⟩
end
theorem m_countL {K : PySem.W.Frag} : MthP1 K (rCountD K) dCount := by
  intro T hp F0 H0 F H s v w a b d Q G hv hw e q
  unfold dCount at e
  split at e
  · split at e
    · cases e
      rename_i xs _ hz
      obtain ⟨p, vs, rfl, h1, _⟩ := hv.list G.sub
      exact ⟨p, w, _, _, rfl, rfl, hv.dp G.sub (nd_shaped hz.2), hw.dp G.sub (nd_shaped hz.1), hz.2, hz.1, q F H _ G.refl (.int _)⟩
    · cases e
  · cases e
/-! ### xs.index(x): it is there -/
def dIndex : D → D → Option D
  | .list xs, d => if SeqAt.shaped d = true ∧ SeqAt.shaped (.list xs) = true ∧ xs.findIdx (fun z => PyData.eqv z d) < xs.length then some (.int (xs.findIdx (fun z => PyData.eqv z d) : Nat)) else none
  | _, _ => none
theorem m_indexL {K : PySem.W.Frag} : MthP1 K (rIndexD K) dIndex := by
  intro T hp F0 H0 F H s v w a b d Q G hv hw e q
  unfold dIndex at e
  split at e
  · split at e
    · cases e
      rename_i _ _ xs hz
      obtain ⟨h1, h2, h3⟩ := hz
      obtain ⟨p, vs, rfl, _⟩ := hv.list G.sub
      refine ⟨p, w, _, xs, xs.findIdx (fun z => PyData.eqv z b), xs[xs.findIdx fun z => PyData.eqv z b], rfl, rfl, hv.dp G.sub (nd_shaped h2), hw.dp G.sub (nd_shaped h1), h2, h1, List.getElem?_eq_getElem h3, List.findIdx_getElem (w := h3), fun m z' hm hz => ?_, q F H _ G.refl (.int _)⟩
      obtain ⟨hl, rfl⟩ := List.getElem?_eq_some_iff.mp hz
      have := List.not_of_lt_findIdx hm
      simpa using this
    · cases e
  · cases e
section
variable {X : Cx} {T : List (Addr × Str)} {EX : String → Hp → Prop} {pos p : Pos}
theorem de_countL {o e : Expr} {fo fe : Rho → M D} (hu : X.A.units + 65 < cLine) (ho : DB X T EX o fo) (he : DB X T EX e fe)
    (hbase : attributeBase o "count" X.env (eval o X.env) = eval o X.env := by rfl)
    (hfew : ((backTo pos (starEach [e] X.env)).all (fun x => !x.1) && (backToKw pos (keywordEach [] X.env)).all (fun x => x.1.isSome)
      && decide (([e] : List Expr).length + ([] : List Keyword).length + (if ([] : List Keyword).isEmpty then 0 else 1) < 30)) = true := by rfl)
    (hline : (p.endLine == pos.line) = true := by rfl) (hs : starEach [e] X.env = (false, eval e X.env) :: starEach [] X.env := by rfl) (hplain : (backTo pos (starEach [] X.env)).any (·.1) = false := by rfl) :
    DE X T EX (.Call (.Attribute o "count" p) [e] [] pos) (fM1 "list" dCount fo fe) := de_m1 PySem.F.plainAttrs_list PySem.F.slot_list_count PySem.F.type_list_count (mt_countD hu) m_countL ho he hbase hfew hline hs hplain
theorem de_indexL {o e : Expr} {fo fe : Rho → M D} (hu : X.A.units + 65 < cLine) (ho : DB X T EX o fo) (he : DB X T EX e fe)
    (hbase : attributeBase o "index" X.env (eval o X.env) = eval o X.env := by rfl)
    (hfew : ((backTo pos (starEach [e] X.env)).all (fun x => !x.1) && (backToKw pos (keywordEach [] X.env)).all (fun x => x.1.isSome)
      && decide (([e] : List Expr).length + ([] : List Keyword).length + (if ([] : List Keyword).isEmpty then 0 else 1) < 30)) = true := by rfl)
    (hline : (p.endLine == pos.line) = true := by rfl) (hs : starEach [e] X.env = (false, eval e X.env) :: starEach [] X.env := by rfl) (hplain : (backTo pos (starEach [] X.env)).any (·.1) = false := by rfl) :
    DE X T EX (.Call (.Attribute o "index" p) [e] [] pos) (fM1 "list" dIndex fo fe) := de_m1 PySem.F.plainAttrs_list PySem.F.slot_list_index PySem.F.type_list_index (mt_indexD hu) m_indexL ho he hbase hfew hline hs hplain
end
/-! ### zip -/
def zipD : List D → List D → List D
  | a :: as, b :: bs => .tuple [a, b] :: zipD as bs
  | _, _ => []
theorem zipD_eq : ∀ (as bs : List D), zipD as bs = List.zipWith (fun a b => PyData.tuple [a, b]) as bs
  | [], _ => by simp [zipD]
  | _ :: _, [] => by simp [zipD]
  | a :: as, b :: bs => by simp [zipD, zipD_eq as bs]
theorem zipD_len (as bs : List D) : (zipD as bs).length = min as.length bs.length := by rw [zipD_eq, List.length_zipWith]
theorem zipD_at {as bs : List D} {i : Nat} {x : D} (h : (zipD as bs)[i]? = some x) : ∃ a b, as[i]? = some a ∧ bs[i]? = some b ∧ x = .tuple [a, b] := by
  rw [zipD_eq, List.getElem?_zipWith_eq_some] at h
  obtain ⟨a, b, h1, h2, h3⟩ := h
  exact ⟨a, b, h1, h2, h3.symm⟩
section
variable {X : Cx} {T : List (Addr × Str)} {EX : String → Hp → Prop} {pos p p2 : Pos}
theorem wk_zipL {K : PySem.W.Frag} {hp a b : Addr} {F : Hp} {vs ws : List V} {ds es : List D} (h : F a = some (.lst vs)) (h' : F b = some (.lst ws)) (r : RpAll K F vs ds) (r' : RpAll K F ws es) : Wk K T hp F (Itz K a b) (zipD ds es) := fun F0 H0 F' H' s' ff G => by
  have hs : SqL K H' a vs := .inl (.inl (G.sub _ _ (ff _ _ h)))
  have hs' : SqL K H' b ws := .inl (.inl (G.sub _ _ (ff _ _ h')))
  refine ⟨fun i hi => ?_, ⟨vs, ws, hs, hs', ?_⟩, fun i d x H'' e y => ?_⟩
  · rw [zipD_len] at hi
    exact ⟨vs, ws, vs[i]'(by rw [r.len]; omega), ws[i]'(by rw [r'.len]; omega), hs, hs', List.getElem?_eq_getElem _, List.getElem?_eq_getElem _⟩
  · rw [zipD_len, r.len, r'.len]
    omega
  · obtain ⟨P, u, u', rfl, hn, rfl, y1, y2⟩ := y
    obtain ⟨a', b', e1, e2, rfl⟩ := zipD_at e
    obtain ⟨v, q1, q2⟩ := r.at e1
    obtain ⟨v', q3, q4⟩ := r'.at e2
    have z1 := y1 vs hs
    have z2 := y2 ws hs'
    rw [q1] at z1; cases z1
    rw [q3] at z2; cases z2
    have up : ∀ x o, F x = some o → upd F' P (.tup [u, u']) x = some o := fun x o z => by
      rw [upd_ne (ne_of_none (G.sub _ _ (ff _ _ z)) hn)]
      exact ff _ _ z
    exact ⟨_, G.new hn, .tup (.inl (.inl upd_same)) (.cons (Rp.up up q2) (.cons (Rp.up up q4) .nil))⟩
theorem wk_zipT {K : PySem.W.Frag} {hp a b : Addr} {F : Hp} {vs ws : List V} {ds es : List D} (h : SqT K F a vs) (h' : SqT K F b ws) (r : RpAll K F vs ds) (r' : RpAll K F ws es) : Wk K T hp F (RZ.ItzT K a b) (zipD ds es) := fun F0 H0 F' H' s' ff G => by
  have hs : SqT K H' a vs := St.up G.sub (St.up ff h)
  have hs' : SqT K H' b ws := St.up G.sub (St.up ff h')
  refine ⟨fun i hi => ?_, ⟨vs, ws, hs, hs', ?_⟩, fun i d x H'' e y => ?_⟩
  · rw [zipD_len] at hi
    exact ⟨vs, ws, vs[i]'(by rw [r.len]; omega), ws[i]'(by rw [r'.len]; omega), hs, hs', List.getElem?_eq_getElem _, List.getElem?_eq_getElem _⟩
  · rw [zipD_len, r.len, r'.len]
    omega
  · obtain ⟨P, u, u', rfl, hn, rfl, y1, y2⟩ := y
    obtain ⟨a', b', e1, e2, rfl⟩ := zipD_at e
    obtain ⟨v, q1, q2⟩ := r.at e1
    obtain ⟨v', q3, q4⟩ := r'.at e2
    have z1 := y1 vs hs
    have z2 := y2 ws hs'
    rw [q1] at z1; cases z1
    rw [q3] at z2; cases z2
    have up : ∀ x o, F x = some o → upd F' P (.tup [u, u']) x = some o := fun x o z => by
      rw [upd_ne (ne_of_none (G.sub _ _ (ff _ _ z)) hn)]
      exact ff _ _ z
    exact ⟨_, G.new hn, .tup (.inl (.inl upd_same)) (.cons (Rp.up up q2) (.cons (Rp.up up q4) .nil))⟩
def dZip : D → D → Option (List D)
  | .list xs, .list ys => some (zipD xs ys)
  | .tuple xs, .tuple ys => some (zipD xs ys)
  | _, _ => none
def fZip (fa fb : Rho → M D) : Rho → M (List D) := fun ρ => do
  let a ← fa ρ
  let b ← fb ρ
  O.lift (dZip a b)
theorem di_zip {e e2 : Expr} {es : List Expr} {k0 : Nat} {fa fb : Rho → M D} (hm : X.mg "zip" = none) (hg : Gl X "zip") (h : DE X T EX e fa) (h2 : DE X T EX e2 fb) (hs : starEach [e, e2] X.env = (false, eval e X.env) :: starEach [e2] X.env := by rfl) (hs2 : starEach [e2] X.env = (false, eval e2 X.env) :: starEach [] X.env := by rfl)
    (hpl : (backTo pos (starEach [e2] X.env)).any (·.1) = false := by rfl) :
    DI X T EX (.Tuple es k0 p2) (.Call (.Name "zip" p) [e, e2] [] pos) (fZip fa fb) := by
  obtain ⟨_, a1, a2⟩ := h
  obtain ⟨_, b1, b2⟩ := h2
  refine ⟨_, RZ.pi_zipA hg hm (pa_cons a1 (pa_cons b1 pa_nil hs2) hs) hs hpl, fun R q => a2 R (q.bind.mono fun d s1 k F1 H1 v g1 w1 => b2 (R.grow g1) (k.bind.mono fun d2 s2 k2 F2 H2 v2 g2 w2 => ?_))⟩
  obtain ⟨ds, e1, k3⟩ := k2.lift
  have R2 := (R.grow g1).grow g2
  have w1' := Rp.up g2.ff w1
  cases w1' with
  | lst h1 r1 =>
    cases w2 with
    | lst h2 r2 =>
      cases e1
      exact ⟨_, _, _, _, rfl, .inl ⟨.inl (.inl (R2.g.sub _ _ h1)), .inl (.inl (R2.g.sub _ _ h2)), k3 F2 H2 _ (g1.trans g2) (wk_zipL h1 h2 r1 r2)⟩⟩
    | _ => cases e1
  | tup h1 r1 =>
    cases w2 with
    | tup h2 r2 =>
      cases e1
      exact ⟨_, _, _, _, rfl, .inr ⟨St.up R2.g.sub h1, St.up R2.g.sub h2, k3 F2 H2 _ (g1.trans g2) (wk_zipT h1 h2 r1 r2)⟩⟩
    | _ => cases e1
  | _ => cases e1
end
end Jw
/-! repr, items stored and popped, sorted, the least and greatest of tuples. -/
namespace Jw
open PySem PySem.Spec PyProof.Rows L2
/-! ### repr(x) -/
def dRepr (d : D) : Option D := if SeqAt.shaped d = true ∧ d.showable = true ∧ d.shown.length ≤ 16000000 then some (.str d.shown) else none
section
variable {X : Cx}
def rReprD (K : PySem.W.Frag) : List V → Hp → VK → Prop := fun xs H Q => ∃ (x : V) (d : PyData), xs = [x] ∧ Dp K H x d ∧ SeqAt.shaped d = true ∧ d.showable = true ∧ d.shown.length ≤ 16000000 ∧ Q (.str d.shown) H
theorem cr_reprD (gd : X.A.guards = some []) (hu : X.A.units + 66 < cLine) : CallR X (.builtin "repr") (rReprD X.K) := by
  intro pins s σ H xs us Q I r h
  obtain ⟨x, d, rfl, hd, sh, sw, sz, q⟩ := h
  obtain ⟨u, rfl, ru⟩ := r.one
  have big : d.shown.length ≤ sizeLine := by rw [sizeLine_eq]; omega
  obtain ⟨as, rd⟩ := Dp.reads I d x u hd ru
  have nod : d.hasDict = false := PyData.hasDict_of_canLay d (SeqAt.canLay_of_shaped sh)
  have dep : d.depth ≤ 64 := by
    unfold SeqAt.shaped at sh
    rw [Bool.and_eq_true] at sh
    simpa using sh.2
  cases rd with
  | none => exact PySem.P.repr_of_none ⟨.str _, H, I.tok _, ⟨_, rfl⟩, q⟩
  | bool b => exact PySem.P.repr_of_bool ⟨.str _, H, I.tok _, ⟨_, rfl⟩, q⟩
  | int i t =>
    have e : i.natAbs.log2 < 1920 := by simpa [PyData.showable] using sw
    exact PySem.P.repr_of_int e ⟨.str _, H, I.tok _, ⟨_, rfl⟩, q⟩
  | str y t => exact PySem.P.repr_of_str ⟨.str _, H, I.tok _, ⟨_, rfl⟩, q⟩ big
  | list h1 h2 h3 h4 => exact PySem.repr_of_reads' (.list h1 h2 h3 h4) sw (fun z => by rw [nod] at z; cases z) gd (by omega) (fun _ _ e => e) (fun h' u tk k => ⟨.str _, H, I.kept k, ⟨_, rfl⟩, q⟩) big
  | tuple h1 h2 h3 h4 => exact PySem.repr_of_reads' (.tuple h1 h2 h3 h4) sw (fun z => by rw [nod] at z; cases z) gd (by omega) (fun _ _ e => e) (fun h' u tk k => ⟨.str _, H, I.kept k, ⟨_, rfl⟩, q⟩) big
  | dict => cases nod
end
theorem c_repr {K : PySem.W.Frag} : CallP1 K (rReprD K) dRepr := by
  intro T hp F0 H0 F H s v a d Q G hv e q
  unfold dRepr at e
  split at e
  · cases e
    rename_i hz
    exact ⟨v, a, rfl, hv.dp G.sub (nd_shaped hz.1), hz.1, hz.2.1, hz.2.2, q F H _ G.refl (.str _)⟩
  · cases e
theorem hu66 {A : Around} {k : Nat} (hr : Room k A) : A.units + 66 < cLine := by have := hr.un; omega
/-! ### sorted(xs) -/
open PySem.W in
def sortD (ds : List D) : List D := ds.mergeSort (fun a b => !dataLt b a)
def alikeA (xs : List D) : Bool := xs.all fun x => xs.all fun y => PySem.W.alike x y
def sortableB (xs : List D) : Bool := (xs.all fun x => match x with | .tuple (_ :: _) => true | _ => false) || (xs.all fun x => match x with | .none => false | .tuple _ => false | _ => true)
theorem alikeA_all {xs : List D} (h : alikeA xs = true) : PySem.W.AllAlike xs := by
  intro d hd d' hd'
  exact List.all_eq_true.mp (List.all_eq_true.mp h d hd) d' hd'
theorem sortableB_all {xs : List D} (h : sortableB xs = true) : PySem.W.Sortable xs := by
  unfold sortableB at h
  rw [Bool.or_eq_true] at h
  rcases h with h | h
  · refine .inl fun d hd => ?_
    have z := List.all_eq_true.mp h d hd
    match d, z with
    | .tuple (x :: r), _ => exact ⟨x, r, rfl⟩
  · refine .inr fun d hd => ?_
    have z := List.all_eq_true.mp h d hd
    refine ⟨fun e => ?_, fun xs e => ?_⟩
    · subst e; cases z
    · subst e; cases z
def dSortedL : D → Option (List D)
  | .list xs => if alikeA xs = true ∧ sortableB xs = true ∧ PyData.depthAll xs ≤ 64 ∧ xs.length ≤ 16777216 then some (sortD xs) else none
  | _ => none
section
variable {X : Cx}
def rSortedD (K : PySem.W.Frag) : List V → Hp → VK → Prop := fun xs H Q => ∃ (a : Addr) (vs : List V) (ds : List PyData), xs = [V.ref a] ∧ SqL K H a vs ∧ DpAll K H vs ds ∧ PySem.W.AllAlike ds ∧ PySem.W.Sortable ds ∧ PyData.depthAll ds ≤ 64 ∧ ds.length ≤ 16777216 ∧
  ∀ (p : Addr) (ps : List (V × PyData)), H p = none → (∀ z ∈ ps, z ∈ vs.zip ds) → ps.map (·.2) = sortD ds → Q (.ref p) (upd H p (.lst (ps.map (·.1))))
theorem depth_mem : ∀ {ds : List PyData} {d : PyData}, d ∈ ds → d.depth ≤ PyData.depthAll ds
  | x :: xs, d, h => by
    rcases List.mem_cons.mp h with rfl | h
    · exact Nat.le_max_left _ _
    · exact Nat.le_trans (depth_mem h) (Nat.le_max_right _ _)
theorem each_zip {h : Heap} : ∀ {vs : List V} {us : List Value} {ds : List PyData} {as : List Addr}, Vals vs us → ReadsAll h us ds as → PySem.W.EachIs (fun (u : Value) (z : V × PyData) => RelV z.1 u) us (vs.zip ds) ∧ PySem.W.EachIs (fun (u : Value) (z : V × PyData) => ∃ as, Reads h u z.2 as) us (vs.zip ds)
  | _, _, _, _, .nil, .nil => ⟨.nil, .nil⟩
  | _, _, _, _, .cons r rs, .cons q qs => let ⟨a, b⟩ := each_zip rs qs; ⟨.cons r a, .cons ⟨_, q⟩ b⟩
theorem each_vals : ∀ {us : List Value} {ps : List (V × PyData)}, PySem.W.EachIs (fun (u : Value) (z : V × PyData) => RelV z.1 u) us ps → Vals (ps.map (·.1)) us
  | _, _, .nil => .nil
  | _, _, .cons r rs => .cons r (each_vals rs)
theorem readsAll_len2 {h : Heap} : ∀ {us : List Value} {ds : List PyData} {as : List Addr}, ReadsAll h us ds as → us.length = ds.length
  | _, _, _, .nil => rfl
  | _, _, _, .cons _ q => congrArg Nat.succ (readsAll_len2 q)
theorem cr_sortedD (hu : X.A.units + 66 < cLine) : CallR X (.builtin "sorted") (rSortedD X.K) := by
  intro pins s σ H xs us Q I r h
  obtain ⟨a, vs, ds, rfl, hs, hd, al, so, dep, len, q⟩ := h
  rw [Vals.ref1 r]
  obtain ⟨its, rv, hl, _⟩ := I.list hs
  obtain ⟨as, hr⟩ := Dp.readsAll I _ _ its hd rv
  obtain ⟨e1, e2⟩ := each_zip rv hr
  have l1 := readsAll_len2 hr
  have l2 := rv.length
  have zz : (vs.zip ds).map (·.2) = ds := List.map_snd_zip (by omega)
  refine PySem.W.sorted_data (vs := its) (bs := vs.zip ds) (enc := fun z => z.2) hl.isList e1 e2 (by rw [zz]; exact al) (by rw [zz]; exact so) (by rw [List.length_zip, sizeLine_eq]; omega) (fun b hb => ?_) fun out ol oe => ?_
  · have m : b.2 ∈ ds := (List.of_mem_zip (a := b.1) (b := b.2) hb).2
    have := depth_mem m
    omega
  · obtain ⟨ep, he'⟩ := PyProof.Rows.sortedAll_at s.heap its out.toArray
    have hv := each_vals oe
    refine ⟨.ref _, upd H (s.heap.objs.size + 1) (.lst _), I.laid (t' := s.toks) (fun _ _ => PyProof.Rows.sortedAll_old) (Nat.le_succ _) ⟨?_, out, ep, hv, by simpa using he'⟩, rfl, q _ _ (I.hok.fresh (Nat.le_succ _)) (fun z hz => ?_) ?_⟩
    · rw [hv.length, ol, List.length_zip, sizeLine_eq]
      omega
    · exact (List.mergeSort_perm _ _).mem_iff.mp hz
    · unfold sortD
      rw [List.map_mergeSort (s := fun a b => !PySem.W.dataLt b a) (fun x _ y _ => by rw [PySem.W.dataLe_eq]; rfl), zz]
end
theorem zip_rp {K : PySem.W.Frag} {F : Hp} : ∀ {vs : List V} {ds : List D}, RpAll K F vs ds → ∀ z ∈ vs.zip ds, Rp K F z.1 z.2
  | _, _, .nil, z, h => by cases h
  | _, _, .cons r rs, z, h => by
    rcases List.mem_cons.mp h with rfl | h
    · exact r
    · exact zip_rp rs z h
theorem rp_zip {K : PySem.W.Frag} {F : Hp} : ∀ {ps : List (V × D)}, (∀ z ∈ ps, Rp K F z.1 z.2) → RpAll K F (ps.map (·.1)) (ps.map (·.2))
  | [], _ => .nil
  | z :: ps, h => .cons (h z List.mem_cons_self) (rp_zip fun y hy => h y (List.mem_cons_of_mem _ hy))
theorem ndAll_alikeA {xs : List D} (h : PySem.W.AllAlike xs) : ndAll xs = true := by
  have : ∀ ys : List D, (∀ y ∈ ys, nd y = true) → ndAll ys = true := by
    intro ys
    induction ys with
    | nil => intro _; rfl
    | cons y ys ih =>
      intro hy
      unfold ndAll
      rw [hy y List.mem_cons_self, ih fun z hz => hy z (List.mem_cons_of_mem _ hz)]
      rfl
  exact this xs fun y hy => nd_alike y (h y hy y hy)
theorem c_sortedL {K : PySem.W.Frag} : CallN1 K (rSortedD K) dSortedL := by
  intro T hp F0 H0 F H s v a xs Q G hv e q
  unfold dSortedL at e
  split at e
  · split at e
    · cases e
      rename_i ys hz
      obtain ⟨h1, h2, h3, h4⟩ := hz
      have al := alikeA_all h1
      obtain ⟨p, vs, rfl, hH, ra⟩ := hv.list G.sub
      refine ⟨p, vs, ys, rfl, .inl (.inl hH), (RpAll.up G.sub ra).dp (ndAll_alikeA al), al, sortableB_all h2, h3, h4, fun l ps hn hm hs => ?_⟩
      have r := rp_zip fun z hz => zip_rp ra z (hm z hz)
      rw [hs] at r
      exact q F _ l (G.newOwn hn) (NewL.of G hn r)
    · cases e
  · cases e
/-! ### an item of a list of the def's own is stored -/
def fSetIx (i : Nat) (f fi : Rho → M D) : Rho → M Ctl := fun ρ => do
  let xs ← ownAt i ρ
  let d ← f ρ
  let k ← fi ρ
  let n ← O.lift (dI k)
  let j ← O.lift (ixN xs.length n)
  pure (.nx (ρ.set i (.own (xs.set j d))))
theorem RpAll.set {K : PySem.W.Frag} {H : Hp} {v : V} {d : D} (r : Rp K H v d) : ∀ {vs : List V} {ds : List D} (j : Nat), RpAll K H vs ds → RpAll K H (vs.set j v) (ds.set j d)
  | _, _, _, .nil => .nil
  | _, _, 0, .cons _ a => .cons r a
  | _, _, j + 1, .cons h a => .cons h (RpAll.set r j a)
section
variable {X : Cx} {T : List (Addr × Str)} {EX : String → Hp → Prop} {pos p px : Pos}
theorem ds_setIx (i : Nat) {x : Str} {e ie : Expr} {f fi : Rho → M D} (h : DE X T EX e f) (hx : DE X T EX ie fi) (hN : X.N[i]? = some x := by rfl) (hv : Vis X.env.scope x := by first | exact Or.inl rfl | exact Or.inr (Or.inl rfl) | exact Or.inr (Or.inr rfl)) (hd : (x == ("__debug__" : Str)) = false := by decide)
    (hcd : (x == ("__classdict__" : Str)) = false := by decide)
    (ha : ∀ v, assign (.Subscript (.Name x px) ie p) X.env v = (do
      let ov ← holding [v] (eval (.Name x px) X.env)
      let iv ← holding [v, ov] (eval ie X.env)
      standAt p
      holding [v, ov, iv] (setItem ov iv v)
      release [v, ov, iv] []) := by intro _; rfl)
    (hs : swapsWithSole [.Subscript (.Name x px) ie p] e pos.line X.env = pure false := by rfl) (hw : swappedStores [.Subscript (.Name x px) ie p] e X.env = pure none := by rfl)
    (h1 : (assignEach [.Subscript (.Name x px) ie p] X.env).map (·.2) = [assign (.Subscript (.Name x px) ie p) X.env] := by rfl) :
    DS X T EX (.Assign [.Subscript (.Name x px) ie p] e pos) (fSetIx i f fi) := by
  obtain ⟨_, a1, a2⟩ := h
  obtain ⟨_, b1, b2⟩ := hx
  refine ⟨_, ps_asg a1 (pg_sub (pe_var hN hv hd hcd) b1 set_list ha) hs hw h1, fun {hp F0 H0 F H σ ρ s E} R q => ?_⟩
  obtain ⟨xs, hx, q2⟩ := q.bind.ownAt
  refine a2 R (q2.bind.mono fun d s1 k F1 H1 v g r => ?_)
  have R1 := R.grow g
  obtain ⟨a, vs, h1, h2, h3, h4, h5, h6⟩ := R1.sl i _ hx
  refine ⟨.ref a, h1, b2 R1 (k.bind.mono fun kd s2 k2 F2 H2 kv g2 r2 => ?_)⟩
  obtain ⟨n, e1, k3⟩ := k2.bind.lift
  obtain ⟨j, e2, k4⟩ := k3.bind.lift
  cases dI_is e1
  cases r2
  have R2 := R1.grow g2
  have h2' := g2.st _ _ h2 (not_loose_lst h5)
  refine ⟨a, vs, n, j, rfl, rfl, h2', by rw [h3.len]; exact e2, ?_⟩
  exact k4.ret F2 _ σ (fun x o z => g2.ff _ _ (g.ff _ _ z)) (R2.write hx h1 h2' (RpAll.set (Rp.up g2.ff r) j (RpAll.up g2.ff h3)))
/-! ### an expression that pops an item of a list of the def's own -/
def DP (X : Cx) (T : List (Addr × Str)) (EX : String → Hp → Prop) (e : Expr) (f : Rho → M (D × Rho)) : Prop := ∃ te, PE X e te ∧ ∀ {hp : Addr} {F0 H0 F H : Hp} {σ : L2.St} {ρ : Rho} {s : HS} {Q : VK}, Rel X.K T hp F0 H0 F H σ ρ s →
  Post (f ρ s) (fun z s' => ∀ F' H' v, (∀ a o, F a = some o → F' a = some o) → Rel X.K T hp F0 H0 F' H' σ z.2 s' → Rp X.K F' v z.1 → Q v H') (WX X.K T hp F0 H0 EX) → te σ H Q
def fPop (i : Nat) : Rho → M (D × Rho) := fun ρ => do
  let xs ← ownAt i ρ
  let d ← O.lift (xs[xs.length - 1]?)
  pure (d, ρ.set i (.own xs.dropLast))
def fPopAt (i : Nat) (fi : Rho → M D) : Rho → M (D × Rho) := fun ρ => do
  let xs ← ownAt i ρ
  let k ← fi ρ
  let n ← O.lift (dI k)
  let j ← O.lift (if -(2 ^ 63) ≤ n ∧ n < 2 ^ 63 then seqIndex? n xs.length else none)
  let d ← O.lift (xs[j]?)
  pure (d, ρ.set i (.own (xs.eraseIdx j)))
theorem RpAll.dropLast {K : PySem.W.Frag} {H : Hp} {vs : List V} {ds : List D} (h : RpAll K H vs ds) : RpAll K H vs.dropLast ds.dropLast := by
  rw [List.dropLast_eq_take, List.dropLast_eq_take, h.len]
  exact h.take _
theorem RpAll.erase {K : PySem.W.Frag} {H : Hp} : ∀ {vs : List V} {ds : List D} (j : Nat), RpAll K H vs ds → RpAll K H (vs.eraseIdx j) (ds.eraseIdx j)
  | _, _, _, .nil => .nil
  | _, _, 0, .cons _ a => a
  | _, _, j + 1, .cons h a => .cons h (RpAll.erase j a)
theorem dp_pop (i : Nat) {x : Str} (hN : X.N[i]? = some x := by rfl) (hv : Vis X.env.scope x := by first | exact Or.inl rfl | exact Or.inr (Or.inl rfl) | exact Or.inr (Or.inr rfl)) (hd : (x == ("__debug__" : Str)) = false := by decide)
    (hcd : (x == ("__classdict__" : Str)) = false := by decide) (hb : attributeBase (.Name x px) "pop" X.env (eval (.Name x px) X.env) = eval (.Name x px) X.env := by rfl) (hl : (p.endLine == pos.line) = true := by rfl) :
    DP X T EX (.Call (.Attribute (.Name x px) "pop" p) [] [] pos) (fPop i) := by
  refine ⟨_, pe_bm0 PySem.F.plainAttrs_list PySem.F.slot_list_pop PySem.F.type_list_pop mt_pop (pe_var hN hv hd hcd) hb hl, fun {hp F0 H0 F H σ ρ s Q} R q => ?_⟩
  obtain ⟨xs, hx, q2⟩ := q.bind.ownAt
  obtain ⟨a, vs, h1, h2, h3, h4, h5, h6⟩ := R.sl i _ hx
  obtain ⟨d, e1, k⟩ := q2.bind.lift
  obtain ⟨v, hv1, hv2⟩ := h3.at e1
  refine ⟨.ref a, h1, .inl ⟨rfl, _, .inl (.inl h2)⟩, a, vs, v, rfl, rfl, h2, by rw [h3.len]; exact hv1, ?_⟩
  exact k.ret F _ v (fun _ _ z => z) (R.write hx h1 h2 h3.dropLast) hv2
theorem dp_popAt (i : Nat) {x : Str} {ie : Expr} {fi : Rho → M D} (h : DE X T EX ie fi) (hN : X.N[i]? = some x := by rfl) (hv : Vis X.env.scope x := by first | exact Or.inl rfl | exact Or.inr (Or.inl rfl) | exact Or.inr (Or.inr rfl)) (hd : (x == ("__debug__" : Str)) = false := by decide)
    (hcd : (x == ("__classdict__" : Str)) = false := by decide) (hb : attributeBase (.Name x px) "pop" X.env (eval (.Name x px) X.env) = eval (.Name x px) X.env := by rfl)
    (hpl : ((backTo pos (starEach [ie] X.env)).all (fun x => !x.fst) && (backToKw pos (keywordEach [] X.env)).all (fun x => x.fst.isSome) && decide ([ie].length + ([] : List Keyword).length + (if ([] : List Keyword).isEmpty = true then 0 else 1) < 30)) = true := by rfl)
    (hl : (p.endLine == pos.line) = true := by rfl) (he : starEach [ie] X.env = (false, eval ie X.env) :: starEach [] X.env := by rfl) :
    DP X T EX (.Call (.Attribute (.Name x px) "pop" p) [ie] [] pos) (fPopAt i fi) := by
  obtain ⟨_, b1, b2⟩ := h
  refine ⟨_, pe_bm PySem.F.plainAttrs_list PySem.F.slot_list_pop PySem.F.type_list_pop mt_popAt (pe_var hN hv hd hcd) (pa_cons b1 pa_nil he) hb hpl hl he rfl, fun {hp F0 H0 F H σ ρ s Q} R q => ?_⟩
  obtain ⟨xs, hx, q2⟩ := q.bind.ownAt
  obtain ⟨a, vs, h1, h2, h3, h4, h5, h6⟩ := R.sl i _ hx
  refine ⟨.ref a, h1, .inl ⟨rfl, _, .inl (.inl h2)⟩, b2 R (q2.bind.mono fun kd s1 k F1 H1 kv g r => ?_)⟩
  obtain ⟨n, e1, k2⟩ := k.bind.lift
  obtain ⟨j, e2, k3⟩ := k2.bind.lift
  obtain ⟨d, e3, k4⟩ := k3.bind.lift
  cases dI_is e1
  cases r
  split at e2
  · rename_i hz
    have R1 := R.grow g
    have h3' := RpAll.up g.ff h3
    have h2' := g.st _ _ h2 (not_loose_lst h5)
    obtain ⟨v, hv1, hv2⟩ := h3'.at e3
    refine ⟨a, vs, n, j, v, rfl, rfl, h2', hz.1, hz.2, by rw [h3.len]; exact e2, hv1, ?_⟩
    exact k4.ret F1 _ v g.ff (R1.write hx h1 h2' (h3'.erase j)) hv2
  · cases e2
/-- y = xs.pop(..) -/
def fSetP (j : Nat) (f : Rho → M (D × Rho)) : Rho → M Ctl := fun ρ => do
  let z ← f ρ
  let ρ' ← putSl j (.dat z.1) z.2
  pure (.nx ρ')
theorem ds_setP (j : Nat) {y : Str} {e : Expr} {f : Rho → M (D × Rho)} (hN : X.N.Nodup) (h : DP X T EX e f) (hi : X.N[j]? = some y := by rfl) (hx : Loc X.env.scope y := by first | exact Or.inl rfl | exact Or.inr rfl) (hs : swapsWith e (some (.Name y p)) pos.line X.env = pure false := by rfl)
    (hf : X.fn y = true ∨ X.env.scope.names.lookup y = some .local := by first | exact .inl rfl | exact .inr rfl) : DS X T EX (.Assign [.Name y p] e pos) (fSetP j f) := by
  obtain ⟨_, a1, a2⟩ := h
  refine ⟨_, ps_set hN hi hx a1 hs hf, fun {hp F0 H0 F H σ ρ s E} R q => a2 R (q.bind.mono fun z s1 k F' H' v ff R' r => ?_)⟩
  obtain ⟨hj, k2⟩ := k.bind.putSl
  have hj' : j < σ.length := by rw [R'.len]; exact hj
  exact k2.ret F' H' _ ff (R'.setD hj r)
/-- ys.append(xs.pop(..)) -/
def fAppendP (i : Nat) (f : Rho → M (D × Rho)) : Rho → M Ctl := fun ρ => do
  let _ ← ownAt i ρ
  let z ← f ρ
  let xs ← ownAt i z.2
  if xs.length < 16777216 then pure (.nx (z.2.set i (.own (xs ++ [z.1])))) else M.bad
theorem ds_appendP (i : Nat) {x : Str} {e : Expr} {f : Rho → M (D × Rho)} {apos cpos : Pos} (h : DP X T EX e f) (hN : X.N[i]? = some x := by rfl) (hv : Vis X.env.scope x := by first | exact Or.inl rfl | exact Or.inr (Or.inl rfl) | exact Or.inr (Or.inr rfl)) (hd : (x == ("__debug__" : Str)) = false := by decide)
    (hcd : (x == ("__classdict__" : Str)) = false := by decide) (hb : attributeBase (.Name x px) "append" X.env (eval (.Name x px) X.env) = eval (.Name x px) X.env := by rfl)
    (hpl : ((backTo cpos (starEach [e] X.env)).all (fun x => !x.fst) && (backToKw cpos (keywordEach [] X.env)).all (fun x => x.fst.isSome) && decide ([e].length + ([] : List Keyword).length + (if ([] : List Keyword).isEmpty = true then 0 else 1) < 30)) = true := by rfl)
    (hl : (apos.endLine == cpos.line) = true := by rfl) (he : starEach [e] X.env = (false, eval e X.env) :: starEach [] X.env := by rfl) (hs : swapsWith (.Call (.Attribute (.Name x px) "append" apos) [e] [] cpos) none pos.line X.env = pure false := by rfl) :
    DS X T EX (.Expr (.Call (.Attribute (.Name x px) "append" apos) [e] [] cpos) pos) (fAppendP i f) := by
  obtain ⟨_, a1, a2⟩ := h
  refine ⟨_, ps_expr (pe_bm PySem.F.plainAttrs_list PySem.F.slot_list_append PySem.F.type_list_append mt_append (pe_var hN hv hd hcd) (pa_cons a1 pa_nil he) hb hpl hl he rfl) hs, fun {hp F0 H0 F H σ ρ s E} R q => ?_⟩
  obtain ⟨xs, hx, q2⟩ := q.bind.ownAt
  obtain ⟨a, vs, h1, h2, h3, h4, h5, h6⟩ := R.sl i _ hx
  refine ⟨.ref a, h1, .inl ⟨rfl, _, .inl (.inl h2)⟩, a2 R (q2.bind.mono fun z s1 k F1 H1 v ff R1 r => ?_)⟩
  obtain ⟨ys, hy, k2⟩ := k.bind.ownAt
  obtain ⟨b, ws, b1, b2, b3, b4, b5, b6⟩ := R1.sl i _ hy
  rw [h1] at b1
  cases b1
  split at k2
  case isFalse => exact k2.elim
  rename_i hz
  exact ⟨a, ws, v, rfl, rfl, b2, by rw [b3.len, sizeLine_eq]; exact hz, k2.ret F1 _ σ ff (R1.write hy h1 b2 (b3.app (.cons r .nil)))⟩
/-- xs.pop() alone -/
def fDropP (f : Rho → M (D × Rho)) : Rho → M Ctl := fun ρ => do
  let z ← f ρ
  pure (.nx z.2)
theorem ds_exprP {e : Expr} {f : Rho → M (D × Rho)} (h : DP X T EX e f) (hs : swapsWith e none pos.line X.env = pure false := by rfl) : DS X T EX (.Expr e pos) (fDropP f) := by
  obtain ⟨_, a1, a2⟩ := h
  exact ⟨_, ps_expr a1 hs, fun R q => a2 R (q.bind.mono fun z s1 k F' H' v ff R' r => k.ret F' H' _ ff R')⟩
end
/-! ### the least, the greatest of a tuple -/
section
variable {X : Cx}
def rBestT (K : PySem.W.Frag) (best : PyData → List PyData → PyData) : List V → Hp → VK → Prop := fun xs H Q => ∃ (a : Addr) (vs : List V) (x : PyData) (ds : List PyData), xs = [.ref a] ∧ SqT K H a vs ∧ DpAll K H vs (x :: ds) ∧ PySem.W.AlikeAll (x :: ds) ∧ PyData.depthAll (x :: ds) ≤ 64 ∧
  ∀ (i : Nat) (v : V), vs[i]? = some v → (x :: ds)[i]? = some (best x ds) → Q v H
theorem cr_minT (hc : X.calm = true) (hu : X.A.units + 65 < cLine) : CallR X (.builtin "min") (rBestT X.K PySem.W.minD) := by
  rintro pins s σ H vs us Q I r ⟨a, ws, x, ds, rfl, hs, hd, hal, hdp, q⟩
  obtain ⟨its, rv, hl, _⟩ := I.tuple hs
  obtain ⟨as, hr⟩ := Dp.readsAll I _ _ its hd rv
  rw [Vals.ref1 r]
  refine PySem.W.min_tuple_data (I.ok.hd hc) hl (vs := its.toArray) hr hal (by omega) fun i u h' tk bs hi hb hk => ?_
  obtain ⟨v, hv, rv2⟩ := vals_back (i := i) (u := u) rv (by simpa using hi)
  exact ⟨v, H, I.kept hk, rv2, q i v hv (best_at hr hi hb hk)⟩
theorem cr_maxT (hc : X.calm = true) (hu : X.A.units + 65 < cLine) : CallR X (.builtin "max") (rBestT X.K PySem.W.maxD) := by
  rintro pins s σ H vs us Q I r ⟨a, ws, x, ds, rfl, hs, hd, hal, hdp, q⟩
  obtain ⟨its, rv, hl, _⟩ := I.tuple hs
  obtain ⟨as, hr⟩ := Dp.readsAll I _ _ its hd rv
  rw [Vals.ref1 r]
  refine PySem.W.max_tuple_data (I.ok.hd hc) hl (vs := its.toArray) hr hal (by omega) fun i u h' tk bs hi hb hk => ?_
  obtain ⟨v, hv, rv2⟩ := vals_back (i := i) (u := u) rv (by simpa using hi)
  exact ⟨v, H, I.kept hk, rv2, q i v hv (best_at hr hi hb hk)⟩
theorem CallR.or {f : Value} {r r' : List V → Hp → VK → Prop} (h : CallR X f r) (h' : CallR X f r') : CallR X f (fun xs H Q => r xs H Q ∨ r' xs H Q) := fun pins s σ H xs us Q I rv q => q.elim (h pins s σ H xs us Q I rv) (h' pins s σ H xs us Q I rv)
end
end Jw
/-! Short words: ranges as lists, steps, the least of either, repr, sorted; names forgotten. -/
namespace Jw
open PySem PySem.Spec PyProof.Rows L2
/-! ### names forgotten (nothing happens; they are known no more) -/
def unR (ρ : Rho) : List Nat → Rho
  | [] => ρ
  | v :: vs => unR (ρ.set v .un) vs
theorem unR_len (ρ : Rho) : ∀ vs : List Nat, (unR ρ vs).length = ρ.length
  | [] => rfl
  | v :: vs => by unfold unR; rw [unR_len _ vs, List.length_set]
section
variable {K : PySem.W.Frag} {T : List (Addr × Str)} {hp : Addr} {F0 H0 F H : Hp} {σ : L2.St} {ρ : Rho} {s : HS}
theorem Rel.un1 (R : Rel K T hp F0 H0 F H σ ρ s) (i : Nat) : Rel K T hp F0 H0 F H σ (ρ.set i .un) s := by
  refine ⟨R.g, fun j x e => ?_, fun j k xs ys e1 e2 n => ?_, by rw [List.length_set]; exact R.len⟩
  · by_cases q : i = j
    · subst q
      by_cases hi : i < ρ.length
      · rw [List.getElem?_set_self hi] at e
        cases e
        trivial
      · rw [List.getElem?_eq_none (by rw [List.length_set]; omega)] at e
        cases e
    · rw [List.getElem?_set_ne q] at e
      exact R.sl j x e
  · have f : ∀ (m : Nat) (zs : List D), (ρ.set i .un)[m]? = some (.own zs) → ρ[m]? = some (.own zs) := fun m zs e => by
      by_cases q : i = m
      · subst q
        by_cases hi : i < ρ.length
        · rw [List.getElem?_set_self hi] at e
          cases e
        · rw [List.getElem?_eq_none (by rw [List.length_set]; omega)] at e
          cases e
      · rw [List.getElem?_set_ne q] at e
        exact e
    exact R.ne j k xs ys (f j xs e1) (f k ys e2) n
theorem Rel.unR (R : Rel K T hp F0 H0 F H σ ρ s) : ∀ vs : List Nat, Rel K T hp F0 H0 F H σ (Jw.unR ρ vs) s := by
  intro vs
  induction vs generalizing ρ with
  | nil => exact R
  | cons v vs ih => exact ih (R.un1 v)
end
/-- ahead of a statement vs are forgotten -/
def fUn (vs : List Nat) (f : Rho → M Ctl) : Rho → M Ctl := fun ρ => f (unR ρ vs)
def Ctl.un (vs : List Nat) : Ctl → Ctl
  | .nx ρ => .nx (unR ρ vs)
  | .bk ρ => .bk (unR ρ vs)
  | .ct ρ => .ct (unR ρ vs)
  | .rt d => .rt d
/-- behind a block vs are forgotten -/
def fEnd (vs : List Nat) (f : Rho → M Ctl) : Rho → M Ctl := fun ρ => do
  let c ← f ρ
  pure (c.un vs)
section
variable {X : Cx} {T : List (Addr × Str)} {EX : String → Hp → Prop} {pos p p1 p2 p3 : Pos} {tg e e2 e3 : Expr} {fa fb fc : Rho → M D}
theorem ds_un (vs : List Nat) {st : Stmt} {f : Rho → M Ctl} (h : DS X T EX st f) : DS X T EX st (fUn vs f) := by
  obtain ⟨ts, a, b⟩ := h
  exact ⟨ts, a, fun R q => b (R.unR vs) q⟩
theorem CtlQ.un {K : PySem.W.Frag} {hp : Addr} {F0 H0 F : Hp} {E : Ends} {c : Ctl} {s : HS} (vs : List Nat) (h : CtlQ K T hp F0 H0 F E (c.un vs) s) : CtlQ K T hp F0 H0 F E c s := by
  cases c with
  | nx ρ => exact fun F' H' σ' ff R => h F' H' σ' ff (R.unR vs)
  | bk ρ => exact fun F' H' σ' ff R => h F' H' σ' ff (R.unR vs)
  | ct ρ => exact fun F' H' σ' ff R => h F' H' σ' ff (R.unR vs)
  | rt d => exact h
theorem dss_end (vs : List Nat) {st : List Stmt} {f : Rho → M Ctl} (h : DSs X T EX st f) : DSs X T EX st (fEnd vs f) := by
  obtain ⟨ts, a, b⟩ := h
  exact ⟨ts, a, fun R q => b R (q.bind.mono fun c s' k => CtlQ.un vs k.ret)⟩
/-! ### range(a, b, c) walked; list(range(..)), tuple(range(..)) -/
def rng3 (lo c : Int) (n : Nat) : List D := (List.range n).map fun (i : Nat) => PyData.int (lo + (i : Int) * c)
def dRng3 : D → D → D → Option (List D)
  | .int a, .int b, .int c => if c ≠ 0 ∧ c.natAbs < 1073741824 ∧ Builtin.Range.small a b c = true ∧ 0 ≤ Builtin.Range.rangeSize a b c then some (rng3 a c (Builtin.Range.rangeSize a b c).toNat) else none
  | _, _, _ => none
theorem wk_rng3 {K : PySem.W.Frag} {hp : Addr} {F : Hp} (lo c : Int) (n : Nat) : Wk K T hp F (Itc lo c n) (rng3 lo c n) := fun F0 H0 F' H' s' ff G => by
  have hl : (rng3 lo c n).length = n := by unfold rng3; rw [List.length_map, List.length_range]
  refine ⟨fun i hi => by rw [hl] at hi; exact hi, Nat.le_of_eq hl.symm, fun i d x H'' e y => ?_⟩
  obtain ⟨rfl, rfl⟩ := y
  unfold rng3 at e
  rw [List.getElem?_map] at e
  cases q : (List.range n)[i]? with
  | none => rw [q] at e; cases e
  | some j =>
    rw [q] at e
    cases e
    have hj := (List.getElem?_eq_some_iff.mp q).2
    rw [List.getElem_range] at hj
    rw [← hj]
    exact ⟨F', G.refl, .int _⟩
def fRng3 (fa fb fc : Rho → M D) : Rho → M (List D) := fun ρ => do
  let a ← fa ρ
  let b ← fb ρ
  let c ← fc ρ
  O.lift (dRng3 a b c)
theorem di_rng3 (hm : X.mg "range" = none) (hg : Gl X "range") (h : DB X T EX e fa) (h2 : DB X T EX e2 fb) (h3 : DB X T EX e3 fc) (he : starEach [e, e2, e3] X.env = (false, eval e X.env) :: starEach [e2, e3] X.env := by rfl) (he2 : starEach [e2, e3] X.env = (false, eval e2 X.env) :: starEach [e3] X.env := by rfl) (he3 : starEach [e3] X.env = (false, eval e3 X.env) :: starEach [] X.env := by rfl)
    (hpl : (backTo pos (starEach [e2, e3] X.env)).any (·.1) = false := by rfl) : DI X T EX tg (.Call (.Name "range" p) [e, e2, e3] [] pos) (fRng3 fa fb fc) := by
  obtain ⟨_, a1, a2⟩ := h
  obtain ⟨_, b1, b2⟩ := h2
  obtain ⟨_, c1, c2⟩ := h3
  refine ⟨_, pi_range3 hg hm (pa_cons a1 (pa_cons b1 (pa_cons c1 pa_nil he3) he2) he) he hpl, fun R q => a2 R (q.bind.mono fun a s1 k1 F1 H1 v1 g1 w1 => b2 (R.grow g1) (k1.bind.mono fun b s2 k2 F2 H2 v2 g2 w2 => c2 ((R.grow g1).grow g2) (k2.bind.mono fun c s3 k3 F3 H3 v3 g3 w3 => ?_)))⟩
  obtain ⟨ds, e1, k4⟩ := k3.lift
  unfold dRng3 at e1
  split at e1
  · split at e1
    · cases e1
      rename_i i j k hz
      rw [((w1.grow g2).grow g3).int, (w2.grow g3).int, w3.int]
      exact ⟨i, j, k, _, rfl, ⟨hz.1, hz.2.1, hz.2.2.1, (Int.toNat_of_nonneg hz.2.2.2).symm⟩, k4 F3 H3 _ ((g1.trans g2).trans g3) (wk_rng3 i k _)⟩
    · cases e1
  · cases e1
theorem rgV_rp {K : PySem.W.Frag} {F : Hp} (a b : Int) : RpAll K F (rgV a b) (rng a (b - a).toNat) := by
  have : ∀ l : List Nat, RpAll K F (l.map fun i => V.int (a + (i : Nat))) (l.map fun (i : Nat) => PyData.int (a + (i : Int))) := by
    intro l
    induction l with
    | nil => exact .nil
    | cons x l ih => exact .cons (.int _) ih
  exact this _
def dRgA (a b : Int) : Option (List D) := if -(2 ^ 62) ≤ a ∧ a < 2 ^ 62 ∧ -(2 ^ 62) ≤ b ∧ b < 2 ^ 62 ∧ (b - a).toNat ≤ 2 ^ 24 then some (rng a (b - a).toNat) else none
def dRg1 : D → Option (List D)
  | .int b => dRgA 0 b
  | _ => none
def dRg2 : D → D → Option (List D)
  | .int a, .int b => dRgA a b
  | _, _ => none
theorem dRgA_some {a b : Int} {ds : List D} (h : dRgA a b = some ds) : RgOk a b ∧ ds = rng a (b - a).toNat := by
  unfold dRgA at h
  split at h
  · cases h
    rename_i z
    exact ⟨z, rfl⟩
  · cases h
theorem dl_listRg1 (hc : X.calm = true) (hmL : X.mg "list" = none) (hm : X.mg "range" = none) (h : DB X T EX e fa) (hgL : Gl X "list" := by rfl) (hg : Gl X "range" := by rfl) (he : starEach [e] X.env = (false, eval e X.env) :: starEach [] X.env := by rfl)
    (na : starEach [.Call (.Name "range" p) [e] [] p1] X.env = (false, eval (.Call (.Name "range" p) [e] [] p1) X.env) :: starEach [] X.env := by rfl) : DL X T EX (.Call (.Name "list" p2) [.Call (.Name "range" p) [e] [] p1] [] pos) (f1L dRg1 fa) := by
  obtain ⟨_, a1, a2⟩ := h
  refine ⟨_, pe_listRg hc hgL hmL (prg_1 hg hm a1 he) na, fun R q => a2 R (q.bind.mono fun a s1 k1 F1 H1 v1 g1 w1 => ?_)⟩
  obtain ⟨ds, e1, k2⟩ := k1.lift
  cases a with
  | int b =>
    obtain ⟨ok, rfl⟩ := dRgA_some e1
    rw [w1.int]
    have R1 := R.grow g1
    exact ⟨b, rfl, ok, fun q hn => k2 F1 _ q (g1.trans (R1.g.newOwn hn)) ((g1.newL (NewL.of R1.g hn (rgV_rp 0 b))))⟩
  | _ => cases e1
theorem dl_listRg2 (hc : X.calm = true) (hmL : X.mg "list" = none) (hm : X.mg "range" = none) (h : DB X T EX e fa) (h2 : DB X T EX e2 fb) (hgL : Gl X "list" := by rfl) (hg : Gl X "range" := by rfl) (he : starEach [e, e2] X.env = (false, eval e X.env) :: starEach [e2] X.env := by rfl) (he2 : starEach [e2] X.env = (false, eval e2 X.env) :: starEach [] X.env := by rfl)
    (hpl : (backTo p1 (starEach [e2] X.env)).any (·.1) = false := by rfl)
    (na : starEach [.Call (.Name "range" p) [e, e2] [] p1] X.env = (false, eval (.Call (.Name "range" p) [e, e2] [] p1) X.env) :: starEach [] X.env := by rfl) : DL X T EX (.Call (.Name "list" p2) [.Call (.Name "range" p) [e, e2] [] p1] [] pos) (f2L dRg2 fa fb) := by
  obtain ⟨_, a1, a2⟩ := h
  obtain ⟨_, b1, b2⟩ := h2
  refine ⟨_, pe_listRg hc hgL hmL (prg_2 hg hm a1 b1 he he2 hpl) na, fun R q => a2 R (q.bind.mono fun a s1 k1 F1 H1 v1 g1 w1 => b2 (R.grow g1) (k1.bind.mono fun b s2 k2 F2 H2 v2 g2 w2 => ?_))⟩
  obtain ⟨ds, e1, k3⟩ := k2.lift
  cases a with
  | int a =>
    cases b with
    | int b =>
      obtain ⟨ok, rfl⟩ := dRgA_some e1
      rw [w1.int, w2.int]
      have R2 := (R.grow g1).grow g2
      exact ⟨a, b, rfl, rfl, ok, fun q hn => k3 F2 _ q ((g1.trans g2).trans (R2.g.newOwn hn)) (((g1.trans g2).newL (NewL.of R2.g hn (rgV_rp a b))))⟩
    | _ => cases e1
  | _ => cases e1
def dTup : List D → D := .tuple
theorem de_tupRg1 (hc : X.calm = true) (hmL : X.mg "tuple" = none) (hm : X.mg "range" = none) (h : DB X T EX e fa) (hgL : Gl X "tuple" := by rfl) (hg : Gl X "range" := by rfl) (he : starEach [e] X.env = (false, eval e X.env) :: starEach [] X.env := by rfl)
    (na : starEach [.Call (.Name "range" p) [e] [] p1] X.env = (false, eval (.Call (.Name "range" p) [e] [] p1) X.env) :: starEach [] X.env := by rfl) : DE X T EX (.Call (.Name "tuple" p2) [.Call (.Name "range" p) [e] [] p1] [] pos) (fTup (f1L dRg1 fa)) := by
  obtain ⟨_, a1, a2⟩ := h
  refine ⟨_, pe_tupRg hc hgL hmL (prg_1 hg hm a1 he) na, fun R q => a2 R (q.bind.bind.mono fun a s1 k1 F1 H1 v1 g1 w1 => ?_)⟩
  obtain ⟨ds, e1, k2⟩ := k1.lift
  cases a with
  | int b =>
    obtain ⟨ok, rfl⟩ := dRgA_some e1
    rw [w1.int]
    have R1 := R.grow g1
    refine ⟨b, rfl, ok, fun q hn => k2.ret _ _ (.ref q) (g1.trans (R1.g.new hn)) (.tup (.inl (.inl upd_same)) (RpAll.up (fun x o z => ?_) (rgV_rp (F := F1) 0 b)))⟩
    rw [upd_ne (ne_of_none (R1.g.sub _ _ z) hn)]
    exact z
  | _ => cases e1
theorem de_tupRg2 (hc : X.calm = true) (hmL : X.mg "tuple" = none) (hm : X.mg "range" = none) (h : DB X T EX e fa) (h2 : DB X T EX e2 fb) (hgL : Gl X "tuple" := by rfl) (hg : Gl X "range" := by rfl) (he : starEach [e, e2] X.env = (false, eval e X.env) :: starEach [e2] X.env := by rfl) (he2 : starEach [e2] X.env = (false, eval e2 X.env) :: starEach [] X.env := by rfl)
    (hpl : (backTo p1 (starEach [e2] X.env)).any (·.1) = false := by rfl)
    (na : starEach [.Call (.Name "range" p) [e, e2] [] p1] X.env = (false, eval (.Call (.Name "range" p) [e, e2] [] p1) X.env) :: starEach [] X.env := by rfl) : DE X T EX (.Call (.Name "tuple" p2) [.Call (.Name "range" p) [e, e2] [] p1] [] pos) (fTup (f2L dRg2 fa fb)) := by
  obtain ⟨_, a1, a2⟩ := h
  obtain ⟨_, b1, b2⟩ := h2
  refine ⟨_, pe_tupRg hc hgL hmL (prg_2 hg hm a1 b1 he he2 hpl) na, fun R q => a2 R (q.bind.bind.mono fun a s1 k1 F1 H1 v1 g1 w1 => b2 (R.grow g1) (k1.bind.mono fun b s2 k2 F2 H2 v2 g2 w2 => ?_))⟩
  obtain ⟨ds, e1, k3⟩ := k2.lift
  cases a with
  | int a =>
    cases b with
    | int b =>
      obtain ⟨ok, rfl⟩ := dRgA_some e1
      rw [w1.int, w2.int]
      have R2 := (R.grow g1).grow g2
      refine ⟨a, b, rfl, rfl, ok, fun q hn => k3.ret _ _ (.ref q) ((g1.trans g2).trans (R2.g.new hn)) (.tup (.inl (.inl upd_same)) (RpAll.up (fun x o z => ?_) (rgV_rp (F := F2) a b)))⟩
      rw [upd_ne (ne_of_none (R2.g.sub _ _ z) hn)]
      exact z
    | _ => cases e1
  | _ => cases e1
/-! ### the least, the greatest of a list or a tuple -/
def dBest (best : D → List D → D) : D → Option D
  | .list (x :: xs) => if alikeB (x :: xs) = true ∧ PyData.depthAll (x :: xs) ≤ 64 then some (best x xs) else none
  | .tuple (x :: xs) => if alikeB (x :: xs) = true ∧ PyData.depthAll (x :: xs) ≤ 64 then some (best x xs) else none
  | _ => none
theorem c_best {K : PySem.W.Frag} (best : D → List D → D) : CallP1 K (fun xs H Q => rBestD K best xs H Q ∨ rBestT K best xs H Q) (dBest best) := by
  intro T hp F0 H0 F H s v a d Q G hv e q
  match a, e with
  | .list (x :: xs), e =>
    exact .inl (c_bestL best G hv (show dBestL best (.list (x :: xs)) = some d from e) q)
  | .tuple (x :: xs), e =>
    have e' : (if alikeB (x :: xs) = true ∧ PyData.depthAll (x :: xs) ≤ 64 then some (best x xs) else none) = some d := e
    split at e'
    · rename_i hz
      cases e'
      obtain ⟨p1, vs1, rfl, h1, r1⟩ := hv.tuple
      refine .inr ⟨p1, vs1, x, xs, rfl, St.up G.sub h1, (RpAll.up G.sub r1).dp (nd_all_alike (alikeB_all hz.1)), alikeB_all hz.1, hz.2, fun i v hv hb => ?_⟩
      obtain ⟨v2, h2, r2⟩ := r1.at hb
      rw [hv] at h2
      cases h2
      exact q F H v G.refl r2
    · cases e'
theorem e_minA {k : Nat} (hc : X.calm = true) (hr : Room k X.A) (hm : X.mg "min" = none) (ha : DB X T EX e fa) (hg : Gl X "min" := by rfl) (he : starEach [e] X.env = (false, eval e X.env) :: starEach [] X.env := by rfl) : DE X T EX (.Call (.Name "min" p) [e] [] pos) (f1 (dBest PySem.W.minD) fa) :=
  de_b1 ((cr_minD hc (hu65 hr)).or (cr_minT hc (hu65 hr))) (c_best _) boot_min (by decide) (by decide) hg hm ha he
theorem e_maxA {k : Nat} (hc : X.calm = true) (hr : Room k X.A) (hm : X.mg "max" = none) (ha : DB X T EX e fa) (hg : Gl X "max" := by rfl) (he : starEach [e] X.env = (false, eval e X.env) :: starEach [] X.env := by rfl) : DE X T EX (.Call (.Name "max" p) [e] [] pos) (f1 (dBest PySem.W.maxD) fa) :=
  de_b1 ((cr_maxD hc (hu65 hr)).or (cr_maxT hc (hu65 hr))) (c_best _) boot_max (by decide) (by decide) hg hm ha he
theorem e_repr {k : Nat} (gd : X.A.guards = some []) (hr : Room k X.A) (hm : X.mg "repr" = none) (ha : DB X T EX e fa) (hg : Gl X "repr" := by rfl) (he : starEach [e] X.env = (false, eval e X.env) :: starEach [] X.env := by rfl) : DE X T EX (.Call (.Name "repr" p) [e] [] pos) (f1 dRepr fa) :=
  de_b1 (cr_reprD gd (hu66 hr)) c_repr boot_repr (by decide) (by decide) hg hm ha he
theorem l_sorted {k : Nat} (hr : Room k X.A) (hm : X.mg "sorted" = none) (ha : DB X T EX e fa) (hg : Gl X "sorted" := by rfl) (he : starEach [e] X.env = (false, eval e X.env) :: starEach [] X.env := by rfl) : DL X T EX (.Call (.Name "sorted" p) [e] [] pos) (f1L dSortedL fa) :=
  dl_b1 (cr_sortedD (hu66 hr)) c_sortedL boot_sorted (by decide) (by decide) hg hm ha he
/-! ### shifts, bits -/
def dShl : D → D → Option D
  | .int a, .int b => if 0 ≤ b ∧ b ≤ 1000000 ∧ a.natAbs < 2 ^ 64 then some (.int (a * 2 ^ b.toNat)) else none
  | _, _ => none
def dShr : D → D → Option D
  | .int a, .int b => if 0 ≤ b then some (.int (a / 2 ^ b.toNat)) else none
  | _, _ => none
def dAnd : D → D → Option D
  | .int a, .int b => some (.int (Builtin.bitAnd a b))
  | _, _ => none
theorem p_shl {K : PySem.W.Frag} : OpP K (rI CPow fun i j => .int (i * 2 ^ j.toNat)) dShl := p_int (C := CPow) (g := fun i j => .int (i * 2 ^ j.toNat)) (fun a b d e => by
  unfold dShl at e
  split at e
  · split at e
    · rename_i hz
      cases e
      exact ⟨_, _, rfl, rfl, hz, rfl⟩
    · cases e
  · cases e) fun i j H Q hc q => ⟨i, j, rfl, rfl, hc, q _ (.int _)⟩
theorem p_shr {K : PySem.W.Frag} : OpP K (rI (fun _ j => 0 ≤ j) fun i j => .int (i / 2 ^ j.toNat)) dShr := p_int (C := fun _ j => 0 ≤ j) (g := fun i j => .int (i / 2 ^ j.toNat)) (fun a b d e => by
  unfold dShr at e
  split at e
  · split at e
    · rename_i hz
      cases e
      exact ⟨_, _, rfl, rfl, hz, rfl⟩
    · cases e
  · cases e) fun i j H Q hc q => ⟨i, j, rfl, rfl, hc, q _ (.int _)⟩
theorem de_shl (ha : DB X T EX e fa) (hb : DB X T EX e2 fb) : DE X T EX (.BinOp e .LShift e2 pos) (f2 dShl fa fb) := de_op op_shl p_shl ha hb
theorem de_shr (ha : DB X T EX e fa) (hb : DB X T EX e2 fb) : DE X T EX (.BinOp e .RShift e2 pos) (f2 dShr fa fb) := de_op op_shr p_shr ha hb
end
end Jw
/-! The drawing object made (any of the laws'), and the law over it, where no guard stands. -/
namespace Jw
open PySem PySem.Spec PyProof.Rows L2
/-- what a cell's reckoning gives -/
def EltOk (tE : TE) (fc : Int → Int) : Prop := ∀ (σ : L2.St) (H : Hp) (Q : VK) (n : Int), σ[2]? = some (some (V.int n)) → Q (.int (fc n)) H → tE σ H Q
def spH (K : PySem.W.Frag) (T : List (Addr × Str)) (fc : Int → Int) (c0 c1 : Int) : Sp := fun vs H Q _ => ∃ (a : Addr) (ns : List Int), vs = [.ref a] ∧ SqL K H a (ns.map V.int) ∧ ns.length ≤ 63 ∧ LamX.Tabs T H ∧
  ∀ (H' : Hp) (c hp : Addr), LamX.Tabs T H' → c ≠ hp → H' c = some (.lst ((ns.map fc).map V.int)) → H' hp = some (.lst [.ref c, .int 0, .int 0, .int (c0 + c1 * (ns.length : Int)), .int 0]) → Q (.ref hp) H'
def tHd (K : PySem.W.Frag) (tE : TE) (c0 c1 : Int) : TS :=
  tSeq (tAsg (tLc (iSeqD K (tSl (rSlD K) (tVar 0) tNoPart (tPart (tC (.int 63))))) (gName 2) tYes tE [2]) (gName 1))
    (tRet (tLst (tCons (tVar 1) (tCons (tC (.int 0)) (tCons (tC (.int 0)) (tCons (tOp (rI0 fun i j => .int (i + j)) (tC (.int c0)) (tOp (rI CMulX fun i j => .int (i * j)) (tC (.int c1)) (tCB (rLenJ K) (tCons (tVar 1) tNil)))) (tCons (tC (.int 0)) tNil)))))))
theorem hd_run {K : PySem.W.Frag} {T : List (Addr × Str)} {tE : TE} {fc : Int → Int} {c0 c1 : Int} {D : Ends} {H : Hp} {vs : List V} {E : XK} (hE : EltOk tE fc) (h1 : c1.natAbs < 1000000) (h : spH K T fc c0 c1 vs H D.rt E) : tHd K tE c0 c1 D (L2.start ["script", "cells", "cell"] vs) H := by
  obtain ⟨a, ns, rfl, hs, hl, ht, q⟩ := h
  show tHd K tE c0 c1 D [some (V.ref a), none, none] H
  have cutAll : cutV (ns.map V.int) none (some 63) = ns.map V.int := by
    have e1 : HT.sIx (ns.map V.int).length (ns.map V.int).length (some 63) = (ns.map V.int).length := by
      rw [show (63 : Int) = ((63 : Nat) : Int) from rfl, HT.sIx_nat, List.length_map]
      omega
    unfold cutV
    rw [e1, HT.sIx_none, List.drop_zero, Nat.sub_zero, List.take_length]
  refine ⟨.ref a, rfl, 63, rfl, .inl ⟨a, ns.map V.int, rfl, hs, fun l hn => ?_⟩⟩
  rw [cutAll]
  refine ⟨l, rfl, .inl ⟨⟨_, .inl (.inl upd_same)⟩, fun Dd hD => ?_⟩⟩
  have nl : l ≠ Dd := fun z => by rw [z, upd_same] at hD; cases hD
  let done : Nat → Hp → Prop := fun i Hi => Hi l = some (.lst (ns.map V.int)) ∧ Hi Dd = some (.lst ((ns.take i).map fun z => V.int (fc z))) ∧ LamX.Tabs T Hi
  refine ⟨fun i m Hi => m = ns.length - i ∧ i ≤ ns.length ∧ done i Hi, ⟨ns.length, rfl, Nat.zero_le _, by rw [upd_ne nl, upd_same], upd_same, Tabs.upd hD (Tabs.upd hn ht)⟩, ?_⟩
  rintro i m Hi ⟨rfl, hi, hL, hD2, ht2⟩
  by_cases hlt : i < ns.length
  · have here : (ns.map V.int)[i]? = some (V.int ns[i]) := by rw [List.getElem?_map, List.getElem?_eq_getElem hlt]; rfl
    refine .inr ⟨⟨_, _, .inl (.inl hL), here⟩, done (i + 1), fun H' h => ⟨_, by omega, rfl, hlt, h⟩, ?_⟩
    rintro x H' ⟨rfl, hx⟩
    have hx2 := hx _ (.inl (.inl hL))
    rw [here] at hx2
    cases hx2
    refine ⟨rfl, ?_⟩
    unfold tYes
    dsimp only
    rw [if_pos rfl]
    refine hE _ _ _ ns[i] rfl ⟨_, hD2, ?_, by rw [upd_ne nl]; exact hL, ?_, tabs_updL hD2 ht2⟩
    · rw [List.length_map, List.length_take, sizeLine_eq]
      omega
    · rw [upd_same, List.take_succ, List.getElem?_eq_getElem hlt, List.map_append]
      rfl
  · obtain rfl : i = ns.length := by omega
    refine .inl ⟨⟨_, .inl (.inl hL), by rw [List.length_map]; exact Nat.le_refl _⟩, ?_⟩
    rw [List.take_length] at hD2
    have hC : Hi Dd = some (.lst ((ns.map fc).map V.int)) := by
      rw [hD2, List.map_map]
      rfl
    have hlen : (((ns.map fc).map V.int).length : Int) = (ns.length : Int) := by rw [List.length_map, List.length_map]
    refine ⟨V.ref Dd, rfl, V.ref Dd, rfl, V.ref Dd, ((ns.map fc).map V.int).length, rfl, .inl ⟨_, .inl (.inl hC), rfl⟩, c1, _, rfl, rfl, ?_, c0, _, rfl, rfl, by rw [sizeLine_eq]; exact (by decide : (5 : Nat) ≤ 16777216), fun p hn => ?_⟩
    · rw [hlen]
      refine mulX_of ?_
      have h7 : c1.natAbs.log2 ≤ c1.natAbs := Nat.log2_le_self _
      have h8 : (ns.length : Int).natAbs.log2 ≤ ns.length := by
        rw [Int.natAbs_natCast]
        exact Nat.log2_le_self _
      omega
    · rw [hlen]
      have ne : Dd ≠ p := fun z => by rw [← z, hC] at hn; cases hn
      exact q _ Dd p (Tabs.upd hn ht2) ne (by rw [upd_ne ne]; exact hC) upd_same
/-- abs(int(cell)) -/
def tEa : TE := tCB rAbsI (tCons (tCB rIntI (tCons (tVar 2) tNil)) tNil)
theorem tEa_ok : EltOk tEa absI := fun σ H Q n h q => ⟨V.int n, h, .inl ⟨_, rfl, ⟨_, rfl, q⟩⟩⟩
/-- int(abs(int(cell))) % 10 ** N -/
def tEm (N : Int) : TE := tOp (rI (fun _ j => j ≠ 0) fun i j => .int (i.fmod j)) (tCB rIntI (tCons (tCB rAbsI (tCons (tCB rIntI (tCons (tVar 2) tNil)) tNil)) tNil)) (tOp (rI CPow fun i j => .int (i ^ j.toNat)) (tC (.int 10)) (tC (.int N)))
def fcM (N : Int) (n : Int) : Int := (absI n).fmod ((10 : Int) ^ N.toNat)
theorem tEm_ok {N : Int} (h0 : 0 ≤ N) (h1 : N ≤ 1000000) : EltOk (tEm N) (fcM N) := fun σ H Q n h q => by
  refine ⟨V.int n, h, .inl ⟨_, rfl, ⟨n, rfl, .inl ⟨_, rfl, 10, N, rfl, rfl, ⟨h0, h1, by decide⟩, absI n, _, rfl, rfl, ?_, q⟩⟩⟩⟩
  exact Int.ne_of_gt (Int.pow_pos (by decide))
theorem hd_ok {T : List (Addr × Str)} {P : Program} {w : World} {K : PySem.W.Frag} {mg : Str → Option Value} {base : Heap} {x : Str} {st : Stmt} {f : Addr} {fd : FuncData} {k : Nat} {tE : TE} {fc : Int → Int} {c0 c1 : Int} (hE : EltOk tE fc) (h1 : c1.natAbs < 1000000) (Fu : L2.Fun K x x st f fd) (S : FnScope ["script", "cells", "cell"] ["script"] (defScope st))
    (body : ∀ (cdv : Value) (A : Around) (outer : List Env) (s : Shared) (H : Hp) (E : XK), Room k (A.deeper (envOfC x (defScope st) s.heap.objs.size f cdv)) → PSs (cxOf L2.CX0 P w K mg base ["script", "cells", "cell"] x (defScope st) f cdv A outer s H E).nox (defBody st) (tHd K tE c0 c1)) :
    FnOk P w K mg base L2.CX0 (k + 1) f fd ["script"] (spH K T fc c0 c1) :=
  Fu.ok S (fun vs H Q E h => by obtain ⟨a, ns, rfl, _⟩ := h; rfl) fun cdv A outer s H vs Q E hr h => ⟨_, body cdv A outer s H E hr, hd_run (D := { nx := fun _ H' => Q .non H', rt := Q }) hE h1 h⟩
structure CalH2 (P : Program) (w : World) (K : PySem.W.Frag) (T : List (Addr × Str)) (mg : Str → Option Value) (base : Heap) (k : Nat) (x : Str) (fc : Int → Int) (c0 c1 : Int) : Prop where
  ex : ∃ (f : Addr) (fd : FuncData) (ps : List Str), FnOk P w K mg base L2.CX0 k f fd ps (spH K T fc c0 c1) ∧ mg x = some (.ref f) ∧ PySem.W.keepIn K (.ref f) = true ∧ Binds K fd ps []
theorem CalH2.mono {P : Program} {w : World} {K : PySem.W.Frag} {T : List (Addr × Str)} {mg : Str → Option Value} {base : Heap} {j k : Nat} {x : Str} {fc : Int → Int} {c0 c1 : Int} (c : CalH2 P w K T mg base j x fc c0 c1) (h : j ≤ k) : CalH2 P w K T mg base k x fc c0 c1 :=
  let ⟨f, fd, ps, h1, h2⟩ := c.ex; ⟨f, fd, ps, h1.mono h, h2⟩
/-! ### the law itself -/
def spL (K : PySem.W.Frag) (T : List (Addr × Str)) (fc : Int → Int) (c0 c1 : Int) (m : Nat) (fb : Rho → M Ctl) : Sp := fun vs H Q _ => ∃ (a : Addr) (ns : List Int), vs = [.ref a] ∧ SqL K H a (ns.map V.int) ∧ ns.length ≤ 63 ∧ LamX.Tabs T H ∧
  Post (fDef m fb [.un, .hand] ⟨ns.map fc, 0, 0, c0 + c1 * (ns.length : Int), 0⟩) (fun d _ => d = .bool true) (fun _ _ => False) ∧ ∀ H', Q (.bl true) H'
section
variable {P : Program} {w : World} {K : PySem.W.Frag} {mg : Str → Option Value} {base : Heap}
theorem law_okG {T : List (Addr × Str)} {x xh : Str} {st s1 : Stmt} {rest : List Stmt} {p0 p1 p2 : Pos} {f : Addr} {fd : FuncData} {N : List Str} {k m : Nat} {fc : Int → Int} {c0 c1 : Int} {fb : Rho → M Ctl} (Fu : L2.Fun K x x st f fd) (S : FnScope N ["script"] (defScope st)) (hm : N.length = 2 + m)
    (c : CalH2 P w K T mg base k xh fc c0 c1) (hb : defBody st = s1 :: rest)
    (first : ∀ (cdv : Value) (A : Around) (outer : List Env) (s : Shared) (H : Hp) (E : XK) (te : TE), PE (cxOf L2.CX0 P w K mg base N x (defScope st) f cdv A outer s H E).nox (.Call (.Name xh p0) [.Name "script" p1] [] p2) te →
      PS (cxOf L2.CX0 P w K mg base N x (defScope st) f cdv A outer s H E).nox s1 (tAsg te (gName 1)))
    (call : ∀ (cdv : Value) (A : Around) (outer : List Env) (s : Shared) (H : Hp) (E : XK) (f' : Addr) (fd' : FuncData) (ps' : List Str), Room k (A.deeper (envOfC x (defScope st) s.heap.objs.size f cdv)) → FnOk P w K mg base L2.CX0 k f' fd' ps' (spH K T fc c0 c1) → mg xh = some (.ref f') → PySem.W.keepIn K (.ref f') = true → Binds K fd' ps' [] →
      PE (cxOf L2.CX0 P w K mg base N x (defScope st) f cdv A outer s H E).nox (.Call (.Name xh p0) [.Name "script" p1] [] p2) (tCall (spH K T fc c0 c1) [] E0 (tCons (tVar 0) tNil)))
    (body : ∀ (cdv : Value) (A : Around) (outer : List Env) (s : Shared) (H : Hp) (E : XK), A.guards = some [] → Room k (A.deeper (envOfC x (defScope st) s.heap.objs.size f cdv)) → DSs (cxOf L2.CX0 P w K mg base N x (defScope st) f cdv A outer s H E).nox T noEX rest fb) :
    FnG P w K mg base (k + 1) f fd ["script"] (spL K T fc c0 c1 m fb) := by
  obtain ⟨f', fd', ps', c1', c2, c3, c4⟩ := c.ex
  refine fnG_of Fu S (fun vs H Q E h => by obtain ⟨a, ns, rfl, _⟩ := h; rfl) fun cdv A outer s H vs Q E gd hr h => ?_
  obtain ⟨t, b1, b2⟩ := body cdv A outer s H E gd hr
  rw [hb]
  refine ⟨_, (pss_cons (first cdv A outer s H E _ (call cdv A outer s H E f' fd' ps' hr c1' c2 c3 c4)) b1).nox, ?_⟩
  obtain ⟨a, ns, rfl, hs, hl, ht, hp, hq⟩ := h
  have e0 : L2.start N [V.ref a] = some (V.ref a) :: none :: List.replicate m none := by
    unfold L2.start
    rw [List.map_cons, List.map_nil, List.length_singleton, show N.length - 1 = m + 1 by omega, List.replicate_succ]
    rfl
  rw [e0]
  refine ⟨.ref a, rfl, a, ns, rfl, hs, hl, ht, fun H' c hpA ht2 ne hc hh => ?_⟩
  have nF : upd (fun _ => none) c (HO.lst ((ns.map fc).map V.int)) hpA = none := by rw [upd_ne ne.symm]
  have only : ∀ {b : Addr} {o : HO}, upd (fun _ => none) c (HO.lst ((ns.map fc).map V.int)) b = some o → b = c ∧ o = .lst ((ns.map fc).map V.int) := by
    intro b o z
    by_cases q : b = c
    · rw [q, upd_same] at z
      exact ⟨q, (Option.some.inj z).symm⟩
    · rw [upd_ne q] at z
      cases z
  have rest' : ∀ {i : Nat} {x : Sl}, (List.replicate m Sl.un)[i]? = some x → x = .un := by
    intro i x e
    rw [List.getElem?_replicate] at e
    split at e <;> cases e
    rfl
  refine b2 (hp := hpA) (F0 := upd (fun _ => none) c (.lst ((ns.map fc).map V.int))) (H0 := H') (F := upd (fun _ => none) c (.lst ((ns.map fc).map V.int))) (ρ := [.un, .hand] ++ List.replicate m .un) (s := ⟨ns.map fc, 0, 0, c0 + c1 * (ns.length : Int), 0⟩) ?_ ?_
  · refine ⟨⟨fun _ _ z => z, fun _ _ z => .inl z, fun _ _ z _ => z, fun x o z => ?_, ht2, ⟨c, nF, hh, upd_same⟩, fun x ps z => ?_⟩, fun i x e => ?_, fun i j xs ys e1 e2 n => ?_, by simp⟩
    · obtain ⟨rfl, rfl⟩ := only z
      exact hc
    · cases (only z).2
    · match i, e with
      | 0, e => cases e; trivial
      | 1, e => cases e; rfl
      | i + 2, e => cases rest' (i := i) e; trivial
    · match i, e1 with
      | 0, e1 => cases e1
      | 1, e1 => cases e1
      | i + 2, e1 => cases rest' (i := i) e1
  · refine Post.imp (Post.bind hp) (fun c2 s2 k2 => ?_) fun c2 s2 z => z.elim
    match c2, k2 with
    | .nx ρ, k2 => cases (show (PyData.none : D) = .bool true from Post.ret k2)
    | .rt d, k2 =>
      intro F' H2 v g r
      cases (show d = .bool true from Post.ret k2)
      cases r
      exact hq H2
end
end Jw
/-! More forms of the def that tells the word of an error. -/
namespace Jw
open PySem PySem.Spec PyProof.Rows L2
/-! ### clauses that return words -/
/-- except C1: return w1 .. -/
inductive Hnds (mg : Str → Option Value) (sg : Scope) : List ExceptHandler → List (Addr × Str) → Prop
  | nil : Hnds mg sg [] []
  | cons (x : Str) (C : Addr) (w : Str) (p1 p2 p3 p4 : Pos) (j : Nat) {hs : List ExceptHandler} {ls : List (Addr × Str)} : mg x = some (.ref C) → sg.names.lookup x = some .globalImplicit → (x == ("__debug__" : Str)) = false → Hnds mg sg hs ls →
      Hnds mg sg (.ExceptHandler (some (.Name x p1)) none [.Return (some (.Constant (.str w) j p2)) p3] p4 :: hs) ((C, w) :: ls)
/-- the word of the first clause that takes the class -/
def firstW (K : PySem.W.Frag) (cls : Value) : List (Addr × Str) → Option Str
  | [] => none
  | (C, w) :: r => match PySem.W.exmOne K cls (.ref C) with
    | some true => some w
    | some false => firstW K cls r
    | none => none
structure WdsC (K : PySem.W.Frag) (κ : String → Addr) (ls : List (Addr × Str)) (ks : List (String × Str)) : Prop where
  each : ∀ p ∈ ks, firstW K (.ref (κ p.1)) ls = some p.2
def tW (w : Str) : Addr → Value → Option Addr → TS := fun _ _ _ => tRet (tC (.str w))
theorem hnds_ok {X Y : Cx} {hs : List ExceptHandler} {ls : List (Addr × Str)} {sg : Scope} (h : Hnds X.mg sg hs ls) (hsg : X.env.scope = sg) (g : ∀ x, sg.names.lookup x = some .globalImplicit → Gl X x) : HdsOk X hs (ls.map fun z => (Value.ref z.1, tW z.2)) := by
  induction h with
  | nil => exact .nil
  | cons x C w p1 p2 p3 p4 j hm hg hd _ ih => exact .cons ⟨g x hg, hd, .inl hm⟩ (fun a oe cls d pn _ _ => pss_one (ps_ret pe_str)) ih
theorem many_first {K : PySem.W.Frag} {cls : Value} {d : Option Addr} {σ : L2.St} {H : Hp} {D : Ends} {w : Str} : ∀ {ls : List (Addr × Str)}, firstW K cls ls = some w → (∀ a, H a = none → D.rt (.str w) H) → wMany K (fun _ _ _ _ => False) D (ls.map fun z => (Value.ref z.1, tW z.2)) cls d σ H
  | [], h, _ => by cases h
  | (C, w') :: r, h, q => by
    unfold firstW at h
    cases e : PySem.W.exmOne K cls (.ref C) with
    | none => rw [e] at h; cases h
    | some b =>
      rw [e] at h
      cases b with
      | true =>
        cases h
        exact ⟨true, e, fun _ a hn => q a hn, fun z => nomatch z⟩
      | false => exact ⟨false, e, (fun z => nomatch z), fun _ => many_first h q⟩
theorem word_givesC {X : Cx} {Ng : List Str} {x a : Str} {q told : Str} {sg : Scope} {g : Addr} {cdg : Value} {hs : List ExceptHandler} {h0 : ExceptHandler} {ls : List (Addr × Str)} {κ : String → Addr} {ks : List (String × Str)} {j5 : Nat} {p1 p2 p3 p24 p25 p26 : Pos} (hNg : Ng = [a])
    (hh : Hnds X.mg sg (h0 :: hs) ls) (W : WdsC X.K κ ls ks) :
    LamX.GivesTo X Ng x sg g cdg [.Try [.Expr (.Call (.Name a p1) [] [] p2) p3] (h0 :: hs) [] [] p24, .Return (some (.Constant (.str told) j5 p25)) p26] a q (TTword κ ks told) := by
  subst hNg
  intro f c' s H Q tl act hc h
  refine ⟨_, pss_cons (ps_try_many (X := (cxOf C8.CX0 X.prog X.w X.K X.mg X.base [a] x sg g cdg X.A X.stack s H C8.E0).nox)
      (tb := fun W D σ H => ∃ Ech : XK, (∀ cls d (σ' : L2.St) H', Ech cls d H' → W cls d σ' H') ∧ σ[0]? = some (some (.ref f)) ∧ H c' = some (LamX.CodeO c' q) ∧ tl Ech H (fun _ H' => D.nx σ H')) (Wout := fun _ _ _ _ => False)
      rfl rfl LamX.takes0 (fun W pn xe tk _ => ?_) (hnds_ok (Y := X) hh rfl fun x hx => hx)) (pss_one (ps_ret pe_str)), ?_⟩
  · refine ⟨fun pins s' σ H' D I h' => ?_⟩
    obtain ⟨Ech, hW, h1, h2, h3⟩ := h'
    have hp := act _ pn xe Ech p1 p2 tk fun cls d σ' H' he => hW cls d σ' H' he
    exact (pss_one (ps_expr (pos := p3) hp)).run pins s' σ H' D I ⟨h1, h2, h3⟩
  · refine ⟨_, ?_, rfl, hc, h⟩
    rintro cls d σ' H' ⟨p, hp, rfl, rfl, hq⟩
    exact many_first (W.each p hp) fun _ _ => hq H' fun _ _ z => z
/-! ### found = ..; try: .. except X as error: flags = [..]; found = ..; return found -/
def tPick (K : PySem.W.Frag) (ifl : Nat) (ws : List Str) (other : Str) : TE := tIf (tTest (tOp rEq (tBM K "list" (rCountL K) (tVar ifl) (tCons (tC (.bl true)) tNil)) (tC (.int 1)))) (tOp (rIx K) (tLst (tStrs ws)) (tBM K "list" (rIndex K) (tVar ifl) (tCons (tC (.bl true)) tNil))) (tC (.str other))
theorem pick_run {K : PySem.W.Frag} {p : Addr} {ifl : Nat} {bs : List Bool} {ws : List Str} {other w : Str} {σ : L2.St} {H : Hp} {Q : VK} (h2 : σ[ifl]? = some (some (.ref p))) (hp : H p = some (.lst (bs.map V.bl))) (hw : ws.length ≤ 1000) (pk : pickW bs ws other = some w)
    (q : ∀ H'', (∀ b o, H b = some o → H'' b = some o) → Q (.str w) H'') : tPick K ifl ws other σ H Q := by
  have hL : SqL K H p (bs.map V.bl) := .inl (.inl hp)
  refine ⟨.ref p, h2, .inl ⟨rfl, _, hL⟩, p, _, .bl true, rfl, rfl, hL, rfl, flat_bls bs, rfl, _, rfl, ?_⟩
  rw [count_bls]
  unfold pickW at pk
  by_cases hc : bs.countP id = 1
  · rw [if_pos hc] at pk
    rw [hc, if_pos (by rfl)]
    refine strs_run ⟨by rw [List.length_map, sizeLine_eq]; omega, fun p2 hn2 => ?_⟩
    have np : p ≠ p2 := fun z => by rw [← z, hp] at hn2; cases hn2
    have hL2 : SqL K (upd H p2 (.lst (ws.map V.str))) p (bs.map V.bl) := .inl (.inl (by rw [upd_ne np]; exact hp))
    have hlt : bs.findIdx id < bs.length := List.findIdx_lt_length_of_exists (List.countP_pos_iff.mp (by omega))
    have hj : bs[bs.findIdx id]? = some true := by
      rw [List.getElem?_eq_getElem hlt]
      exact congrArg some (List.findIdx_getElem (p := id) (w := hlt))
    refine ⟨.ref p, h2, .inl ⟨rfl, _, hL2⟩, p, _, .bl true, bs.findIdx id, .bl true, rfl, rfl, hL2, rfl, flat_bls bs, by rw [List.getElem?_map, hj]; rfl, rfl, fun m z' hm hz => ?_, .inl ⟨p2, _, _, .str w, rfl, rfl, .inl (.inl upd_same), ?_, ?_⟩⟩
    · rw [List.getElem?_map] at hz
      cases e : bs[m]? with
      | none => rw [e] at hz; cases hz
      | some b =>
        rw [e] at hz
        cases hz
        have hn3 := List.not_of_lt_findIdx hm
        obtain ⟨hb, e2⟩ := List.getElem?_eq_some_iff.mp e
        cases b with
        | false => rfl
        | true => simp [e2] at hn3
    · rw [atI_nat]
      rw [List.getElem?_map, pk]
      rfl
    · refine q _ fun b o e => ?_
      rw [upd_ne (ne_of_none e hn2)]
      exact e
  · rw [if_neg hc] at pk
    cases pk
    rw [if_neg (fun z => by
      have z3 := V.int.inj (of_decide_eq_true z)
      omega)]
    exact q _ fun _ _ z => z
def tSuiteB (K : PySem.W.Frag) (a C : Addr) (Ds : List Addr) (ws : List Str) (other : Str) : TS :=
  tSeq (tAsg (tLst (tIsF K a C 2 Ds)) (gName 3)) (tAsg (tPick K 3 ws other) (gName 1))
theorem suiteB_run {K : PySem.W.Frag} {a C : Addr} {Ds : List Addr} {bs : List Bool} {ws : List Str} {other w : Str} {σ : L2.St} {H : Hp} {D : Ends} (hσ : σ[2]? = some (some (.ref a))) (hl : 3 < σ.length) (h : Paired (fun D b => PySem.W.kitOne K (.ref C) (.ref D) = some b) Ds bs) (hs : Ds.length ≤ 1000) (hw : ws.length ≤ 1000)
    (hp : pickW bs ws other = some w) (q : ∀ σ' H'', σ'.length = σ.length → σ'[1]? = some (some (.str w)) → (∀ b o, H b = some o → H'' b = some o) → D.nx σ' H'') : tSuiteB K a C Ds ws other D σ H := by
  refine isF_run hσ h ⟨?_, fun p hn => ?_⟩
  · rw [List.length_map, ← paired_len h, sizeLine_eq]
    omega
  · refine pick_run (p := p) (bs := bs) (List.getElem?_set_self hl) upd_same hw hp fun H'' e => ?_
    refine q _ H'' (by rw [List.length_set, List.length_set]) (List.getElem?_set_self (by rw [List.length_set]; omega)) fun b o z => e b o ?_
    rw [upd_ne (ne_of_none z hn)]
    exact z
theorem word_givesB {X : Cx} {Ng : List Str} {x a fo er fl Jn : Str} {q told other : Str} {sg : Scope} {g J : Addr} {cdg : Value} {es ss : List Expr} {Ds : List Addr} {ws : List Str} {κ : String → Addr} {ks : List (String × Str)} {j1 j2 j3 j4 j5 : Nat}
    {p1 p2 p3 p4 p5 p6 p7 p8 p9 p10 p11 p12 p13 p14 p15 p16 p17 p18 p19 p20 p21 p22 p23 p24 p25 p26 p27 p28 p29 p30 : Pos} (hNg : Ng = [a, fo, er, fl]) (nd : Ng.Nodup) (hgJ : sg.names.lookup Jn = some .globalImplicit) (hmJ : X.mg Jn = some (.ref J)) (hdJ : (Jn == ("__debug__" : Str)) = false)
    (hlo : sg.names.lookup fo = some .local) (hle : sg.names.lookup er = some .local) (hlf : sg.names.lookup fl = some .local) (hde : (er == ("__debug__" : Str)) = false) (hce : (er == ("__classdict__" : Str)) = false) (hdf : (fl == ("__debug__" : Str)) = false) (hcf : (fl == ("__classdict__" : Str)) = false) (hdo : (fo == ("__debug__" : Str)) = false) (hco : (fo == ("__classdict__" : Str)) = false)
    (hgi : sg.names.lookup ("isinstance" : Str) = some .globalImplicit) (hmi : X.mg "isinstance" = none) (hes : IsEs X.mg sg er es Ds) (hss : StrEs ss ws)
    (hsw : ∀ env : Env, swapsWith (.List es p5) (some (.Name fl p6)) p7.line env = pure false) (hbc : ∀ env : Env, attributeBase (.Name fl p8) "count" env (eval (.Name fl p8) env) = eval (.Name fl p8) env) (hbi : ∀ env : Env, attributeBase (.Name fl p13) "index" env (eval (.Name fl p13) env) = eval (.Name fl p13) env)
    (hsw2 : ∀ env : Env, swapsWith (.IfExp (.Compare (.Call (.Attribute (.Name fl p8) "count" p9) [.Constant (.bool true) j1 p10] [] p11) [.Eq] [.Constant (.int 1) j2 p12] p17) (.Subscript (.List ss p18) (.Call (.Attribute (.Name fl p13) "index" p14) [.Constant (.bool true) j3 p15] [] p16) p19) (.Constant (.str other) j4 p20) p21) (some (.Name fo p27)) p22.line env = pure false)
    (hlc : (p9.endLine == p11.line) = true) (hli : (p14.endLine == p16.line) = true) (W : Wds X.K κ J Ds ws other ks) (hpl : PlainIx (.Call (.Attribute (.Name fl p13) "index" p14) [.Constant (.bool true) j3 p15] [] p16)) :
    LamX.GivesTo X Ng x sg g cdg [.Assign [.Name fo p25] (.Constant (.str told) j5 p26) p28, .Try [.Expr (.Call (.Name a p1) [] [] p2) p3] [.ExceptHandler (some (.Name Jn p4)) (some er)
      [.Assign [.Name fl p6] (.List es p5) p7,
       .Assign [.Name fo p27] (.IfExp (.Compare (.Call (.Attribute (.Name fl p8) "count" p9) [.Constant (.bool true) j1 p10] [] p11) [.Eq] [.Constant (.int 1) j2 p12] p17) (.Subscript (.List ss p18) (.Call (.Attribute (.Name fl p13) "index" p14) [.Constant (.bool true) j3 p15] [] p16) p19) (.Constant (.str other) j4 p20) p21) p22] p23] [] [] p24,
      .Return (some (.Name fo p29)) p30] a q (TTword κ ks told) := by
  subst hNg
  intro f c' s H Q tl act hc h
  have hgl : Gl (cxOf C8.CX0 X.prog X.w X.K X.mg X.base [a, fo, er, fl] x sg g cdg X.A X.stack s H C8.E0).nox Jn := hgJ
  refine ⟨_, pss_cons (ps_set (i := 1) nd rfl (.inl hlo) pe_str rfl (.inr hlo)) (pss_cons (ps_try_as (X := (cxOf C8.CX0 X.prog X.w X.K X.mg X.base [a, fo, er, fl] x sg g cdg X.A X.stack s H C8.E0).nox) (c := .ref J) (i := 2)
      (tb := fun W D σ H => ∃ Ech : XK, (∀ cls d (σ' : L2.St) H', σ'.length = 4 → Ech cls d H' → W cls d σ' H') ∧ σ[0]? = some (some (.ref f)) ∧ H c' = some (LamX.CodeO c' q) ∧ ∃ P : Hp → Prop, tl Ech H (fun _ H' => P H') ∧ ∀ H', P H' → D.nx σ H')
      (ts := fun aE cls d D σ H => ∃ C, (cls = .ref C ∧ d = none ∧ KcE X.K C) ∧ tSuiteB X.K aE C Ds ws other D σ H) (Wout := fun _ _ _ _ => False)
      rfl rfl nd rfl hle ⟨hgl, hdJ, .inl hmJ⟩ LamX.takes0 (fun W pn xe tk _ => ?_) (fun aE oe cls d pn hz hdt => ?_)) (pss_one (ps_ret (pe_var (i := 1) rfl (.inl hlo) hdo hco)))), ?_⟩
  · refine pss_one ⟨fun pins s' σ H' D I h' => ?_⟩
    obtain ⟨Ech, hW, h1, h2, P, h3, hP⟩ := h'
    have hp := act _ pn xe Ech p1 p2 (takes_len tk) fun cls d σ' H' he hl => hW cls d σ' H' hl he
    exact wpAny_Expr_any (thn (hp.run pins s' σ H' (fun _ H1 => P H1) I ⟨h1, h2, h3⟩) fun v s1 ⟨x, H1, I1, r1, q1⟩ => ⟨σ, H1, I1, hP H1 q1⟩) I.quiet rfl
  · refine pss_ex fun C hC => ?_
    obtain ⟨rfl, rfl, hk⟩ := hC
    refine pss_cons (ps_set (i := 3) nd rfl (.inl hlf) (pe_lst (pa_isE (X := L2.Cx.suite (cxOf C8.CX0 X.prog X.w X.K X.mg X.base [a, fo, er, fl] x sg g cdg X.A X.stack s H C8.E0).nox aE ((aE, oe) :: pn)) (a := aE) (C := C) (oe := oe) List.mem_cons_self hz.1 hz.2 hdt hk hgi hmi (i := 2) rfl (.inl hle) hde hce hes)) (hsw _) (.inr hlf))
      (pss_one (ps_set (i := 1) nd rfl (.inl hlo) (pe_ifExp (pt_cmpR op_eq ?_ pe_int (nomark _)) (pe_ix ix_seq (pe_lst (pa_strs hss)) ?_ hpl) pe_str) (hsw2 _) (.inr hlo)))
    · exact pe_bm PySem.F.plainAttrs_list PySem.F.slot_list_count PySem.F.type_list_count mt_countL (pe_var (i := 3) rfl (.inl hlf) hdf hcf) (pa_cons pe_bl pa_nil) (hbc _) rfl hlc
    · exact pe_bm PySem.F.plainAttrs_list PySem.F.slot_list_index PySem.F.type_list_index mt_index (pe_var (i := 3) rfl (.inl hlf) hdf hcf) (pa_cons pe_bl pa_nil) (hbi _) rfl hli
  · refine ⟨_, ?_, rfl, hc, _, h, fun H' q => ⟨_, rfl, q⟩⟩
    rintro cls d σ' H' hlen ⟨p, hp, rfl, rfl, hq⟩
    obtain ⟨k1, k2, bs, k3, k4⟩ := W.each p hp
    refine ⟨true, k2, fun _ aE hn => ⟨κ p.1, ⟨rfl, rfl, k1⟩, ?_⟩, fun z => Bool.noConfusion z⟩
    refine suiteB_run (List.getElem?_set_self (by omega)) (by rw [List.length_set]; omega) k3 W.few W.fewW k4 fun σ2 H2 l2 s2 e2 => ?_
    refine ⟨_, ?_, hq _ e2⟩
    rw [List.getElem?_set_ne (by decide)]
    exact s2
end Jw
/-! Several names at once; stores of two items; count and index of tuples. -/
namespace Jw
open PySem PySem.Spec PyProof.Rows L2
/-- values made one after the other -/
inductive Steps (K : PySem.W.Frag) (T : List (Addr × Str)) (hp : Addr) : Hp → Hp → HS → List V → List Sl → Hp → Hp → HS → Prop
  | nil {F H : Hp} {s : HS} : Steps K T hp F H s [] [] F H s
  | cons {F H F1 H1 F2 H2 : Hp} {s s1 s2 : HS} {v : V} {x : Sl} {vs : List V} {xs : List Sl} : Grow K T hp F H F1 H1 s1 → NewSl K hp H F1 H1 v x → Steps K T hp F1 H1 s1 vs xs F2 H2 s2 → Steps K T hp F H s (v :: vs) (x :: xs) F2 H2 s2
def setsS : L2.St → List Nat → List V → L2.St
  | σ, i :: is, v :: vs => setsS (σ.set i (some v)) is vs
  | σ, _, _ => σ
def putsR : List Nat → List Sl → Rho → M Rho
  | [], [], ρ => pure ρ
  | i :: is, x :: xs, ρ => do
    let ρ' ← putSl i x ρ
    putsR is xs ρ'
  | _, _, _ => M.bad
section
variable {K : PySem.W.Frag} {T : List (Addr × Str)} {hp : Addr}
theorem Steps.len {F H F2 H2 : Hp} {s s2 : HS} {vs : List V} {xs : List Sl} (h : Steps K T hp F H s vs xs F2 H2 s2) : vs.length = xs.length := by
  induction h with
  | nil => rfl
  | cons _ _ _ ih => exact congrArg Nat.succ ih
theorem Steps.ff {F H F2 H2 : Hp} {s s2 : HS} {vs : List V} {xs : List Sl} (h : Steps K T hp F H s vs xs F2 H2 s2) : ∀ a o, F a = some o → F2 a = some o := by
  induction h with
  | nil => exact fun _ _ z => z
  | cons g _ _ ih => exact fun a o z => ih a o (g.ff a o z)
theorem Rel.puts {F0 H0 F H F2 H2 : Hp} {σ : L2.St} {ρ : Rho} {s s2 : HS} {vs : List V} {xs : List Sl} (h : Steps K T hp F H s vs xs F2 H2 s2) {is : List Nat} {P : Rho → HS → Prop} {W : String → HS → Prop} (R : Rel K T hp F0 H0 F H σ ρ s) (q : Post (putsR is xs ρ s2) P W) :
    ∃ ρ', P ρ' s2 ∧ Rel K T hp F0 H0 F2 H2 (setsS σ is vs) ρ' s2 ∧ is.length = vs.length := by
  induction h generalizing σ ρ is with
  | nil =>
    cases is with
    | nil => exact ⟨ρ, q.ret, R, rfl⟩
    | cons _ _ => exact q.elim
  | cons g n _ ih =>
    cases is with
    | nil => exact q.elim
    | cons i is =>
      obtain ⟨hi, k⟩ := q.bind.putSl
      obtain ⟨ρ', h1, h2, h3⟩ := ih (R.put g n hi) k
      exact ⟨ρ', h1, h2, congrArg Nat.succ h3⟩
end
def patsOf : List Nat → Pats
  | [] => .nil
  | i :: is => .cons (.nm i) (patsOf is)
theorem patsOf_size : ∀ is, (patsOf is).size = is.length
  | [] => rfl
  | _ :: is => congrArg Nat.succ (patsOf_size is)
theorem gs_names {K : PySem.W.Frag} : ∀ {is : List Nat} {vs : List V} {σ : L2.St} {H : Hp} {Q : L2.St → Hp → Prop}, is.length = vs.length → Q (setsS σ is vs) H → (patsOf is).gs K vs σ H Q
  | [], [], σ, H, Q, _, q => by
    unfold patsOf Pats.gs
    exact ⟨rfl, q⟩
  | i :: is, v :: vs, σ, H, Q, h, q => by
    unfold patsOf Pats.gs
    unfold Pat.g
    exact ⟨v, vs, rfl, gs_names (Nat.succ.inj h) q⟩
section
variable {X : Cx} {T : List (Addr × Str)} {EX : String → Hp → Prop} {pos p p1 p2 p3 : Pos}
def DX (X : Cx) (T : List (Addr × Str)) (EX : String → Hp → Prop) (n : Nat) (es : List Expr) (f : Rho → M (List Sl)) : Prop := ∃ ta, PA X es ta ∧ ∀ {hp : Addr} {F0 H0 F H : Hp} {σ : L2.St} {ρ : Rho} {s : HS} {Q : List V → Hp → Prop}, Rel X.K T hp F0 H0 F H σ ρ s →
  Post (f ρ s) (fun xs s' => ∀ F' H' vs, Steps X.K T hp F H s vs xs F' H' s' → Grow X.K T hp F H F' H' s' → vs.length = n → Q vs H') (WX X.K T hp F0 H0 EX) → ta σ H Q
def xNil : Rho → M (List Sl) := fun _ => pure []
def xCons (fa : Rho → M Sl) (fr : Rho → M (List Sl)) : Rho → M (List Sl) := fun ρ => do
  let x ← fa ρ
  let xs ← fr ρ
  pure (x :: xs)
theorem dx_nil : DX X T EX 0 [] xNil := ⟨_, pa_nil, fun R q => q.ret _ _ [] .nil R.g.refl rfl⟩
theorem dx_cons {e : Expr} {es : List Expr} {n : Nat} {fa : Rho → M Sl} {fr : Rho → M (List Sl)} (ha : DN X T EX e fa) (hr : DX X T EX n es fr) (he : starEach (e :: es) X.env = (false, eval e X.env) :: starEach es X.env := by rfl) : DX X T EX (n + 1) (e :: es) (xCons fa fr) := by
  obtain ⟨_, a1, a2⟩ := ha
  obtain ⟨_, b1, b2⟩ := hr
  refine ⟨_, pa_cons a1 b1 he, fun R q => a2 R (q.bind.mono fun x s1 k1 F1 H1 v g1 n1 => b2 (R.grow g1) (k1.bind.mono fun xs s2 k2 F2 H2 vs st g2 hl => ?_))⟩
  exact k2.ret F2 H2 (v :: vs) (.cons g1 n1 st) (g1.trans g2) (congrArg Nat.succ hl)
def fUnN (is : List Nat) (f : Rho → M (List Sl)) : Rho → M Ctl := fun ρ => do
  let xs ← f ρ
  let ρ' ← putsR is xs ρ
  pure (.nx ρ')
/-- a, b, .. = e1, e2, ..: by a tuple -/
theorem ds_unN (is : List Nat) {ts es : List Expr} {n kt k2 : Nat} {pt pt2 : Pos} {f : Rho → M (List Sl)} (hg : PG X (.Tuple ts kt pt) ((Pat.tp (patsOf is)).g X.K)) (h : DX X T EX n es f) (hn : n ≤ 16777216 := by decide)
    (hs : swapsWithSole [.Tuple ts kt pt] (.Tuple es k2 pt2) pos.line X.env = pure false := by rfl) (hw : swappedStores [.Tuple ts kt pt] (.Tuple es k2 pt2) X.env = pure none := by rfl)
    (h1 : (assignEach [.Tuple ts kt pt] X.env).map (·.2) = [assign (.Tuple ts kt pt) X.env] := by rfl) :
    DS X T EX (.Assign [.Tuple ts kt pt] (.Tuple es k2 pt2) pos) (fUnN is f) := by
  obtain ⟨_, a1, a2⟩ := h
  refine ⟨_, ps_asg (pe_tup a1) hg hs hw h1, fun {hp F0 H0 F H σ ρ s E} R q => a2 R (q.bind.mono fun xs s1 k F1 H1 vs st g hl => ⟨by rw [hl, sizeLine_eq]; exact hn, fun t ht => ?_⟩)⟩
  obtain ⟨ρ', k2, R2, hl2⟩ := Rel.puts st R k.bind
  unfold Pat.g
  refine ⟨t, vs, rfl, .inl (.inl upd_same), by rw [patsOf_size, hl2], gs_names hl2 ?_⟩
  have R3 := R2.grow (R2.g.newOwn (o := .tup vs) ht)
  exact k2.ret F1 _ _ st.ff R3
/-- a, b, c = e1, e2, e3: three locals -/
theorem ds_par3 (i j l : Nat) {x y z : Str} {a b c : Expr} {px py pz pt pt2 : Pos} {kt k2 : Nat} {f : Rho → M (List Sl)} (hc : X.calm = true) (hN : X.N.Nodup) (h : DX X T EX 3 [a, b, c] f) (hij : i ≠ j := by decide) (hil : i ≠ l := by decide) (hjl : j ≠ l := by decide) (hi : X.N[i]? = some x := by rfl) (hj : X.N[j]? = some y := by rfl) (hl : X.N[l]? = some z := by rfl)
    (hx : X.env.scope.names.lookup x = some .local := by rfl) (hy : X.env.scope.names.lookup y = some .local := by rfl) (hz : X.env.scope.names.lookup z = some .local := by rfl)
    (hw : swappedStores [.Tuple [.Name x px, .Name y py, .Name z pz] kt pt] (.Tuple [a, b, c] k2 pt2) X.env = pure (some [x, y, z]) := by rfl)
    (hs : swapsWithSole [.Tuple [.Name x px, .Name y py, .Name z pz] kt pt] (.Tuple [a, b, c] k2 pt2) pos.line X.env = pure false := by rfl) :
    DS X T EX (.Assign [.Tuple [.Name x px, .Name y py, .Name z pz] kt pt] (.Tuple [a, b, c] k2 pt2) pos) (fUnN [i, j, l] f) := by
  obtain ⟨_, a1, a2⟩ := h
  refine ⟨_, ps_par3 hc hN hi hj hl hij hil hjl hx hy hz a1 hw hs, fun {hp F0 H0 F H σ ρ s E} R q => a2 R (q.bind.mono fun xs s1 k F1 H1 vs st g hlen => ?_)⟩
  obtain ⟨ρ', k2, R2, hl2⟩ := Rel.puts st R k.bind
  match vs, hlen with
  | [u, v, w], _ => exact ⟨u, v, w, rfl, k2.ret F1 H1 _ st.ff R2⟩
/-! ### x[i], y[j] = e1, e2 -/
def setAt (i : Nat) (d k : D) (ρ : Rho) : M Rho := do
  let xs ← ownAt i ρ
  let n ← O.lift (dI k)
  let j ← O.lift (ixN xs.length n)
  pure (ρ.set i (.own (xs.set j d)))
def fUnIx (i j : Nat) (fa fb fi fj : Rho → M D) : Rho → M Ctl := fun ρ => do
  let a ← fa ρ
  let b ← fb ρ
  let _ ← ownAt i ρ
  let k ← fi ρ
  let ρ1 ← setAt i a k ρ
  let _ ← ownAt j ρ1
  let m ← fj ρ1
  let ρ2 ← setAt j b m ρ1
  pure (.nx ρ2)
theorem set_at {hp : Addr} {F0 H0 F H : Hp} {σ : L2.St} {ρ : Rho} {s : HS} {i : Nat} {d k : D} {v u : V} {p : Addr} {P : Rho → HS → Prop} {W : String → HS → Prop} {Q : Hp → Prop} (R : Rel X.K T hp F0 H0 F H σ ρ s) (rd : Rp X.K F v d) (rk : Rp X.K F u k) (hsi : σ[i]? = some (some (.ref p)))
    (q : Post (setAt i d k ρ s) P W) (h : ∀ H' ρ', P ρ' s → Rel X.K T hp F0 H0 F H' σ ρ' s → Q H') : rSetL (.ref p) u v H Q := by
  obtain ⟨xs, hx, q2⟩ := q.bind.ownAt
  obtain ⟨a, vs, h1, h2, h3, h4, h5, h6⟩ := R.sl i _ hx
  rw [hsi] at h1
  cases h1
  obtain ⟨n, e1, k3⟩ := q2.bind.lift
  obtain ⟨j, e2, k4⟩ := k3.bind.lift
  cases dI_is e1
  cases rk
  exact ⟨p, vs, n, j, rfl, rfl, h2, by rw [h3.len]; exact e2, h _ _ k4.ret (R.write hx hsi h2 (RpAll.set rd j h3))⟩
theorem ds_unIx (i j : Nat) {x y : Str} {a b ie je : Expr} {px py ps1 ps2 pt pt2 : Pos} {kt k2 : Nat} {fa fb fi fj : Rho → M D} (hc : X.calm = true) (ha : DE X T EX a fa) (hb : DE X T EX b fb) (hi : DE X T EX ie fi) (hj : DE X T EX je fj)
    (hN : X.N[i]? = some x := by rfl) (hv : Vis X.env.scope x := by first | exact Or.inl rfl | exact Or.inr (Or.inl rfl) | exact Or.inr (Or.inr rfl)) (hd : (x == ("__debug__" : Str)) = false := by decide) (hcd : (x == ("__classdict__" : Str)) = false := by decide)
    (hN' : X.N[j]? = some y := by rfl) (hv' : Vis X.env.scope y := by first | exact Or.inl rfl | exact Or.inr (Or.inl rfl) | exact Or.inr (Or.inr rfl)) (hd' : (y == ("__debug__" : Str)) = false := by decide) (hcd' : (y == ("__classdict__" : Str)) = false := by decide)
    (aa : ∀ v, assign (.Subscript (.Name x px) ie ps1) X.env v = (do
      let ov ← holding [v] (eval (.Name x px) X.env)
      let iv ← holding [v, ov] (eval ie X.env)
      standAt ps1
      holding [v, ov, iv] (setItem ov iv v)
      release [v, ov, iv] []) := by intro _; rfl)
    (ab : ∀ v, assign (.Subscript (.Name y py) je ps2) X.env v = (do
      let ov ← holding [v] (eval (.Name y py) X.env)
      let iv ← holding [v, ov] (eval je X.env)
      standAt ps2
      holding [v, ov, iv] (setItem ov iv v)
      release [v, ov, iv] []) := by intro _; rfl)
    (as1 : (assignEach [.Subscript (.Name x px) ie ps1, .Subscript (.Name y py) je ps2] X.env).map (·.2) = assign (.Subscript (.Name x px) ie ps1) X.env :: (assignEach [.Subscript (.Name y py) je ps2] X.env).map (·.2) := by rfl)
    (as2 : (assignEach [.Subscript (.Name y py) je ps2] X.env).map (·.2) = assign (.Subscript (.Name y py) je ps2) X.env :: (assignEach [] X.env).map (·.2) := by rfl)
    (an : (assignEach [.Subscript (.Name x px) ie ps1, .Subscript (.Name y py) je ps2] X.env).length = 2 := by rfl) (af : (assignEach [.Subscript (.Name x px) ie ps1, .Subscript (.Name y py) je ps2] X.env).findIdx? (·.1) = none := by rfl)
    (hs : swapsWithSole [.Tuple [.Subscript (.Name x px) ie ps1, .Subscript (.Name y py) je ps2] kt pt] (.Tuple [a, b] k2 pt2) pos.line X.env = pure false := by rfl) (hw : swappedStores [.Tuple [.Subscript (.Name x px) ie ps1, .Subscript (.Name y py) je ps2] kt pt] (.Tuple [a, b] k2 pt2) X.env = pure none := by rfl)
    (h1 : (assignEach [.Tuple [.Subscript (.Name x px) ie ps1, .Subscript (.Name y py) je ps2] kt pt] X.env).map (·.2) = [assign (.Tuple [.Subscript (.Name x px) ie ps1, .Subscript (.Name y py) je ps2] kt pt) X.env] := by rfl)
    (he : starEach [a, b] X.env = (false, eval a X.env) :: starEach [b] X.env := by rfl) (he2 : starEach [b] X.env = (false, eval b X.env) :: starEach [] X.env := by rfl) :
    DS X T EX (.Assign [.Tuple [.Subscript (.Name x px) ie ps1, .Subscript (.Name y py) je ps2] kt pt] (.Tuple [a, b] k2 pt2) pos) (fUnIx i j fa fb fi fj) := by
  obtain ⟨_, a1, a2⟩ := ha
  obtain ⟨_, b1, b2⟩ := hb
  obtain ⟨_, i1, i2⟩ := hi
  obtain ⟨_, j1, j2⟩ := hj
  refine ⟨_, ps_asg (pe_tup (pa_cons a1 (pa_cons b1 pa_nil he2) he)) (pg_tup hc (pgs_cons (pg_sub (pe_var hN hv hd hcd) i1 set_list aa) (pgs_cons (pg_sub (pe_var hN' hv' hd' hcd') j1 set_list ab) pgs_nil as2) as1) an af) hs hw h1,
    fun {hp F0 H0 F H σ ρ s E} R q => a2 R (q.bind.mono fun da s1 k F1 H1 va g1 r1 => b2 (R.grow g1) (k.bind.mono fun db s2 k2 F2 H2 vb g2 r2 => ⟨by rw [sizeLine_eq]; exact (by decide : (2 : Nat) ≤ 16777216), fun t ht => ?_⟩))⟩
  have R2 := (R.grow g1).grow g2
  have g3 := R2.g.newOwn (o := .tup [va, vb]) ht
  have R3 := R2.grow g3
  obtain ⟨xs, hx, k3⟩ := k2.bind.ownAt
  obtain ⟨pa, ws, q1, _⟩ := R3.sl i _ hx
  refine ⟨t, [va, vb], rfl, .inl (.inl upd_same), rfl, va, [vb], rfl, .ref pa, q1, i2 R3 (k3.bind.mono fun dk s3 k4 F4 H4 u g4 r4 => ?_)⟩
  have R4 := R3.grow g4
  refine set_at R4 (Rp.up g4.ff (Rp.up g2.ff r1)) r4 q1 k4.bind fun H5 ρ1 k5 R5 => ?_
  obtain ⟨ys, hy, k6⟩ := k5.bind.ownAt
  obtain ⟨pb, zs, q2, _⟩ := R5.sl j _ hy
  refine ⟨vb, [], rfl, .ref pb, q2, j2 R5 (k6.bind.mono fun dm s5 k7 F6 H6 u2 g6 r6 => ?_)⟩
  have R6 := R5.grow g6
  refine set_at R6 (Rp.up g6.ff (Rp.up g4.ff r2)) r6 q2 k7.bind fun H7 ρ2 k8 R7 => ⟨rfl, ?_⟩
  exact k8.ret F6 H7 σ (fun x o z => g6.ff _ _ (g4.ff _ _ (g2.ff _ _ (g1.ff _ _ z)))) R7
end
end Jw
/-! A written dict, as something that is only handed on. -/
namespace Jw
open PySem PySem.Spec PyProof.Rows L2
section
variable {K : PySem.W.Frag} {T : List (Addr × Str)} {hp : Addr} {F H F' H' : Hp} {s s' : HS}
theorem Grow.writeK (a : Grow K T hp F H F' H' s') {p : Addr} {xs ys : List (Key × V)} (lo : ∀ u, H p = some u → Loose hp p u) (nF : F' p = none) (nh : p ≠ hp) (at_ : H' p = some (.dK xs)) : Grow K T hp F H F' (upd H' p (.dK ys)) s' := by
  have up : ∀ x u, H' x = some u → (∀ zs, u ≠ .dK zs) → upd H' p (.dK ys) x = some u := fun x u e n => by
    rw [upd_ne (fun z => by rw [z, at_] at e; exact n xs (Option.some.inj e).symm)]
    exact e
  refine ⟨a.ff, a.nw, fun x u e l => ?_, fun x u e => ?_, fun q hq => ?_, a.hand.up (fun x u e => e) ?_ ?_, a.nt⟩
  · rw [upd_ne (fun z => l (by rw [z] at e ⊢; exact lo u e))]
    exact a.st x u e l
  · rw [upd_ne (fun z => by rw [z, nF] at e; cases e)]
    exact a.sub x u e
  · obtain ⟨ps, h1, h2, h3⟩ := a.tabs q hq
    refine ⟨ps, up _ _ h1 (fun zs e => by cases e), h2, fun po cv hc => ?_⟩
    obtain ⟨c, e1, e2⟩ := h3 po cv hc
    exact ⟨c, e1, up _ _ e2 fun zs e => by unfold LamX.CodeO at e; cases e⟩
  · obtain ⟨c, z, _⟩ := a.hand
    exact z
  · rw [upd_ne nh.symm]
/-- a dict of the def's own stands still from now on -/
theorem Grow.freezeK (a : Grow K T hp F H F' H' s') {p : Addr} {xs : List (Key × V)} (lo : ∀ u, H p = some u → Loose hp p u) (nF : F' p = none) (nh : p ≠ hp) (at_ : H' p = some (.dK xs)) : Grow K T hp F H (upd F' p (.dK xs)) H' s' := by
  have up : ∀ x u, F' x = some u → upd F' p (.dK xs) x = some u := fun x u e => by
    rw [upd_ne (ne_of_none e nF)]; exact e
  refine ⟨fun x u e => up _ _ (a.ff x u e), fun x u e => ?_, a.st, fun x u e => ?_, a.tabs, a.hand.up up ?_ rfl, fun x ps e => ?_⟩
  · by_cases q : x = p
    · rw [q]; exact .inr lo
    · rw [upd_ne q] at e; exact a.nw x u e
  · by_cases q : x = p
    · rw [q, upd_same] at e; cases e; rw [q]; exact at_
    · rw [upd_ne q] at e; exact a.sub x u e
  · obtain ⟨c, z, _⟩ := a.hand
    rw [upd_ne nh.symm]; exact z
  · by_cases q : x = p
    · rw [q, upd_same] at e; cases e
    · rw [upd_ne q] at e; exact a.nt x ps e
end
section
variable {X : Cx} {T : List (Addr × Str)} {EX : String → Hp → Prop} {pos p : Pos}
def fDct (f : Rho → M D) : Rho → M D := fun ρ => do
  let _ ← f ρ
  pure (.dict [])
theorem de_dict1 {ke ve : Expr} {k : Key} {f : Rho → M D} (hk : PE X ke (tC (kV k))) (h : DE X T EX ve f) : DE X T EX (.Dict [some ke] [ve] pos) (fDct f) := by
  obtain ⟨_, a1, a2⟩ := h
  refine ⟨_, pe_disp (pps_cons hk a1 pps_nil) (by rfl) (by rfl) (fun z => by cases z) (show 1 ≤ 15 by omega), fun {hp F0 H0 F H σ ρ s Q} R q => fun p hn => ?_⟩
  have g0 := R.g.newOwn (o := .dK []) hn
  have np := R.g.noHp hn
  have nF : F p = none := by
    cases z : F p with
    | none => rfl
    | some u => rw [R.g.sub p u z] at hn; cases hn
  have notL : ¬ Loose hp p (.dK []) := by
    rintro (z | ⟨_, z⟩)
    · exact np z
    · cases z
  refine a2 (R.grow g0) (q.bind.mono fun d s1 k1 F1 H1 v g r => ?_)
  have at1 := g.st p _ upd_same notL
  have nF1 : F1 p = none := by
    cases z : F1 p with
    | none => rfl
    | some u =>
      rcases g.nw p u z with w | w
      · rw [nF] at w; cases w
      · exact absurd (w _ upd_same) notL
  have gAll := g0.trans g
  have lo : ∀ u, H p = some u → Loose hp p u := fun u e => by rw [hn] at e; cases e
  refine ⟨at1, [(k, v)], rfl, (show 1 ≤ 15 by omega), ?_⟩
  have gw := gAll.writeK lo nF1 np at1 (ys := mergeK [] [(k, v)])
  exact k1.ret _ _ (.ref p) (gw.freezeK lo nF1 np upd_same) (.dct upd_same)
theorem de_dict1i {i : Int} {j : Nat} {ve : Expr} {f : Rho → M D} (h : DE X T EX ve f) : DE X T EX (.Dict [some (.Constant (.int i) j p)] [ve] pos) (fDct f) := de_dict1 (k := .inl i) pe_int h
theorem de_dict1s {i : Str} {j : Nat} {ve : Expr} {f : Rho → M D} (h : DE X T EX ve f) : DE X T EX (.Dict [some (.Constant (.str i) j p)] [ve] pos) (fDct f) := de_dict1 (k := .inr i) pe_str h
end
end Jw
/-! What a law's head has to tell: defs with code objects, error classes, words. -/
namespace Jw
open PySem PySem.Spec PyProof.Rows L2
def clsInit (st : Stmt) : Stmt := match st with
  | .ClassDef _ _ _ b _ _ _ _ _ _ _ => b.headD (.Pass ⟨0, 0, 0, 0⟩)
  | _ => .Pass ⟨0, 0, 0, 0⟩
/-- a def of the module whose code object is at c, with its table at q -/
structure DfC (K : PySem.W.Frag) (mg : Str → Option Value) (x : Str) (st : Stmt) (c q : Addr) : Prop where
  ex : ∃ (f : Addr) (kV doc pm ct oc : Value) (an od : Option Addr) (osl : Array (Option Value)), K.lookup f = some ⟨oc, od, .func (PySem.W.fnOf x x (defArgs st) (defBody st) (defScope st) .none kV doc pm an (.ref c) ct), osl⟩ ∧ PySem.W.codeIn K (.ref c) x = true ∧ PySem.W.keepIn K (.ref f) = true ∧ mg x = some (.ref f)
  hd : PySem.W.codeHdIn K c q = true
  no : K.lookup q = none
theorem dfc_mk {K : PySem.W.Frag} {mg : Str → Option Value} {h : Heap} {x : Str} {st : Stmt} {f c q : Addr} {oc : Value} {od an : Option Addr} {osl : Array (Option Value)} {kV doc pm ct ccl : Value} {cdd : Option Addr} {ccs : Array (Option Value)} {vs : Array Value} (Y : K.In h) (G : h.Ns mainGlobals mg) (a : PySem.W.nsIn K mainGlobals x = some (some (.ref f)))
    (l : K.lookup f = some ⟨oc, od, .func (PySem.W.fnOf x x (defArgs st) (defBody st) (defScope st) .none kV doc pm an (.ref c) ct), osl⟩) (co : PySem.W.codeIn K (.ref c) x = true) (k : PySem.W.keepIn K (.ref f) = true)
    (lc : K.lookup c = some ⟨ccl, cdd, .fields vs, ccs⟩) (e : vs[11]? = some (.ref q)) (hd : PySem.W.codeHdIn K c q = true) (no : K.lookup q = none) : DfC K mg x st c q :=
  ⟨⟨f, kV, doc, pm, ct, oc, an, od, osl, l, co, k, PySem.W.mg_of Y G a⟩, hd, no⟩
section
variable {P : Program} {w : World} {K : PySem.W.Frag} {mg : Str → Option Value} {base : Heap} {T : List (Addr × Str)}
theorem DfC.df {x : Str} {st : Stmt} {c q : Addr} (d : DfC K mg x st c q) : Df K mg x st := by
  obtain ⟨f, kV, doc, pm, ct, oc, an, od, osl, l, co, k, m⟩ := d.ex
  exact ⟨f, _, fun_mk l co k, m⟩
/-- a def of the text, its code object told, where no guard stands -/
theorem fnG_ofC {x : Str} {st : Stmt} {f : Addr} {N ps : List Str} {k : Nat} {sp : Sp} {kV doc pm ct oc : Value} {an od : Option Addr} {osl : Array (Option Value)} {c : Addr} (l : K.lookup f = some ⟨oc, od, .func (PySem.W.fnOf x x (defArgs st) (defBody st) (defScope st) .none kV doc pm an (.ref c) ct), osl⟩) (co : PySem.W.codeIn K (.ref c) x = true) (S : FnScope N ps (defScope st)) (len : ∀ vs H Q E, sp vs H Q E → vs.length = ps.length)
    (body : ∀ (A : Around) (outer : List Env) (s : Shared) (H : Hp) (vs : List V) (Q : VK) (E : XK), A.guards = some [] → Room k (A.deeper (envOfC x (defScope st) s.heap.objs.size f (.ref c))) → sp vs H Q E →
      ∃ t, PSs (cxOf L2.CX0 P w K mg base N x (defScope st) f (.ref c) A outer s H E) (defBody st) t ∧ t { nx := fun _ H' => Q .non H', rt := Q } (start N vs) H) : FnG P w K mg base (k + 1) f (PySem.W.fnOf x x (defArgs st) (defBody st) (defScope st) .none kV doc pm an (.ref c) ct) ps sp := by
  refine ⟨len, fun {A outer s H args us vs Q E} gd hr e0 hbi r hsp => ?_⟩
  have up : ∀ b o, base.get? b = some o → s.heap.get? b = some o := fun b o e => (e0.bs b o e).1
  have kin : K.In s.heap := e0.mod.kin.keeps up
  have kinds : ∀ y ∈ ps.zip us, (defScope st).names.lookup y.1 = some .local ∨ ((defScope st).names.lookup y.1 = some .cell ∧ ((cellsFrom (s.heap.objs.size + 1) (defScope st).names []).lookup y.1).isSome = true) := by
    rintro ⟨y, u⟩ hy
    cases S.par y (List.of_mem_zip hy).1 with
    | inl q => exact .inl q
    | inr q => exact .inr ⟨q, PySem.W.cellsFrom_some _ _ _ (.inl q)⟩
  refine codeAny_call_function hr.depth (kin _ _ l) rfl S.co S.gen rfl (PySem.W.codeRec_of kin co) (hbi _ _ _ _ (wpAny_newFunctionEnv_cells S.kind kinds ?_))
  rintro _ rfl s1 z
  refine ⟨(e0.mod.nolimit.keeps up).keeps z.toInCall.keep, codeAny_func ?_⟩
  obtain ⟨t, a, b⟩ := body A outer s H vs Q E gd (hr.deeper _) hsp
  have I := inv_start (CX := L2.CX0) (E := E) (cd := .ref c) (f := f) (qual := x) S hr.hd e0 (len _ _ _ _ hsp) r z
  refine wpAny_mono (a.run [] s1 (start N vs) H _ I b) ?_ (fun e s' hs => hs)
  intro fl s' hs
  have stop : ∀ {σ' : L2.St} {H' : Hp} {v : V} {u : Value}, Inv (cxOf L2.CX0 P w K mg base N x (defScope st) f (.ref c) A outer s H E) [] σ' H' s' → RelV v u → Q v H' → CE outer P w H s Q u s' :=
    fun J rv q => ⟨_, _, J.os, J.bare, J.base, J.hok, rv, q⟩
  match fl, hs with
  | .ret u, ⟨v, σ', H', J, rv, q⟩ => exact stop J rv q
  | .next, ⟨σ', H', J, q⟩ => exact stop (v := V.non) (u := Value.none) J rfl q
  | .brk, ⟨_, _, _, q⟩ => exact q.elim
  | .cont, ⟨_, _, _, q⟩ => exact q.elim
/-- a def with lambdas: its code object is told -/
theorem cal_mkGL {x : Str} {st : Stmt} {N ps : List Str} {k n m : Nat} {c q : Addr} {fb : Rho → M Ctl} (d : DfC K mg x st c q) (S : FnScope N ps (defScope st)) (hn : ps.length = n) (hm : N.length = n + m)
    (hb : ∀ (kV doc pm : Value) (an : Option Addr) (cdv ct : Value) (us : List Value), us.length = ps.length → bindArgs (PySem.W.fnOf x x (defArgs st) (defBody st) (defScope st) .none kV doc pm an cdv ct) ⟨us, []⟩ = pure (ps.zip us))
    (body : ∀ (f : Addr) (A : Around) (outer : List Env) (s : Shared) (H : Hp) (E : XK), A.guards = some [] → Room k (A.deeper (envOfC x (defScope st) s.heap.objs.size f (.ref c))) → DSs (cxOf L2.CX0 P w K mg base N x (defScope st) f (.ref c) A outer s H E).nox T noEX (defBody st) fb) :
    CalG P w K mg base T (k + 1) n x (fDef m fb) := by
  obtain ⟨f, kV, doc, pm, ct, oc, an, od, osl, l, co, kp, mm⟩ := d.ex
  refine ⟨f, _, ps, fnG_ofC l co S (fun vs H Q E h => by rw [h.1, hn]) fun A outer s H vs Q E gd hr h => ?_, mm, kp, (fun_mk l co kp).binds hb⟩
  obtain ⟨t, a, b⟩ := body f A outer s H E gd hr
  refine ⟨t, a.nox, ?_⟩
  obtain ⟨hl, hp, F, as, s1, G, w1, p⟩ := h
  refine b (rel_start G w1 (by rw [hl]; exact hm)) (Post.imp (Post.bind p) ?_ fun c s2 z F' H' g => z F' H' g)
  intro c s2 k2
  match c with
  | .nx ρ => exact fun F' H' σ' _ R => Post.ret k2 F' H' _ R.g .non
  | .rt d => exact fun F' H' v g r => Post.ret k2 F' H' v g r
  | .bk ρ => exact k2.elim
  | .ct ρ => exact k2.elim
theorem law_okGL {T : List (Addr × Str)} {x xh : Str} {st s1 : Stmt} {rest : List Stmt} {p0 p1 p2 : Pos} {f : Addr} {N : List Str} {k m : Nat} {fc : Int → Int} {c0 c1 : Int} {fb : Rho → M Ctl} {kV doc pm ct oc : Value} {an od : Option Addr} {osl : Array (Option Value)} {cx : Addr} (lk : K.lookup f = some ⟨oc, od, .func (PySem.W.fnOf x x (defArgs st) (defBody st) (defScope st) .none kV doc pm an (.ref cx) ct), osl⟩) (hcd : PySem.W.codeIn K (.ref cx) x = true) (S : FnScope N ["script"] (defScope st)) (hm : N.length = 2 + m)
    (c : CalH2 P w K T mg base k xh fc c0 c1) (hb : defBody st = s1 :: rest)
    (first : ∀ (A : Around) (outer : List Env) (s : Shared) (H : Hp) (E : XK) (te : TE), PE (cxOf L2.CX0 P w K mg base N x (defScope st) f (.ref cx) A outer s H E).nox (.Call (.Name xh p0) [.Name "script" p1] [] p2) te →
      PS (cxOf L2.CX0 P w K mg base N x (defScope st) f (.ref cx) A outer s H E).nox s1 (tAsg te (gName 1)))
    (call : ∀ (A : Around) (outer : List Env) (s : Shared) (H : Hp) (E : XK) (f' : Addr) (fd' : FuncData) (ps' : List Str), Room k (A.deeper (envOfC x (defScope st) s.heap.objs.size f (.ref cx))) → FnOk P w K mg base L2.CX0 k f' fd' ps' (spH K T fc c0 c1) → mg xh = some (.ref f') → PySem.W.keepIn K (.ref f') = true → Binds K fd' ps' [] →
      PE (cxOf L2.CX0 P w K mg base N x (defScope st) f (.ref cx) A outer s H E).nox (.Call (.Name xh p0) [.Name "script" p1] [] p2) (tCall (spH K T fc c0 c1) [] E0 (tCons (tVar 0) tNil)))
    (body : ∀ (A : Around) (outer : List Env) (s : Shared) (H : Hp) (E : XK), A.guards = some [] → Room k (A.deeper (envOfC x (defScope st) s.heap.objs.size f (.ref cx))) → DSs (cxOf L2.CX0 P w K mg base N x (defScope st) f (.ref cx) A outer s H E).nox T noEX rest fb) :
    FnG P w K mg base (k + 1) f (PySem.W.fnOf x x (defArgs st) (defBody st) (defScope st) .none kV doc pm an (.ref cx) ct) ["script"] (spL K T fc c0 c1 m fb) := by
  obtain ⟨f', fd', ps', c1', c2, c3, c4⟩ := c.ex
  refine fnG_ofC lk hcd S (fun vs H Q E h => by obtain ⟨a, ns, rfl, _⟩ := h; rfl) fun A outer s H vs Q E gd hr h => ?_
  obtain ⟨t, b1, b2⟩ := body A outer s H E gd hr
  rw [hb]
  refine ⟨_, (pss_cons (first A outer s H E _ (call A outer s H E f' fd' ps' hr c1' c2 c3 c4)) b1).nox, ?_⟩
  obtain ⟨a, ns, rfl, hs, hl, ht, hp, hq⟩ := h
  have e0 : L2.start N [V.ref a] = some (V.ref a) :: none :: List.replicate m none := by
    unfold L2.start
    rw [List.map_cons, List.map_nil, List.length_singleton, show N.length - 1 = m + 1 by omega, List.replicate_succ]
    rfl
  rw [e0]
  refine ⟨.ref a, rfl, a, ns, rfl, hs, hl, ht, fun H' c hpA ht2 ne hc hh => ?_⟩
  have nF : upd (fun _ => none) c (HO.lst ((ns.map fc).map V.int)) hpA = none := by rw [upd_ne ne.symm]
  have only : ∀ {b : Addr} {o : HO}, upd (fun _ => none) c (HO.lst ((ns.map fc).map V.int)) b = some o → b = c ∧ o = .lst ((ns.map fc).map V.int) := by
    intro b o z
    by_cases q : b = c
    · rw [q, upd_same] at z
      exact ⟨q, (Option.some.inj z).symm⟩
    · rw [upd_ne q] at z
      cases z
  have rest' : ∀ {i : Nat} {x : Sl}, (List.replicate m Sl.un)[i]? = some x → x = .un := by
    intro i x e
    rw [List.getElem?_replicate] at e
    split at e <;> cases e
    rfl
  refine b2 (hp := hpA) (F0 := upd (fun _ => none) c (.lst ((ns.map fc).map V.int))) (H0 := H') (F := upd (fun _ => none) c (.lst ((ns.map fc).map V.int))) (ρ := [.un, .hand] ++ List.replicate m .un) (s := ⟨ns.map fc, 0, 0, c0 + c1 * (ns.length : Int), 0⟩) ?_ ?_
  · refine ⟨⟨fun _ _ z => z, fun _ _ z => .inl z, fun _ _ z _ => z, fun x o z => ?_, ht2, ⟨c, nF, hh, upd_same⟩, fun x ps z => ?_⟩, fun i x e => ?_, fun i j xs ys e1 e2 n => ?_, by simp⟩
    · obtain ⟨rfl, rfl⟩ := only z
      exact hc
    · cases (only z).2
    · match i, e with
      | 0, e => cases e; trivial
      | 1, e => cases e; rfl
      | i + 2, e => cases rest' (i := i) e; trivial
    · match i, e1 with
      | 0, e1 => cases e1
      | 1, e1 => cases e1
      | i + 2, e1 => cases rest' (i := i) e1
  · refine Post.imp (Post.bind hp) (fun c2 s2 k2 => ?_) fun c2 s2 z => z.elim
    match c2, k2 with
    | .nx ρ, k2 => cases (show (PyData.none : D) = .bool true from Post.ret k2)
    | .rt d, k2 =>
      intro F' H2 v g r
      cases (show d = .bool true from Post.ret k2)
      cases r
      exact hq H2
end
theorem hu_of {T : List (Addr × Str)} {q : Addr} {s : Str} (nd : (T.map (·.1)).Nodup) (m : (q, s) ∈ T) : ∀ p ∈ T, p.1 = q → p.2 = s := by
  induction T with
  | nil => cases m
  | cons t T ih =>
    obtain ⟨a, b⟩ := t
    rw [List.map_cons, List.nodup_cons] at nd
    obtain ⟨n1, n2⟩ := nd
    rintro ⟨c, d⟩ hp e
    rcases List.mem_cons.mp m with z | m
    · cases z
      rcases List.mem_cons.mp hp with z | hp
      · cases z; rfl
      · have := List.mem_map_of_mem (f := (·.1)) hp
        rw [e] at this
        exact absurd this n1
    · rcases List.mem_cons.mp hp with z | hp
      · cases z
        have := List.mem_map_of_mem (f := (·.1)) m
        exact absurd this (fun z => n1 ((show a = q from e) ▸ z))
      · exact ih n2 m (c, d) hp e
/-- an error class of the module -/
theorem errc_mk {P : Program} {K : PySem.W.Frag} {mg : Str → Option Value} {h : Heap} {x : Str} {C fI : Addr} {st : Stmt} {nm q : Str} {N : Addr} {bs bm : List Value} {sn : List Str} {sub : List Value} {ab : Bool} {col : Option Bool} {dd : Option Addr} {k0 k1 k2 k3 k5 : Option Value}
    {qual : Str} {p0 p1 p2 p3 p4 : Pos} {kV doc pm ct oc : Value} {an od : Option Addr} {osl : Array (Option Value)} {cda cc : Addr} {ccl cl : Value} {cdd cld : Option Addr} {ccs csl : Array (Option Value)} {vs : Array Value} {file : Str} {tf : Tok} {cd : ClassData} {ar : Arg} {pl : Env → Sem Bool}
    (Y : K.In h) (G : h.Ns mainGlobals mg) (a : PySem.W.nsIn K mainGlobals x = some (some (.ref C)))
    (o1 : K.lookup C = some (excClassObj nm q C N bs bm true sn sub ab col dd k0 k1 k2 k3 k5 "ValueError.__new__")) (o2 : PySem.HandSPX.refsVE bm = true) (o3 : PySem.W.findIn K (.ref C) "__setattr__" = some (some (.builtin "object.__setattr__"))) (o4 : PySem.W.subIn K (.ref C) (.type "BaseException") = some true) (o5 : PySem.W.typeIn K (.ref C) = some (.type "type")) (o6 : PySem.W.keepIn K (.ref C) = true)
    (i1 : PySem.W.findIn K (.ref C) "__init__" = some (some (.ref fI))) (i2 : PySem.W.typeIn K (.ref fI) = some (.type "function"))
    (s1 : K.lookup fI = some ⟨oc, od, .func (PySem.W.ksFn "__init__" qual (defArgs (clsInit st)) (supB p0 p1 p2 p3 p4) (defScope (clsInit st)) .none kV doc pm an (.ref cda) ct cc), osl⟩) (s2 : PySem.W.codeIn K (.ref cda) qual = true) (s3 : K.lookup cda = some ⟨ccl, cdd, .fields vs, ccs⟩) (s4 : vs[2]? = some (.str file tf)) (s5 : ((P.main.file : Str) == file) = true)
    (s6 : K.lookup cc = some ⟨cl, cld, .cell (some (.ref C)), csl⟩) (s7 : PySem.W.clsIn K C = some cd) (s8 : PySem.W.mroIn K C (.ref C) = some true) (s9 : PySem.W.alongIn K "__init__" ((cd.mro.dropWhile (· != .ref C)).drop 1) = some (some (.builtin "ValueError.__init__")))
    (s10 : PySem.W.subIn K (.ref C) (.type "ValueError") = some true) (s11 : PySem.W.nsIn K cStatics "thirdparty.any" = some none) (s12 : PySem.W.nsIn K mainGlobals "super" = some none)
    (t1 : ((defArgs (clsInit st)).posonlyargs ++ (defArgs (clsInit st)).args).head? = some ar) (t2 : (defScope (clsInit st)).names.lookup ("super" : Str) = some .globalImplicit) (t3 : (defScope (clsInit st)).names.lookup ("__class__" : Str) = some .free) (t4 : (defScope (clsInit st)).names.lookup ar.arg = some .local) (t5 : ∀ x ∈ (defScope (clsInit st)).names, x.2 ≠ .cell)
    (t6 : (defScope (clsInit st)).isCoroutine = false) (t7 : (defScope (clsInit st)).isGenerator = false) (t8 : (defScope (clsInit st)).kind = .function) (t9 : (P.main.scope.names.lookup ("super" : Str)).isSome = false)
    (t10 : ∀ env : Env, eval (.Call (.Attribute (.Call (.Name "super" p0) [] [] p1) "__init__" p2) [] [] p3) env = (do
      let ov ← attributeBase (.Call (.Name "super" p0) [] [] p1) "__init__" env (eval (.Call (.Name "super" p0) [] [] p1) env)
      standAt p2.atName
      let (f, first) ← holding [ov] (getMethod ov "__init__" (pl env))
      callWith p3 f first (backTo p3 (starEach [] env)) []))
    (t11 : ∀ (kV doc pm ct : Value) (an : Option Addr) (cda cc e : Addr), bindArgs (PySem.W.ksFn "__init__" qual (defArgs (clsInit st)) (supB p0 p1 p2 p3 p4) (defScope (clsInit st)) .none kV doc pm an (.ref cda) ct cc) ⟨[.ref e], []⟩ = pure [(ar.arg, .ref e)]) : ErrC P K mg x C :=
  ⟨PySem.W.mg_of Y G a, ⟨⟨nm, q, N, bs, bm, sn, sub, ab, col, dd, k0, k1, k2, k3, k5, o1, o2⟩, o3, o4, o5, o6⟩,
    ⟨fI, qual, defArgs (clsInit st), defScope (clsInit st), p0, p1, p2, p3, p4, ar, pl, i1, i2, ⟨⟨kV, doc, pm, ct, oc, an, od, osl, cda, cc, ccl, cl, cdd, cld, ccs, csl, vs, file, tf, cd, s1, s2, s3, s4, s5, s6, s7, s8, s9⟩, s10, s11, s12⟩, t1, t2, t3, t4, t5, t6, t7, t8, t9, t10, t11⟩⟩
end Jw
/-! A loop over a list of the def's own, which one name gathers from. -/
namespace Jw
open PySem PySem.Spec PyProof.Rows L2
def forOL (j k : Nat) (f : Rho → M D) : List D → Rho → M Ctl
  | [], ρ => pure (.nx ρ)
  | x :: xs, ρ => do
    let d ← f (ρ.set k (.dat x))
    forOL j k f xs ((ρ.set k (.dat x)).set j (.dat d))
/-- for slot k in the own list at slot i: slot j = f -/
def fForO (i j k : Nat) (f : Rho → M D) : Rho → M Ctl := fun ρ => do
  let xs ← ownAt i ρ
  if i ≠ j ∧ i ≠ k ∧ j < ρ.length ∧ k < ρ.length then forOL j k f xs ρ else M.bad
section
variable {X : Cx} {T : List (Addr × Str)} {EX : String → Hp → Prop} {pos p p1 p2 p3 p4 px : Pos}
theorem ds_forO (i j k : Nat) {tgx ownx y : Str} {e : Expr} {f : Rho → M D} (hp : PassesOwn (model X.prog X.w) X.A X.env X.xe) (hc : X.calm = true) (hN : X.N.Nodup) (hg : PG X (.Name tgx p1) ((Pat.nm k).g X.K)) (h : DE X T EX e f)
    (hi : X.N[i]? = some ownx := by rfl) (hv : Vis X.env.scope ownx := by first | exact Or.inl rfl | exact Or.inr (Or.inl rfl) | exact Or.inr (Or.inr rfl)) (hd : (ownx == ("__debug__" : Str)) = false := by decide) (hcd : (ownx == ("__classdict__" : Str)) = false := by decide)
    (hj : X.N[j]? = some y := by rfl) (hx : Loc X.env.scope y := by first | exact Or.inl rfl | exact Or.inr rfl) (hsw : swapsWith e (some (.Name y p3)) p4.line X.env = pure false := by rfl)
    (hf : X.fn y = true ∨ X.env.scope.names.lookup y = some .local := by first | exact Or.inl rfl | exact Or.inr rfl)
    (hs : ∀ x, foldedSetIterable (.Name ownx p2) X.env x = pure x := by intro _; rfl) : DS X T EX (.For (.Name tgx p1) (.Name ownx p2) [.Assign [.Name y p3] e p4] [] pos) (fForO i j k f) := by
  obtain ⟨_, b1, b2⟩ := h
  refine ⟨_, ps_for hp hc (pi_seqD (pe_var hi hv hd hcd)) hg (pss_one (ps_set hN hj hx b1 hsw hf)) hs, fun {hp F0 H0 F H σ ρ s E} R q => ?_⟩
  obtain ⟨xs, hx, q2⟩ := q.bind.ownAt
  split at q2
  case isFalse => exact q2.elim
  rename_i hz
  obtain ⟨zj, zk, lj, lk⟩ := hz
  obtain ⟨a, vs, h1, h2, h3, h4, h5, h6⟩ := R.sl i _ hx
  refine ⟨.ref a, h1, a, rfl, .inl ⟨⟨vs, .inl (.inl h2)⟩, ?_⟩⟩
  refine ⟨fun n m σ' H' => m = xs.length - n ∧ n ≤ xs.length ∧ σ'[i]? = some (some (.ref a)) ∧ ∃ (F' : Hp) (ρ' : Rho) (s' : HS), (∀ a o, F a = some o → F' a = some o) ∧ ρ'[i]? = some (.own xs) ∧ ρ'.length = ρ.length ∧ Rel X.K T hp F0 H0 F' H' σ' ρ' s' ∧ Post (forOL j k f (xs.drop n) ρ' s') (CtlQ X.K T hp F0 H0 F E) (WX X.K T hp F0 H0 EX),
    ⟨_, rfl, Nat.zero_le _, h1, F, ρ, s, fun _ _ h => h, hx, rfl, R, by rw [List.drop_zero]; exact q2⟩, ?_⟩
  rintro n m σ' H' ⟨rfl, hn, hσ, F', ρ', s', e', hx', hl', R', p'⟩
  obtain ⟨a', vs', k1, k2, k3, k4, k5, k6⟩ := R'.sl i _ hx'
  rw [hσ] at k1
  cases k1
  have sq : SqL X.K H' a vs' := .inl (.inl k2)
  by_cases hlt : n < xs.length
  · refine .inr ⟨⟨vs', vs'[n]'(by rw [k3.len]; exact hlt), sq, List.getElem?_eq_getElem _⟩, fun σ2 H2 => ∃ m', m' < xs.length - n ∧ (m' = xs.length - (n + 1) ∧ n + 1 ≤ xs.length ∧ σ2[i]? = some (some (.ref a)) ∧ ∃ (F' : Hp) (ρ' : Rho) (s' : HS), (∀ a o, F a = some o → F' a = some o) ∧ ρ'[i]? = some (.own xs) ∧ ρ'.length = ρ.length ∧ Rel X.K T hp F0 H0 F' H2 σ2 ρ' s' ∧
      Post (forOL j k f (xs.drop (n + 1)) ρ' s') (CtlQ X.K T hp F0 H0 F E) (WX X.K T hp F0 H0 EX)), fun σ2 H2 h => h, fun x H2 y => ?_⟩
    have hd2 : xs[n]? = some xs[n] := List.getElem?_eq_getElem hlt
    obtain ⟨rfl, y⟩ := y
    obtain ⟨v, u1, u2⟩ := k3.at hd2
    have qv := y vs' sq
    rw [u1] at qv
    cases qv
    rw [List.drop_eq_getElem_cons hlt] at p'
    unfold forOL at p'
    have R2 := R'.setD (i := k) (by omega) u2
    unfold Pat.g
    refine b2 R2 (p'.bind.mono fun d s2 kk F2 H2 w g w1 => ?_)
    have R3 := (R2.grow g).setD (i := j) (by rw [List.length_set]; omega) w1
    refine ⟨_, by omega, rfl, hlt, ?_, F2, _, s2, fun a o z => g.ff _ _ (e' a o z), ?_, by rw [List.length_set, List.length_set, hl'], R3, kk⟩
    · rw [List.getElem?_set_ne (fun z => zj z.symm), List.getElem?_set_ne (fun z => zk z.symm)]
      exact hσ
    · rw [List.getElem?_set_ne (fun z => zj z.symm), List.getElem?_set_ne (fun z => zk z.symm)]
      exact hx'
  · have e2 : n = xs.length := by omega
    subst e2
    rw [List.drop_length] at p'
    exact .inl ⟨⟨vs', sq, Nat.le_of_eq k3.len⟩, p'.ret F' H' σ' e' R'⟩
end
end Jw
/-! Mathematics of what a def is worth: the rules for rewriting. -/
namespace Jw
open PySem PySem.Spec PyProof.Rows L2
instance : LawfulMonad M := LawfulMonad.mk' M
  (id_map := fun {α} x => by
    funext s
    show (x s).bind (fun a s => .ok (id a) s) = x s
    cases x s <;> rfl)
  (pure_bind := fun a f => rfl)
  (bind_assoc := fun {α β γ} x f g => by
    funext s
    show ((x s).bind _).bind _ = (x s).bind _
    cases x s <;> rfl)
/-- one thing behind another: what comes behind is not looked at before its turn -/
inductive Tg {α : Type} {β : Type} (f : α → β) : Type
  | mk
def bnd {α β : Type} (m : M α) (f : α → M β) (t : Tg f := .mk) : M β := m >>= f
def rb {α β : Type} (m : Res α) (f : α → M β) (t : Tg f := .mk) : Res β := m.bind f
@[simp] theorem bnd_pure {α β : Type} (a : α) (f : α → M β) (t : Tg f) : bnd (pure a : M α) f t = f a := Eq.trans rfl rfl
@[simp] theorem bnd_raise {α β : Type} (c : String) (f : α → M β) (t : Tg f) : bnd (M.raise c : M α) f t = M.raise c := Eq.trans rfl rfl
@[simp] theorem bnd_bad {α β : Type} (f : α → M β) (t : Tg f) : bnd (M.bad : M α) f t = M.bad := Eq.trans rfl rfl
@[simp] theorem bnd_ite {α β : Type} (c : Prop) [Decidable c] (m n : M α) (f : α → M β) (t : Tg f) : bnd (if c then m else n) f t = if c then bnd m f else bnd n f := by split <;> rfl
@[simp] theorem bnd_bnd {α β γ : Type} (m : M α) (f : α → M β) (g : β → M γ) (t : Tg f) (u : Tg g) : bnd (bnd m f t) g u = bnd m fun a => bnd (f a) g := by
  unfold bnd
  exact bind_assoc m f g
@[simp] theorem raise_bind {α β : Type} (c : String) (f : α → M β) : (M.raise c : M α) >>= f = M.raise c := Eq.trans rfl rfl
@[simp] theorem bad_bind {α β : Type} (f : α → M β) : (M.bad : M α) >>= f = M.bad := Eq.trans rfl rfl
@[simp] theorem lift_some {α : Type} (a : α) : (O.lift (some a) : M α) = pure a := Eq.trans rfl rfl
@[simp] theorem lift_none {α : Type} : (O.lift none : M α) = M.bad := Eq.trans rfl rfl
@[simp] theorem noexc_pure {α : Type} (a : α) : M.noexc (pure a : M α) = pure a := Eq.trans rfl rfl
@[simp] theorem seqK_nx (g : Rho → M Ctl) (ρ : Rho) : seqK g (.nx ρ) = g ρ := Eq.trans rfl rfl
@[simp] theorem seqK_rt (g : Rho → M Ctl) (d : D) : seqK g (.rt d) = pure (.rt d) := Eq.trans rfl rfl
@[simp] theorem seqK_bk (g : Rho → M Ctl) (ρ : Rho) : seqK g (.bk ρ) = pure (.bk ρ) := Eq.trans rfl rfl
@[simp] theorem seqK_ct (g : Rho → M Ctl) (ρ : Rho) : seqK g (.ct ρ) = pure (.ct ρ) := Eq.trans rfl rfl
@[simp] theorem endK_nx (ρ : Rho) : endK (.nx ρ) = pure .none := Eq.trans rfl rfl
@[simp] theorem endK_rt (d : D) : endK (.rt d) = pure d := Eq.trans rfl rfl
@[simp] theorem ite_bind {α β : Type} (c : Prop) [Decidable c] (m n : M α) (f : α → M β) : (if c then m else n) >>= f = if c then m >>= f else n >>= f := by split <;> rfl
@[simp] theorem bite_bind {α β : Type} (c : Bool) (m n : M α) (f : α → M β) : (bif c then m else n) >>= f = bif c then m >>= f else n >>= f := by cases c <;> rfl
@[simp] theorem gt0 (d : Sl) (ρ : Rho) : (d :: ρ)[0]? = some d := Eq.trans rfl rfl
@[simp] theorem gtS (d : Sl) (ρ : Rho) (i : Nat) : (d :: ρ)[i + 1]? = ρ[i]? := by simp
/-! one step of what is worth, from the outside in -/
section
variable {h h' : D → D → Option D} {hL : D → D → Option (List D)} {g : D → Option D} {gL : D → Option (List D)} {fa fb fc : Rho → M D} {fl fr : Rho → M (List D)} {ft gt : Rho → M Bool} {ff fg : Rho → M Ctl} {fs ft' : Rho → M Sl} {fas : Rho → M (List Sl)} {fo fp : Rho → M (Option Int)} {fz : Rho → M (D × Rho)} {ρ : Rho} {F : List Sl → M D} {i j m : Nat} {pt : Pat} {vs : List Nat} {c : String} {T : String} {bp : D → Rho → Option Rho}
def chK (h' : D → D → Option D) (b : D) (fc : Rho → M D) (ρ : Rho) : D → M D
  | .bool true => bnd (fc ρ) (fun c => O.lift (h' b c))
  | .bool false => pure (.bool false)
  | _ => M.bad
def andK (fb : Rho → M D) (ρ : Rho) : D → M D
  | .bool true => fb ρ
  | .bool false => pure (.bool false)
  | _ => M.bad
def orK (fb : Rho → M D) (ρ : Rho) : D → M D
  | .bool true => pure (.bool true)
  | .bool false => fb ρ
  | _ => M.bad
def sget : Option Sl → M D
  | some (.dat d) => pure d
  | _ => M.bad
def aget : Option Sl → M D
  | some (.dat d) => pure d
  | some (.own xs) => pure (.list xs)
  | _ => M.bad
def oget : Option Sl → M (List D)
  | some (.own xs) => pure xs
  | _ => M.bad
def hget (k : Nat) : Option Sl → M D
  | some .hand => hGet k
  | _ => M.bad
def hset (k : Nat) (ρ : Rho) : Option Sl → D → M Ctl
  | some .hand, .int n => hSet k n ρ
  | _, _ => M.bad
def handK (fr : Rho → M (List Sl)) (ρ : Rho) : Option Sl → M (List Sl)
  | some .hand => bnd (fr ρ) (fun xs => pure (.hand :: xs))
  | _ => M.bad
def frzK (i : Nat) (ρ : Rho) : Option Sl → Rho
  | some (.own xs) => ρ.set i (.dat (.list xs))
  | _ => ρ
def extK (i : Nat) (ρ : Rho) (xs : List D) : D → M Ctl
  | .list ys => if xs.length + ys.length ≤ 16777216 then pure (.nx (ρ.set i (.own (xs ++ ys)))) else M.bad
  | _ => M.bad
@[simp] theorem chK_b (b : D) (z : Bool) : chK h' b fc ρ (.bool z) = if z then bnd (fc ρ) (fun c => O.lift (h' b c)) else pure (.bool false) := by cases z <;> rfl
@[simp] theorem andK_b (z : Bool) : andK fb ρ (.bool z) = if z then fb ρ else pure (.bool false) := by cases z <;> rfl
@[simp] theorem orK_b (z : Bool) : orK fb ρ (.bool z) = if z then pure (.bool true) else fb ρ := by cases z <;> rfl
@[simp] theorem sget_d (d : D) : sget (some (.dat d)) = pure d := Eq.trans rfl rfl
@[simp] theorem aget_d (d : D) : aget (some (.dat d)) = pure d := Eq.trans rfl rfl
@[simp] theorem aget_o (d : List D) : aget (some (.own d)) = pure (.list d) := Eq.trans rfl rfl
@[simp] theorem oget_o (d : List D) : oget (some (.own d)) = pure d := Eq.trans rfl rfl
@[simp] theorem hget_h (k : Nat) : hget k (some .hand) = hGet k := Eq.trans rfl rfl
@[simp] theorem hset_h (k : Nat) (n : Int) : hset k ρ (some .hand) (.int n) = hSet k n ρ := Eq.trans rfl rfl
@[simp] theorem handK_h (fr : Rho → M (List Sl)) : handK fr ρ (some .hand) = bnd (fr ρ) (fun xs => pure (.hand :: xs)) := Eq.trans rfl rfl
@[simp] theorem frzK_o (xs : List D) : frzK i ρ (some (.own xs)) = ρ.set i (.dat (.list xs)) := Eq.trans rfl rfl
@[simp] theorem frzK_d (d : D) : frzK i ρ (some (.dat d)) = ρ := Eq.trans rfl rfl
@[simp] theorem extK_l (xs ys : List D) : extK i ρ xs (.list ys) = if xs.length + ys.length ≤ 16777216 then pure (.nx (ρ.set i (.own (xs ++ ys)))) else M.bad := Eq.trans rfl rfl
@[simp ↓] theorem ap_rdat : rdat i ρ = sget ρ[i]? := Eq.trans rfl rfl
@[simp ↓] theorem ap_rany : rany i ρ = aget ρ[i]? := Eq.trans rfl rfl
@[simp ↓] theorem ap_f2 : f2 h fa fb ρ = bnd (fa ρ) (fun a => bnd (fb ρ) (fun b => O.lift (h a b))) := Eq.trans rfl rfl
@[simp ↓] theorem ap_f2L : f2L hL fa fb ρ = bnd (fa ρ) (fun a => bnd (fb ρ) (fun b => O.lift (hL a b))) := Eq.trans rfl rfl
@[simp ↓] theorem ap_f1 : f1 g fa ρ = bnd (fa ρ) (fun a => O.lift (g a)) := Eq.trans rfl rfl
@[simp ↓] theorem ap_f1L : f1L gL fa ρ = bnd (fa ρ) (fun a => O.lift (gL a)) := Eq.trans rfl rfl
@[simp ↓] theorem ap_fM1 : fM1 T h fa fb ρ = bnd (fa ρ) (fun a => bnd (O.lift (chkT T a)) (fun _ => bnd (fb ρ) (fun b => O.lift (h a b)))) := Eq.trans rfl rfl
@[simp ↓] theorem ap_fList : fList fl ρ = bnd (fl ρ) (fun xs => pure (.list xs)) := Eq.trans rfl rfl
@[simp ↓] theorem ap_fTup : fTup fl ρ = bnd (fl ρ) (fun xs => pure (.tuple xs)) := Eq.trans rfl rfl
@[simp ↓] theorem ap_fDct : fDct fa ρ = bnd (fa ρ) (fun _ => pure (.dict [])) := Eq.trans rfl rfl
@[simp ↓] theorem ap_fChain : fChain h h' fa fb fc ρ = bnd (fa ρ) (fun a => bnd (fb ρ) (fun b => bnd (O.lift (h a b)) (chK h' b fc ρ))) := Eq.trans rfl rfl
@[simp ↓] theorem ap_fTest : fTest fa ρ = bnd (fa ρ) (fun a => O.lift (dBool a)) := Eq.trans rfl rfl
@[simp ↓] theorem ap_fNotT : fNotT ft ρ = bnd (ft ρ) (fun a => pure (!a)) := Eq.trans rfl rfl
@[simp ↓] theorem ap_fAndT : fAndT ft gt ρ = bnd (ft ρ) (fun a => if a then gt ρ else pure false) := Eq.trans rfl rfl
@[simp ↓] theorem ap_fOrT : fOrT ft gt ρ = bnd (ft ρ) (fun a => if a then pure true else gt ρ) := Eq.trans rfl rfl
@[simp ↓] theorem ap_fAndV : fAndV fa fb ρ = bnd (fa ρ) (andK fb ρ) := Eq.trans rfl rfl
@[simp ↓] theorem ap_fOrV : fOrV fa fb ρ = bnd (fa ρ) (orK fb ρ) := Eq.trans rfl rfl
@[simp ↓] theorem ap_fIf : fIf ft fa fb ρ = bnd (ft ρ) (fun c => if c then fa ρ else fb ρ) := Eq.trans rfl rfl
@[simp ↓] theorem ap_dNil : dNil ρ = pure [] := Eq.trans rfl rfl
@[simp ↓] theorem ap_dCons : dCons fa fl ρ = bnd (fa ρ) (fun x => bnd (fl ρ) (fun xs => pure (x :: xs))) := Eq.trans rfl rfl
@[simp ↓] theorem ap_aNil : aNil ρ = pure [] := Eq.trans rfl rfl
@[simp ↓] theorem ap_aCons : aCons fa fas ρ = bnd (fa ρ) (fun x => bnd (fas ρ) (fun xs => pure (.dat x :: xs))) := Eq.trans rfl rfl
@[simp ↓] theorem ap_aHand : aHand i fas ρ = handK fas ρ ρ[i]? := Eq.trans rfl rfl
@[simp ↓] theorem ap_xNil : xNil ρ = pure [] := Eq.trans rfl rfl
@[simp ↓] theorem ap_xCons : xCons fs fas ρ = bnd (fs ρ) (fun x => bnd (fas ρ) (fun xs => pure (x :: xs))) := Eq.trans rfl rfl
@[simp ↓] theorem ap_fCall : fCall F fas ρ = bnd (fas ρ) (F) := Eq.trans rfl rfl
@[simp ↓] theorem ap_nDat : nDat fa ρ = bnd (fa ρ) (fun d => pure (.dat d)) := Eq.trans rfl rfl
@[simp ↓] theorem ap_nOwn : nOwn fl ρ = bnd (fl ρ) (fun d => pure (.own d)) := Eq.trans rfl rfl
@[simp ↓] theorem ap_fSet : fSet i fs ρ = bnd (fs ρ) (fun x => bnd (putSl i x ρ) (fun ρ' => pure (.nx ρ'))) := Eq.trans rfl rfl
@[simp ↓] theorem ap_fUnpack : fUnpack pt fa ρ = bnd (fa ρ) (fun d => bnd (O.lift (pt.bind d ρ)) (fun ρ' => pure (.nx ρ'))) := Eq.trans rfl rfl
@[simp ↓] theorem ap_fPar : fPar i j fs ft' ρ = bnd (fs ρ) (fun x => bnd (ft' ρ) (fun y => bnd (putSl i x ρ) (fun ρ1 => bnd (putSl j y ρ1) (fun ρ2 => pure (.nx ρ2))))) := Eq.trans rfl rfl
@[simp ↓] theorem ap_fUnN : fUnN vs fas ρ = bnd (fas ρ) (fun xs => bnd (putsR vs xs ρ) (fun ρ' => pure (.nx ρ'))) := Eq.trans rfl rfl
@[simp ↓] theorem ap_fRet : fRet fa ρ = bnd (fa ρ) (fun d => pure (.rt d)) := Eq.trans rfl rfl
@[simp ↓] theorem ap_fDrop : fDrop fa ρ = bnd (fa ρ) (fun _ => pure (.nx ρ)) := Eq.trans rfl rfl
@[simp ↓] theorem ap_fIfS : fIfS ft ff fg ρ = bnd (ft ρ) (fun c => if c then ff ρ else fg ρ) := Eq.trans rfl rfl
@[simp ↓] theorem ap_fRaise : fRaise c ρ = M.raise c := Eq.trans rfl rfl
@[simp ↓] theorem ap_fSkip : fSkip ρ = pure (.nx ρ) := Eq.trans rfl rfl
@[simp ↓] theorem ap_fBreak : fBreak ρ = pure (.bk ρ) := Eq.trans rfl rfl
@[simp ↓] theorem ap_fCont : fCont ρ = pure (.ct ρ) := Eq.trans rfl rfl
@[simp ↓] theorem ap_fSeq : fSeq ff fg ρ = bnd (ff ρ) (seqK fg) := Eq.trans rfl rfl
@[simp ↓] theorem ap_fDef (as : List Sl) : fDef m ff as = bnd (ff (as ++ List.replicate m .un)) (endK) := Eq.trans rfl rfl
@[simp ↓] theorem ap_run : run ff ρ = bnd (ff ρ) (endK) := Eq.trans rfl rfl
@[simp ↓] theorem ap_fUn : fUn vs ff ρ = ff (unR ρ vs) := Eq.trans rfl rfl
@[simp ↓] theorem ap_fEnd : fEnd vs ff ρ = bnd (ff ρ) (fun c => pure (c.un vs)) := Eq.trans rfl rfl
@[simp ↓] theorem ap_fFreeze : fFreeze i ff ρ = ff (freeze i ρ) := Eq.trans rfl rfl
@[simp] theorem ap_freeze : freeze i ρ = frzK i ρ ρ[i]? := Eq.trans rfl rfl
@[simp ↓] theorem ap_fFor : fFor fl bp ff ρ = bnd (fl ρ) (fun ds => forL bp ff ds ρ) := Eq.trans rfl rfl
@[simp ↓] theorem ap_fItems : fItems fa ρ = bnd (fa ρ) (fun a => O.lift (dItems a)) := Eq.trans rfl rfl
@[simp ↓] theorem ap_fRng1 : fRng1 fa ρ = bnd (fa ρ) (fun a => O.lift (dRng1 a)) := Eq.trans rfl rfl
@[simp ↓] theorem ap_fRng2 : fRng2 fa fb ρ = bnd (fa ρ) (fun a => bnd (fb ρ) (fun b => O.lift (dRng2 a b))) := Eq.trans rfl rfl
@[simp ↓] theorem ap_fRng3 : fRng3 fa fb fc ρ = bnd (fa ρ) (fun a => bnd (fb ρ) (fun b => bnd (fc ρ) (fun c => O.lift (dRng3 a b c)))) := Eq.trans rfl rfl
@[simp ↓] theorem ap_fIt : fIt gL fa ρ = bnd (fa ρ) (fun a => O.lift (gL a)) := Eq.trans rfl rfl
@[simp ↓] theorem ap_fZip : fZip fa fb ρ = bnd (fa ρ) (fun a => bnd (fb ρ) (fun b => O.lift (dZip a b))) := Eq.trans rfl rfl
@[simp ↓] theorem ap_fLc : fLc vs fl bp ft fa ρ = bnd (fl ρ) (fun ds => if ds.length < 16777216 then lcL bp ft fa (wipeR ρ vs) ds else M.bad) := Eq.trans rfl rfl
@[simp ↓] theorem ap_oNone : oNone ρ = pure none := Eq.trans rfl rfl
@[simp ↓] theorem ap_oSome : oSome fa ρ = bnd (fa ρ) (fun a => bnd (O.lift (dI a)) (fun i => pure (some i))) := Eq.trans rfl rfl
@[simp ↓] theorem ap_fSlice : fSlice fa fo fp ρ = bnd (fa ρ) (fun a => bnd (fo ρ) (fun l => bnd (fp ρ) (fun h => O.lift (dSlice a l h)))) := Eq.trans rfl rfl
@[simp ↓] theorem ap_fSliceL : fSliceL fa fo fp ρ = bnd (fa ρ) (fun a => bnd (fo ρ) (fun l => bnd (fp ρ) (fun h => O.lift (dSliceL a l h)))) := Eq.trans rfl rfl
@[simp ↓] theorem ap_ownAt : ownAt i ρ = oget ρ[i]? := Eq.trans rfl rfl
@[simp ↓] theorem ap_fAppend : fAppend i fa ρ = bnd (ownAt i ρ) (fun xs => bnd (fa ρ) (fun d => if xs.length < 16777216 then pure (.nx (ρ.set i (.own (xs ++ [d])))) else M.bad)) := Eq.trans rfl rfl
@[simp ↓] theorem ap_fExtend : fExtend i fa ρ = bnd (ownAt i ρ) (fun xs => bnd (fa ρ) (extK i ρ xs)) := Eq.trans rfl rfl
@[simp ↓] theorem ap_fSetIx : fSetIx i fa fb ρ = bnd (ownAt i ρ) (fun xs => bnd (fa ρ) (fun d => bnd (fb ρ) (fun k => bnd (O.lift (dI k)) (fun n => bnd (O.lift (L2.ixN xs.length n)) (fun j => pure (.nx (ρ.set i (.own (xs.set j d))))))))) := Eq.trans rfl rfl
@[simp ↓] theorem ap_setAt (d k : D) : setAt i d k ρ = bnd (ownAt i ρ) (fun xs => bnd (O.lift (dI k)) (fun n => bnd (O.lift (L2.ixN xs.length n)) (fun j => pure (ρ.set i (.own (xs.set j d)))))) := Eq.trans rfl rfl
@[simp ↓] theorem ap_fUnIx (fi fj : Rho → M D) : fUnIx i j fa fb fi fj ρ = bnd (fa ρ) (fun a => bnd (fb ρ) (fun b => bnd (ownAt i ρ) (fun _ => bnd (fi ρ) (fun k => bnd (setAt i a k ρ) (fun ρ1 => bnd (ownAt j ρ1) (fun _ => bnd (fj ρ1) (fun m => bnd (setAt j b m ρ1) (fun ρ2 => pure (.nx ρ2))))))))) := Eq.trans rfl rfl
@[simp ↓] theorem ap_fPop : fPop i ρ = bnd (ownAt i ρ) (fun xs => bnd (O.lift (xs[xs.length - 1]?)) (fun d => pure (d, ρ.set i (.own xs.dropLast)))) := Eq.trans rfl rfl
@[simp ↓] theorem ap_fSetP : fSetP j fz ρ = bnd (fz ρ) (fun z => bnd (putSl j (.dat z.1) z.2) (fun ρ' => pure (.nx ρ'))) := Eq.trans rfl rfl
@[simp ↓] theorem ap_fAppendP : fAppendP i fz ρ = bnd (ownAt i ρ) (fun _ => bnd (fz ρ) (fun z => bnd (ownAt i z.2) (fun xs => if xs.length < 16777216 then pure (.nx (z.2.set i (.own (xs ++ [z.1])))) else M.bad))) := Eq.trans rfl rfl
@[simp ↓] theorem ap_fDropP : fDropP fz ρ = bnd (fz ρ) (fun z => pure (.nx z.2)) := Eq.trans rfl rfl
@[simp ↓] theorem ap_fHix : fHix i j ρ = hget j ρ[i]? := Eq.trans rfl rfl
@[simp ↓] theorem ap_fHput (k : Nat) : fHput i k fa ρ = bnd (fa ρ) (hset k ρ ρ[i]?) := Eq.trans rfl rfl
@[simp ↓] theorem ap_fForO (k : Nat) : fForO i j k fa ρ = bnd (ownAt i ρ) (fun xs => if i ≠ j ∧ i ≠ k ∧ j < ρ.length ∧ k < ρ.length then forOL j k fa xs ρ else M.bad) := Eq.trans rfl rfl
@[simp] theorem unR_nil : unR ρ [] = ρ := Eq.trans rfl rfl
@[simp] theorem unR_cons (v : Nat) : unR ρ (v :: vs) = unR (ρ.set v .un) vs := Eq.trans rfl rfl
@[simp] theorem wipeR_nil : wipeR ρ [] = ρ := Eq.trans rfl rfl
@[simp] theorem wipeR_cons (v : Nat) : wipeR ρ (v :: vs) = (wipeR ρ vs).set v .un := Eq.trans rfl rfl
@[simp] theorem putSl_ap (x : Sl) : putSl i x ρ = if i < ρ.length then pure (ρ.set i x) else M.bad := Eq.trans rfl rfl
@[simp] theorem putsR_nil : putsR [] [] ρ = pure ρ := Eq.trans rfl rfl
@[simp] theorem putsR_cons (x : Sl) (xs : List Sl) : putsR (i :: vs) (x :: xs) ρ = bnd (putSl i x ρ) (putsR vs xs) := Eq.trans rfl rfl
@[simp] theorem un_nx : Ctl.un vs (.nx ρ) = .nx (unR ρ vs) := Eq.trans rfl rfl
@[simp] theorem un_bk : Ctl.un vs (.bk ρ) = .bk (unR ρ vs) := Eq.trans rfl rfl
@[simp] theorem un_ct : Ctl.un vs (.ct ρ) = .ct (unR ρ vs) := Eq.trans rfl rfl
@[simp] theorem un_rt (d : D) : Ctl.un vs (.rt d) = .rt d := Eq.trans rfl rfl
@[simp] theorem pb_nm (d : D) : (Pat.nm i).bind d ρ = if i < ρ.length then some (ρ.set i (.dat d)) else none := by unfold Pat.bind; rfl
@[simp] theorem pb_tp (ps : Pats) (ds : List D) : (Pat.tp ps).bind (.tuple ds) ρ = ps.binds ds ρ := by unfold Pat.bind; rfl
@[simp] theorem pbs_nil : Pats.nil.binds [] ρ = some ρ := by unfold Pats.binds; rfl
@[simp] theorem pbs_cons (p : Pat) (ps : Pats) (d : D) (ds : List D) : (Pats.cons p ps).binds (d :: ds) ρ = (p.bind d ρ).bind (ps.binds ds) := by conv => lhs; unfold Pats.binds
end
section
variable (xs : List D) (s : Str) (n : Int) (b : Bool) (lo hi : Option Int)
@[simp] theorem items_l : dItems (.list xs) = some xs := Eq.trans rfl rfl
@[simp] theorem items_t : dItems (.tuple xs) = some xs := Eq.trans rfl rfl
@[simp] theorem listL_l : dListL (.list xs) = some xs := Eq.trans rfl rfl
@[simp] theorem listL_t : dListL (.tuple xs) = some xs := Eq.trans rfl rfl
@[simp] theorem tuple_l : dTuple (.list xs) = some (.tuple xs) := Eq.trans rfl rfl
@[simp] theorem tuple_t : dTuple (.tuple xs) = some (.tuple xs) := Eq.trans rfl rfl
@[simp] theorem int_i : dInt (.int n) = some (.int n) := Eq.trans rfl rfl
@[simp] theorem int_b : dInt (.bool b) = some (.int (if b then 1 else 0)) := Eq.trans rfl rfl
@[simp] theorem len_l : dLen (.list xs) = some (.int xs.length) := Eq.trans rfl rfl
@[simp] theorem len_t : dLen (.tuple xs) = some (.int xs.length) := Eq.trans rfl rfl
@[simp] theorem bool_b : dBool (.bool b) = some b := Eq.trans rfl rfl
@[simp] theorem sum_l : dSum (.list xs) = (dInts xs).map fun ns => .int ns.sum := Eq.trans rfl rfl
@[simp] theorem sumD_l : dSumD (.list xs) = (dInts xs).map fun ns => .int ns.sum := Eq.trans rfl rfl
@[simp] theorem sumD_t : dSumD (.tuple xs) = (dInts xs).map fun ns => .int ns.sum := Eq.trans rfl rfl
@[simp] theorem dI_i : dI (.int n) = some n := Eq.trans rfl rfl
@[simp] theorem not1_b : dNot1 (.bool b) = some (.bool (!b)) := Eq.trans rfl rfl
@[simp] theorem not_b : dNot (.bool b) = some (.bool (!b)) := Eq.trans rfl rfl
@[simp] theorem abs_i : dAbs (.int n) = some (.int (if n < 0 then -n else n)) := Eq.trans rfl rfl
@[simp] theorem neg_i : dNeg (.int n) = some (.int (-n)) := Eq.trans rfl rfl
@[simp] theorem max2_i (m : Int) : dMax2 (.int n) (.int m) = some (.int (if m > n then m else n)) := Eq.trans rfl rfl
@[simp] theorem min2_i (m : Int) : dMin2 (.int n) (.int m) = some (.int (if m < n then m else n)) := Eq.trans rfl rfl
@[simp] theorem isNone_n : isNone .none = true := Eq.trans rfl rfl
@[simp] theorem isNone_i : isNone (.int n) = false := Eq.trans rfl rfl
@[simp] theorem isNone_b : isNone (.bool b) = false := Eq.trans rfl rfl
@[simp] theorem isNone_s : isNone (.str s) = false := Eq.trans rfl rfl
@[simp] theorem isNone_l : isNone (.list xs) = false := Eq.trans rfl rfl
@[simp] theorem isNone_t : isNone (.tuple xs) = false := Eq.trans rfl rfl
@[simp] theorem is_n (d : D) : dIs d .none = some (.bool (isNone d)) := by cases d <;> rfl
@[simp] theorem is_b (a b : Bool) : dIs (.bool a) (.bool b) = some (.bool (decide (a = b))) := Eq.trans rfl rfl
@[simp] theorem isNot_b (a b : Bool) : dIsNot (.bool a) (.bool b) = some (.bool (!decide (a = b))) := Eq.trans rfl rfl
@[simp] theorem isNot_n (d : D) : dIsNot d .none = some (.bool (!isNone d)) := by cases d <;> rfl
@[simp] theorem slice_l : dSlice (.list xs) lo hi = some (.list (cut xs lo hi)) := Eq.trans rfl rfl
@[simp] theorem slice_t : dSlice (.tuple xs) lo hi = some (.tuple (cut xs lo hi)) := Eq.trans rfl rfl
@[simp] theorem sliceL_l : dSliceL (.list xs) lo hi = some (cut xs lo hi) := Eq.trans rfl rfl
@[simp] theorem sliceL_t : dSliceL (.tuple xs) lo hi = none := Eq.trans rfl rfl
@[simp] theorem zip_l (ys : List D) : dZip (.list xs) (.list ys) = some (zipD xs ys) := Eq.trans rfl rfl
@[simp] theorem zip_t (ys : List D) : dZip (.tuple xs) (.tuple ys) = some (zipD xs ys) := Eq.trans rfl rfl
@[simp] theorem enumL_l : dEnumL (.list xs) = some (enumD 0 xs) := Eq.trans rfl rfl
@[simp] theorem enumT_t : dEnumT (.tuple xs) = some (enumD 0 xs) := Eq.trans rfl rfl
@[simp] theorem dTup_ap : dTup xs = .tuple xs := Eq.trans rfl rfl
end
/-! the operators on whole numbers -/
@[simp] theorem eqI (a b : Int) : dEq (.int a) (.int b) = some (.bool (decide (a = b))) := by
  unfold dEq
  rw [if_pos ⟨rfl, rfl⟩]
  congr 2
@[simp] theorem neI (a b : Int) : dNe (.int a) (.int b) = some (.bool (!decide (a = b))) := by
  unfold dNe
  rw [if_pos ⟨rfl, rfl⟩]
  congr 2
@[simp] theorem addI (a b : Int) : dAdd (.int a) (.int b) = some (.int (a + b)) := Eq.trans rfl rfl
@[simp] theorem subI (a b : Int) : dSub (.int a) (.int b) = some (.int (a - b)) := Eq.trans rfl rfl
@[simp] theorem ltI (a b : Int) : dLt (.int a) (.int b) = some (.bool (decide (a < b))) := Eq.trans rfl rfl
@[simp] theorem leI (a b : Int) : dLe (.int a) (.int b) = some (.bool (decide (a ≤ b))) := Eq.trans rfl rfl
@[simp] theorem gtI (a b : Int) : dGt (.int a) (.int b) = some (.bool (decide (b < a))) := Eq.trans rfl rfl
@[simp] theorem geI (a b : Int) : dGe (.int a) (.int b) = some (.bool (decide (b ≤ a))) := Eq.trans rfl rfl
theorem Lg_60 {x : Int} (h : -1152921504606846976 < x ∧ x < 1152921504606846976) : Lg x ≤ 59 := Lg_le (by
  have : (2 : Nat) ^ (59 + 1) = 1152921504606846976 := by decide
  rw [this]
  omega)
@[simp] theorem mul60 {a b : Int} (h : -1152921504606846976 < a ∧ a < 1152921504606846976) (h2 : -1152921504606846976 < b ∧ b < 1152921504606846976) : dMul (.int a) (.int b) = some (.int (a * b)) := mulI (by
  have := Lg_60 h
  have := Lg_60 h2
  omega)
@[simp] theorem div60 {a b : Int} (h : 0 < b ∧ b < 1152921504606846976) : dDiv (.int a) (.int b) = some (.int (a / b)) := divI h.1 (by
  have := Lg_60 (x := b) (by omega)
  omega)
@[simp] theorem rng1I {n : Int} (h : 0 ≤ n ∧ n < 4611686018427387904) : dRng1 (.int n) = some (rng 0 n.toNat) := by
  show (if _ then _ else _) = _
  rw [if_pos (by omega)]
@[simp] theorem rng2I {a b : Int} (h : 0 ≤ a ∧ a < 4611686018427387904 ∧ 0 ≤ b ∧ b < 4611686018427387904) : dRng2 (.int a) (.int b) = some (rng a (b - a).toNat) := by
  show (if _ then _ else _) = _
  rw [if_pos (by omega)]
theorem kit_NoneType_int : kitB "NoneType" "int" = some false := by decide +kernel
@[simp] theorem isi_NoneType_int : dIsi "int" .none = some (.bool false) := congrArg (Option.map PyData.bool) kit_NoneType_int
theorem kit_NoneType_bool : kitB "NoneType" "bool" = some false := by decide +kernel
@[simp] theorem isi_NoneType_bool : dIsi "bool" .none = some (.bool false) := congrArg (Option.map PyData.bool) kit_NoneType_bool
theorem kit_NoneType_tuple : kitB "NoneType" "tuple" = some false := by decide +kernel
@[simp] theorem isi_NoneType_tuple : dIsi "tuple" .none = some (.bool false) := congrArg (Option.map PyData.bool) kit_NoneType_tuple
theorem kit_NoneType_str : kitB "NoneType" "str" = some false := by decide +kernel
@[simp] theorem isi_NoneType_str : dIsi "str" .none = some (.bool false) := congrArg (Option.map PyData.bool) kit_NoneType_str
theorem kit_NoneType_list : kitB "NoneType" "list" = some false := by decide +kernel
@[simp] theorem isi_NoneType_list : dIsi "list" .none = some (.bool false) := congrArg (Option.map PyData.bool) kit_NoneType_list
theorem kit_bool_int : kitB "bool" "int" = some true := by decide +kernel
@[simp] theorem isi_bool_int (b : Bool) : dIsi "int" (.bool b) = some (.bool true) := congrArg (Option.map PyData.bool) kit_bool_int
theorem kit_bool_bool : kitB "bool" "bool" = some true := by decide +kernel
@[simp] theorem isi_bool_bool (b : Bool) : dIsi "bool" (.bool b) = some (.bool true) := congrArg (Option.map PyData.bool) kit_bool_bool
theorem kit_bool_tuple : kitB "bool" "tuple" = some false := by decide +kernel
@[simp] theorem isi_bool_tuple (b : Bool) : dIsi "tuple" (.bool b) = some (.bool false) := congrArg (Option.map PyData.bool) kit_bool_tuple
theorem kit_bool_str : kitB "bool" "str" = some false := by decide +kernel
@[simp] theorem isi_bool_str (b : Bool) : dIsi "str" (.bool b) = some (.bool false) := congrArg (Option.map PyData.bool) kit_bool_str
theorem kit_bool_list : kitB "bool" "list" = some false := by decide +kernel
@[simp] theorem isi_bool_list (b : Bool) : dIsi "list" (.bool b) = some (.bool false) := congrArg (Option.map PyData.bool) kit_bool_list
theorem kit_int_int : kitB "int" "int" = some true := by decide +kernel
@[simp] theorem isi_int_int (b : Int) : dIsi "int" (.int b) = some (.bool true) := congrArg (Option.map PyData.bool) kit_int_int
theorem kit_int_bool : kitB "int" "bool" = some false := by decide +kernel
@[simp] theorem isi_int_bool (b : Int) : dIsi "bool" (.int b) = some (.bool false) := congrArg (Option.map PyData.bool) kit_int_bool
theorem kit_int_tuple : kitB "int" "tuple" = some false := by decide +kernel
@[simp] theorem isi_int_tuple (b : Int) : dIsi "tuple" (.int b) = some (.bool false) := congrArg (Option.map PyData.bool) kit_int_tuple
theorem kit_int_str : kitB "int" "str" = some false := by decide +kernel
@[simp] theorem isi_int_str (b : Int) : dIsi "str" (.int b) = some (.bool false) := congrArg (Option.map PyData.bool) kit_int_str
theorem kit_int_list : kitB "int" "list" = some false := by decide +kernel
@[simp] theorem isi_int_list (b : Int) : dIsi "list" (.int b) = some (.bool false) := congrArg (Option.map PyData.bool) kit_int_list
theorem kit_str_int : kitB "str" "int" = some false := by decide +kernel
@[simp] theorem isi_str_int (b : Str) : dIsi "int" (.str b) = some (.bool false) := congrArg (Option.map PyData.bool) kit_str_int
theorem kit_str_bool : kitB "str" "bool" = some false := by decide +kernel
@[simp] theorem isi_str_bool (b : Str) : dIsi "bool" (.str b) = some (.bool false) := congrArg (Option.map PyData.bool) kit_str_bool
theorem kit_str_tuple : kitB "str" "tuple" = some false := by decide +kernel
@[simp] theorem isi_str_tuple (b : Str) : dIsi "tuple" (.str b) = some (.bool false) := congrArg (Option.map PyData.bool) kit_str_tuple
theorem kit_str_str : kitB "str" "str" = some true := by decide +kernel
@[simp] theorem isi_str_str (b : Str) : dIsi "str" (.str b) = some (.bool true) := congrArg (Option.map PyData.bool) kit_str_str
theorem kit_str_list : kitB "str" "list" = some false := by decide +kernel
@[simp] theorem isi_str_list (b : Str) : dIsi "list" (.str b) = some (.bool false) := congrArg (Option.map PyData.bool) kit_str_list
theorem kit_list_int : kitB "list" "int" = some false := by decide +kernel
@[simp] theorem isi_list_int (b : List D) : dIsi "int" (.list b) = some (.bool false) := congrArg (Option.map PyData.bool) kit_list_int
theorem kit_list_bool : kitB "list" "bool" = some false := by decide +kernel
@[simp] theorem isi_list_bool (b : List D) : dIsi "bool" (.list b) = some (.bool false) := congrArg (Option.map PyData.bool) kit_list_bool
theorem kit_list_tuple : kitB "list" "tuple" = some false := by decide +kernel
@[simp] theorem isi_list_tuple (b : List D) : dIsi "tuple" (.list b) = some (.bool false) := congrArg (Option.map PyData.bool) kit_list_tuple
theorem kit_list_str : kitB "list" "str" = some false := by decide +kernel
@[simp] theorem isi_list_str (b : List D) : dIsi "str" (.list b) = some (.bool false) := congrArg (Option.map PyData.bool) kit_list_str
theorem kit_list_list : kitB "list" "list" = some true := by decide +kernel
@[simp] theorem isi_list_list (b : List D) : dIsi "list" (.list b) = some (.bool true) := congrArg (Option.map PyData.bool) kit_list_list
theorem kit_tuple_int : kitB "tuple" "int" = some false := by decide +kernel
@[simp] theorem isi_tuple_int (b : List D) : dIsi "int" (.tuple b) = some (.bool false) := congrArg (Option.map PyData.bool) kit_tuple_int
theorem kit_tuple_bool : kitB "tuple" "bool" = some false := by decide +kernel
@[simp] theorem isi_tuple_bool (b : List D) : dIsi "bool" (.tuple b) = some (.bool false) := congrArg (Option.map PyData.bool) kit_tuple_bool
theorem kit_tuple_tuple : kitB "tuple" "tuple" = some true := by decide +kernel
@[simp] theorem isi_tuple_tuple (b : List D) : dIsi "tuple" (.tuple b) = some (.bool true) := congrArg (Option.map PyData.bool) kit_tuple_tuple
theorem kit_tuple_str : kitB "tuple" "str" = some false := by decide +kernel
@[simp] theorem isi_tuple_str (b : List D) : dIsi "str" (.tuple b) = some (.bool false) := congrArg (Option.map PyData.bool) kit_tuple_str
theorem kit_tuple_list : kitB "tuple" "list" = some false := by decide +kernel
@[simp] theorem isi_tuple_list (b : List D) : dIsi "list" (.tuple b) = some (.bool false) := congrArg (Option.map PyData.bool) kit_tuple_list
theorem kit_dict_int : kitB "dict" "int" = some false := by decide +kernel
@[simp] theorem isi_dict_int (b : List (D × D)) : dIsi "int" (.dict b) = some (.bool false) := congrArg (Option.map PyData.bool) kit_dict_int
theorem kit_dict_bool : kitB "dict" "bool" = some false := by decide +kernel
@[simp] theorem isi_dict_bool (b : List (D × D)) : dIsi "bool" (.dict b) = some (.bool false) := congrArg (Option.map PyData.bool) kit_dict_bool
theorem kit_dict_tuple : kitB "dict" "tuple" = some false := by decide +kernel
@[simp] theorem isi_dict_tuple (b : List (D × D)) : dIsi "tuple" (.dict b) = some (.bool false) := congrArg (Option.map PyData.bool) kit_dict_tuple
theorem kit_dict_str : kitB "dict" "str" = some false := by decide +kernel
@[simp] theorem isi_dict_str (b : List (D × D)) : dIsi "str" (.dict b) = some (.bool false) := congrArg (Option.map PyData.bool) kit_dict_str
theorem kit_dict_list : kitB "dict" "list" = some false := by decide +kernel
@[simp] theorem isi_dict_list (b : List (D × D)) : dIsi "list" (.dict b) = some (.bool false) := congrArg (Option.map PyData.bool) kit_dict_list
@[simp] theorem pow_i (a b : Int) : dPow (.int a) (.int b) = if 0 ≤ b ∧ b ≤ 1000000 ∧ a.natAbs < 18446744073709551616 then some (.int (a ^ b.toNat)) else none := Eq.trans rfl rfl
/-! comprehensions of data alone -/
theorem lcL_ok {α : Type} {bp : D → Rho → Option Rho} {cond : Rho → M Bool} {elt : Rho → M D} {ρ : Rho} (e : α → D) (p : α → Bool) (g : α → D) : ∀ (xs : List α),
    (∀ x ∈ xs, ∃ ρ1, bp (e x) ρ = some ρ1 ∧ cond ρ1 = pure (p x) ∧ (p x = true → elt ρ1 = pure (g x))) → lcL bp cond elt ρ (xs.map e) = pure ((xs.filter p).map g)
  | [], _ => rfl
  | x :: xs, h => by
    obtain ⟨ρ1, h1, h2, h3⟩ := h x List.mem_cons_self
    have ih := lcL_ok e p g xs fun y hy => h y (List.mem_cons_of_mem _ hy)
    rw [List.map_cons]
    unfold lcL
    rw [h1, lift_some, pure_bind, h2, ih]
    cases q : p x with
    | false => simp [q]
    | true => simp [q, h3 q]
theorem lcL_map {α : Type} {bp : D → Rho → Option Rho} {elt : Rho → M D} {ρ : Rho} (e : α → D) (g : α → D) (xs : List α)
    (h : ∀ x ∈ xs, ∃ ρ1, bp (e x) ρ = some ρ1 ∧ elt ρ1 = pure (g x)) : lcL bp (fun _ => pure true) elt ρ (xs.map e) = pure (xs.map g) := by
  have := lcL_ok (bp := bp) (cond := fun _ => pure true) (elt := elt) (ρ := ρ) e (fun _ => true) g xs fun x hx => by
    obtain ⟨ρ1, h1, h2⟩ := h x hx
    exact ⟨ρ1, h1, rfl, fun _ => h2⟩
  rw [this, List.filter_eq_self.mpr fun _ _ => rfl]
/-! loops of data alone -/
theorem forL_fold {α β : Type} {bp : D → Rho → Option Rho} {body : Rho → M Ctl} (e : α → D) (ro : β → Rho) (step : β → α → β) (P : List α → β → Prop) : ∀ (xs : List α) (b : β), P xs b →
    (∀ x xs b, P (x :: xs) b → (∃ ρ1, bp (e x) (ro b) = some ρ1 ∧ body ρ1 = pure (.nx (ro (step b x)))) ∧ P xs (step b x)) → forL bp body (xs.map e) (ro b) = pure (.nx (ro (xs.foldl step b))) ∧ P [] (xs.foldl step b)
  | [], b, hp, _ => ⟨rfl, hp⟩
  | x :: xs, b, hp, h => by
    obtain ⟨⟨ρ1, h1, h2⟩, h3⟩ := h x xs b hp
    obtain ⟨i1, i2⟩ := forL_fold e ro step P xs (step b x) h3 h
    refine ⟨?_, i2⟩
    rw [List.map_cons]
    unfold forL
    rw [h1, lift_some, pure_bind, h2, pure_bind]
    exact i1
/-- a loop that changes nothing, but may answer -/
theorem forL_find {α : Type} {bp : D → Rho → Option Rho} {body : Rho → M Ctl} (e : α → D) (ρ : Rho) (f : α → Option D) : ∀ (xs : List α),
    (∀ x ∈ xs, ∃ ρ1, bp (e x) ρ = some ρ1 ∧ body ρ1 = pure (match f x with | some d => .rt d | none => .nx ρ)) → forL bp body (xs.map e) ρ = pure (match xs.findSome? f with | some d => .rt d | none => .nx ρ)
  | [], _ => rfl
  | x :: xs, h => by
    obtain ⟨ρ1, h1, h2⟩ := h x List.mem_cons_self
    have ih := forL_find e ρ f xs fun y hy => h y (List.mem_cons_of_mem _ hy)
    rw [List.map_cons]
    unfold forL
    rw [h1, lift_some, pure_bind, h2, pure_bind, List.findSome?_cons]
    cases q : f x with
    | none => exact ih
    | some d => rfl
/-! a loop that only lengthens a list of its own -/
theorem forL_extM (lim : Nat) {α : Type} {bp : D → Rho → Option Rho} {body : Rho → M Ctl} (e : α → D) (ro : List D → Rho) (f : α → List D) (c : Nat) (xs : List α) (b : List D) (hb : b.length + c * xs.length ≤ lim) (hf : ∀ x ∈ xs, (f x).length ≤ c)
    (h : ∀ x ∈ xs, ∀ acc : List D, acc.length + (f x).length ≤ lim → ∃ ρ1, bp (e x) (ro acc) = some ρ1 ∧ body ρ1 = pure (.nx (ro (acc ++ f x)))) : forL bp body (xs.map e) (ro b) = pure (.nx (ro (b ++ xs.flatMap f))) := by
  induction xs generalizing b with
  | nil => simp [forL]
  | cons x xs ih =>
    have hx := hf x List.mem_cons_self
    rw [List.length_cons, Nat.mul_add, Nat.mul_one] at hb
    obtain ⟨ρ1, h1, h2⟩ := h x List.mem_cons_self b (by omega)
    rw [List.map_cons]
    unfold forL
    rw [h1, lift_some, pure_bind, h2, pure_bind]
    have := ih (b ++ f x) (by rw [List.length_append]; omega) (fun y hy => hf y (List.mem_cons_of_mem _ hy)) fun y hy => h y (List.mem_cons_of_mem _ hy)
    rw [List.flatMap_cons, ← List.append_assoc]
    exact this
theorem forL_ext {α : Type} {bp : D → Rho → Option Rho} {body : Rho → M Ctl} (e : α → D) (ro : List D → Rho) (f : α → List D) (c : Nat) (xs : List α) (b : List D) (hb : b.length + c * xs.length ≤ 16000000) (hf : ∀ x ∈ xs, (f x).length ≤ c)
    (h : ∀ x ∈ xs, ∀ acc : List D, acc.length + (f x).length ≤ 16000000 → ∃ ρ1, bp (e x) (ro acc) = some ρ1 ∧ body ρ1 = pure (.nx (ro (acc ++ f x)))) : forL bp body (xs.map e) (ro b) = pure (.nx (ro (b ++ xs.flatMap f))) :=
  forL_extM 16000000 e ro f c xs b hb hf h
/-- an item by place, z where there is none -/
def gd {α : Type} (z : α) (xs : List α) (i : Nat) : α := xs.getD i z
theorem gd_mem {α : Type} (z : α) (xs : List α) {i : Nat} (h : i < xs.length) : gd z xs i ∈ xs := by
  unfold gd
  rw [List.getD_eq_getElem?_getD, List.getElem?_eq_getElem h]
  exact List.getElem_mem h
theorem gd_at {α : Type} (z : α) (xs : List α) {i : Nat} (h : i < xs.length) : gd z xs i = xs[i] := by
  unfold gd
  rw [List.getD_eq_getElem?_getD, List.getElem?_eq_getElem h]
  rfl
/-! limits -/
@[simp] theorem lim_le {α : Type} (a : Nat) (x y : M α) (h : a ≤ 16777216) : (if a ≤ 16777216 then x else y) = x := if_pos h
@[simp] theorem lim_lt {α : Type} (a : Nat) (x y : M α) (h : a < 16777216) : (if a < 16777216 then x else y) = x := if_pos h
@[simp] theorem rng_length (lo : Int) (n : Nat) : (rng lo n).length = n := rng_len lo n
theorem flatMap_len {α β : Type} (f : α → List β) (c : Nat) : ∀ xs : List α, (∀ x ∈ xs, (f x).length ≤ c) → (xs.flatMap f).length ≤ c * xs.length
  | [], _ => Nat.zero_le _
  | x :: xs, h => by
    rw [List.flatMap_cons, List.length_append, List.length_cons, Nat.mul_add]
    have := flatMap_len f c xs fun y hy => h y (List.mem_cons_of_mem _ hy)
    have := h x List.mem_cons_self
    omega
@[simp] theorem seqK_ite (c : Prop) [Decidable c] (g : Rho → M Ctl) (a b : Ctl) : seqK g (if c then a else b) = if c then seqK g a else seqK g b := by split <;> rfl
@[simp] theorem endK_ite (c : Prop) [Decidable c] (a b : Ctl) : endK (if c then a else b) = if c then endK a else endK b := by split <;> rfl
/-- a loop of data alone, by what holds at its head -/
theorem forL_inv {α : Type} {bp : D → Rho → Option Rho} {body : Rho → M Ctl} (e : α → D) (I : List α → Rho → Prop) : ∀ (xs : List α) (ρ : Rho), I xs ρ →
    (∀ x xs ρ, I (x :: xs) ρ → ∃ ρ1, bp (e x) ρ = some ρ1 ∧ ∃ ρ2, body ρ1 = pure (.nx ρ2) ∧ I xs ρ2) → ∃ ρ2, forL bp body (xs.map e) ρ = pure (.nx ρ2) ∧ I [] ρ2
  | [], ρ, hi, _ => ⟨ρ, rfl, hi⟩
  | x :: xs, ρ, hi, h => by
    obtain ⟨ρ1, h1, ρ2, h2, h3⟩ := h x xs ρ hi
    obtain ⟨ρ3, i1, i2⟩ := forL_inv e I xs ρ2 h3 h
    refine ⟨ρ3, ?_, i2⟩
    rw [List.map_cons]
    unfold forL
    rw [h1, lift_some, pure_bind, h2, pure_bind]
    exact i1
/-- a loop that looks for one that is bad -/
theorem forL_any {α : Type} {bp : D → Rho → Option Rho} {body : Rho → M Ctl} (e : α → D) (ρ : Rho) (bad : α → Bool) (d : D) (xs : List α)
    (h : ∀ x ∈ xs, ∃ ρ1, bp (e x) ρ = some ρ1 ∧ body ρ1 = if bad x = true then pure (.rt d) else pure (.nx ρ)) : forL bp body (xs.map e) ρ = if xs.any bad = true then pure (.rt d) else pure (.nx ρ) := by
  induction xs with
  | nil => rfl
  | cons x xs ih =>
    obtain ⟨ρ1, h1, h2⟩ := h x List.mem_cons_self
    have ih := ih fun y hy => h y (List.mem_cons_of_mem _ hy)
    rw [List.map_cons]
    unfold forL
    rw [h1, lift_some, pure_bind, h2, List.any_cons]
    cases q : bad x with
    | false => simpa [q] using ih
    | true => simp
/-- the same, where a slot is forgotten on the way -/
theorem forL_any2 {α : Type} {bp : D → Rho → Option Rho} {body : Rho → M Ctl} (e : α → D) (ro : Sl → Rho) (bad : α → Bool) (d : D) (xs : List α) (z : Sl)
    (h : ∀ x ∈ xs, ∀ z, ∃ ρ1, bp (e x) (ro z) = some ρ1 ∧ body ρ1 = if bad x = true then pure (.rt d) else pure (.nx (ro .un))) : ∃ z', forL bp body (xs.map e) (ro z) = if xs.any bad = true then pure (.rt d) else pure (.nx (ro z')) := by
  induction xs generalizing z with
  | nil => exact ⟨z, rfl⟩
  | cons x xs ih =>
    obtain ⟨ρ1, h1, h2⟩ := h x List.mem_cons_self z
    obtain ⟨z', ih⟩ := ih .un fun y hy => h y (List.mem_cons_of_mem _ hy)
    refine ⟨z', ?_⟩
    rw [List.map_cons]
    unfold forL
    rw [h1, lift_some, pure_bind, h2, List.any_cons]
    cases q : bad x with
    | false => simpa [q] using ih
    | true => simp
/-- a loop that looks for one that is good, and answers with it -/
theorem forL_first {α : Type} {bp : D → Rho → Option Rho} {body : Rho → M Ctl} (e : α → D) (ρ : Rho) (ok : α → Bool) (xs : List α)
    (h : ∀ x ∈ xs, ∃ ρ1, bp (e x) ρ = some ρ1 ∧ body ρ1 = if ok x = true then pure (.rt (e x)) else pure (.nx ρ)) : forL bp body (xs.map e) ρ = pure (match xs.find? ok with | some x => .rt (e x) | none => .nx ρ) := by
  induction xs with
  | nil => rfl
  | cons x xs ih =>
    obtain ⟨ρ1, h1, h2⟩ := h x List.mem_cons_self
    have ih := ih fun y hy => h y (List.mem_cons_of_mem _ hy)
    rw [List.map_cons]
    unfold forL
    rw [h1, lift_some, pure_bind, h2, List.find?_cons]
    cases q : ok x with
    | false => simpa [q] using ih
    | true => simp
theorem zipD_map {α β : Type} (e : α → D) (f : β → D) : ∀ (xs : List α) (ys : List β), zipD (xs.map e) (ys.map f) = (xs.zip ys).map fun p => PyData.tuple [e p.1, f p.2]
  | [], _ => by simp [zipD]
  | _ :: _, [] => by simp [zipD]
  | x :: xs, y :: ys => by simp [zipD, zipD_map e f xs ys]
theorem cut_map {α β : Type} (e : α → β) (xs : List α) (lo hi : Option Int) : cut (xs.map e) lo hi = (cut xs lo hi).map e := by
  unfold cut
  rw [List.length_map, List.map_take, List.map_drop]
theorem cut_from {α : Type} (xs : List α) (n : Nat) : cut xs (some (n : Int)) none = xs.drop n := by
  unfold cut
  rw [HT.sIx_none, HT.sIx_nat]
  rcases Nat.le_total n xs.length with h | h
  · rw [Nat.min_eq_left h, List.take_of_length_le (by rw [List.length_drop]; omega)]
  · rw [Nat.min_eq_right h, List.drop_eq_nil_of_le (Nat.le_refl _), List.drop_eq_nil_of_le h, List.take_nil]
theorem cut_to {α : Type} (xs : List α) (n : Nat) : cut xs none (some (n : Int)) = xs.take n := by
  unfold cut
  rw [HT.sIx_none, HT.sIx_nat, List.drop_zero, Nat.sub_zero]
  rcases Nat.le_total n xs.length with h | h
  · rw [Nat.min_eq_left h]
  · rw [Nat.min_eq_right h, List.take_of_length_le (Nat.le_refl _), List.take_of_length_le h]
theorem zip_tail {α : Type} (z : α) (xs : List α) : xs.zip xs.tail = (List.range (xs.length - 1)).map fun i => (gd z xs i, gd z xs (i + 1)) := by
  refine List.ext_getElem (by simp) fun i h1 h2 => ?_
  simp at h1 h2
  rw [List.getElem_zip, List.getElem_map, List.getElem_range, gd_at z xs (by omega), gd_at z xs (by omega), List.getElem_tail]
/-! data of a form -/
/-- laid and of depth k at most -/
def sh (k : Nat) (d : D) : Prop := d.canLay0 = true ∧ d.depth ≤ k
def shA (k : Nat) (ds : List D) : Prop := PyData.canLayAll0 ds = true ∧ PyData.depthAll ds ≤ k
theorem sh_int (k : Nat) (n : Int) : sh k (.int n) := ⟨by simp [PyData.canLay0], by simp [PyData.depth]⟩
theorem sh_bool (k : Nat) (n : Bool) : sh k (.bool n) := ⟨by simp [PyData.canLay0], by simp [PyData.depth]⟩
theorem sh_str (k : Nat) (n : Str) (h : PyData.strOk n = true) : sh k (.str n) := ⟨by simp [PyData.canLay0, h], by simp [PyData.depth]⟩
theorem sh_none (k : Nat) : sh k .none := ⟨by simp [PyData.canLay0], by simp [PyData.depth]⟩
theorem shA_nil (k : Nat) : shA k [] := ⟨by simp [PyData.canLayAll0], by simp [PyData.depthAll]⟩
theorem shA_cons {k : Nat} {d : D} {ds : List D} (h : sh k d) (hs : shA k ds) : shA k (d :: ds) := ⟨by simp [PyData.canLayAll0, h.1, hs.1], by
  have := h.2
  have := hs.2
  simp [PyData.depthAll]
  omega⟩
theorem shA_of {k : Nat} : ∀ {ds : List D}, (∀ d ∈ ds, sh k d) → shA k ds
  | [], _ => shA_nil k
  | d :: ds, h => shA_cons (h d List.mem_cons_self) (shA_of fun x hx => h x (List.mem_cons_of_mem _ hx))
theorem sh_list {k : Nat} {ds : List D} (h : shA k ds) : sh (k + 1) (.list ds) := ⟨by simp [PyData.canLay0, h.1], by
  have := h.2
  simp [PyData.depth]
  omega⟩
theorem sh_tuple {k : Nat} {ds : List D} (h : shA k ds) : sh (k + 1) (.tuple ds) := ⟨by simp [PyData.canLay0, h.1], by
  have := h.2
  simp [PyData.depth]
  omega⟩
theorem sh.le {j k : Nat} {d : D} (h : sh j d) (i : j ≤ k) : sh k d := ⟨h.1, Nat.le_trans h.2 i⟩
theorem shaped_of {k : Nat} {d : D} (h : sh k d) (i : k ≤ 64) : SeqAt.shaped d = true := by
  unfold SeqAt.shaped
  rw [h.1, decide_eq_true (Nat.le_trans h.2 i)]
  rfl
theorem shA_ints (k : Nat) (xs : List Int) : shA k (xs.map .int) := shA_of fun d hd => by
  obtain ⟨n, _, rfl⟩ := List.mem_map.mp hd
  exact sh_int k n
theorem eq_of {j k : Nat} {a b : D} (ha : sh j a) (hb : sh k b) (hj : j ≤ 64) (hk : k ≤ 64) : dEq a b = some (.bool (PyData.eqv a b)) := by
  unfold dEq
  rw [if_pos ⟨shaped_of ha hj, shaped_of hb hk⟩]
theorem ne_of {j k : Nat} {a b : D} (ha : sh j a) (hb : sh k b) (hj : j ≤ 64) (hk : k ≤ 64) : dNe a b = some (.bool (!PyData.eqv a b)) := by
  unfold dNe
  rw [if_pos ⟨shaped_of ha hj, shaped_of hb hk⟩]
/-! texts that are written -/
theorem lit_eq (s : String) : Str.ofString s = ⟨(s.toList.map Char.toNat).toArray⟩ := congrFun Str.ofString_eq_byList s
@[simp] theorem ok_lit (s : String) : PyData.strOk (Str.ofString s) = true := by
  rw [lit_eq]
  unfold PyData.strOk
  simp
  intro c _
  have := c.valid
  unfold UInt32.isValidChar Nat.isValidChar at this
  show c.val.toNat < _
  omega
@[simp] theorem lit_inj (a b : String) : (Str.ofString a = Str.ofString b) ↔ a = b := by
  refine ⟨fun h => ?_, fun h => h ▸ rfl⟩
  rw [lit_eq, lit_eq] at h
  have h2 : a.toList.map Char.toNat = b.toList.map Char.toNat := by
    have := Str.mk.inj h
    simpa using this
  have h3 : a.toList = b.toList := (List.map_inj_right fun x y e => Char.ext (UInt32.toNat_inj.mp e)).mp h2
  exact String.toList_inj.mp h3
theorem sh_lit (k : Nat) (s : String) : sh k (.str (Str.ofString s)) := sh_str k _ (ok_lit s)
@[simp] theorem eqS (a b : String) : dEq (.str (Str.ofString a)) (.str (Str.ofString b)) = some (.bool (decide (a = b))) := by
  rw [eq_of (sh_lit 0 a) (sh_lit 0 b) (by omega) (by omega)]
  simp [PyData.eqv]
  by_cases h : a = b
  · subst h
    simp
  · simp [h]
@[simp] theorem neS (a b : String) : dNe (.str (Str.ofString a)) (.str (Str.ofString b)) = some (.bool (!decide (a = b))) := by
  rw [ne_of (sh_lit 0 a) (sh_lit 0 b) (by omega) (by omega)]
  simp [PyData.eqv]
  by_cases h : a = b
  · subst h
    simp
  · simp [h]
/-! written lists -/
section
variable {bp : D → Rho → Option Rho} {cond : Rho → M Bool} {elt : Rho → M D} {body : Rho → M Ctl} {ρ : Rho}
@[simp] theorem lcL_nil : lcL bp cond elt ρ [] = pure [] := Eq.trans rfl rfl
@[simp] theorem lcL_cons (x : D) (xs : List D) : lcL bp cond elt ρ (x :: xs) = bnd (O.lift (bp x ρ)) fun ρ1 => bnd (M.noexc (cond ρ1)) fun b => if b then bnd (M.noexc (elt ρ1)) (fun y => bnd (lcL bp cond elt ρ xs) fun ys => pure (y :: ys)) else lcL bp cond elt ρ xs := Eq.trans rfl rfl
def forK (bp : D → Rho → Option Rho) (body : Rho → M Ctl) (xs : List D) : Ctl → M Ctl
  | .nx ρ2 => forL bp body xs ρ2
  | .ct ρ2 => forL bp body xs ρ2
  | .bk ρ2 => pure (.nx ρ2)
  | .rt d => pure (.rt d)
@[simp] theorem forL_nil : forL bp body [] ρ = pure (.nx ρ) := Eq.trans rfl rfl
@[simp] theorem forL_cons (x : D) (xs : List D) : forL bp body (x :: xs) ρ = bnd (O.lift (bp x ρ)) fun ρ1 => bnd (body ρ1) (forK bp body xs) := by
  unfold forL bnd
  congr 1
@[simp] theorem forK_nx (xs : List D) : forK bp body xs (.nx ρ) = forL bp body xs ρ := Eq.trans rfl rfl
@[simp] theorem forK_ct (xs : List D) : forK bp body xs (.ct ρ) = forL bp body xs ρ := Eq.trans rfl rfl
@[simp] theorem forK_bk (xs : List D) : forK bp body xs (.bk ρ) = pure (.nx ρ) := Eq.trans rfl rfl
@[simp] theorem forK_rt (xs : List D) (d : D) : forK bp body xs (.rt d) = pure (.rt d) := Eq.trans rfl rfl
@[simp] theorem dBools_nil : dBools [] = some [] := Eq.trans rfl rfl
@[simp] theorem dBools_cons (b : Bool) (l : List D) : dBools (.bool b :: l) = (dBools l).map (b :: ·) := Eq.trans rfl rfl
@[simp] theorem dInts_nil : dInts [] = some [] := Eq.trans rfl rfl
@[simp] theorem dInts_cons (b : Int) (l : List D) : dInts (.int b :: l) = (dInts l).map (b :: ·) := Eq.trans rfl rfl
@[simp] theorem dAll_l (xs : List D) : dAll (.list xs) = (dBools xs).map fun bs => .bool (bs.all id) := Eq.trans rfl rfl
@[simp] theorem dAny_l (xs : List D) : dAny (.list xs) = (dBools xs).map fun bs => .bool (bs.any id) := Eq.trans rfl rfl
@[simp] theorem cut_from2 {α : Type} (xs : List α) : cut xs (some 2) none = xs.drop 2 := cut_from xs 2
@[simp] theorem cut_from3 {α : Type} (xs : List α) : cut xs (some 3) none = xs.drop 3 := cut_from xs 3
@[simp] theorem cut_from4 {α : Type} (xs : List α) : cut xs (some 4) none = xs.drop 4 := cut_from xs 4
@[simp] theorem cut_from5 {α : Type} (xs : List α) : cut xs (some 5) none = xs.drop 5 := cut_from xs 5
@[simp] theorem cut_from6 {α : Type} (xs : List α) : cut xs (some 6) none = xs.drop 6 := cut_from xs 6
@[simp] theorem cut_from1 {α : Type} (xs : List α) : cut xs (some 1) none = xs.drop 1 := cut_from xs 1
@[simp] theorem cut_fromI {α : Type} (xs : List α) (n : Nat) : cut xs (some (n : Int)) none = xs.drop n := cut_from xs n
@[simp] theorem cut_to2 {α : Type} (xs : List α) : cut xs none (some 2) = xs.take 2 := cut_to xs 2
@[simp] theorem cut_to3 {α : Type} (xs : List α) : cut xs none (some 3) = xs.take 3 := cut_to xs 3
@[simp] theorem cut_to4 {α : Type} (xs : List α) : cut xs none (some 4) = xs.take 4 := cut_to xs 4
@[simp] theorem cut_to5 {α : Type} (xs : List α) : cut xs none (some 5) = xs.take 5 := cut_to xs 5
@[simp] theorem cut_to6 {α : Type} (xs : List α) : cut xs none (some 6) = xs.take 6 := cut_to xs 6
@[simp] theorem cut_to1 {α : Type} (xs : List α) : cut xs none (some 1) = xs.take 1 := cut_to xs 1
@[simp] theorem cut_toI {α : Type} (xs : List α) (n : Nat) : cut xs none (some (n : Int)) = xs.take n := cut_to xs n
end
theorem in_l {j k : Nat} {d : D} {xs : List D} (h : sh j d) (hs : shA k xs) (hj : j ≤ 64) (hk : k ≤ 63) : dIn d (.list xs) = some (.bool (xs.any fun z => PyData.eqv z d)) := by
  have a := shaped_of h hj
  have b := shaped_of (sh_list hs) (by omega)
  unfold dIn
  cases d <;> simp [a, b]
theorem in_t {j k : Nat} {d : D} {xs : List D} (h : sh j d) (hs : shA k xs) (hj : j ≤ 64) (hk : k ≤ 63) : dIn d (.tuple xs) = some (.bool (xs.any fun z => PyData.eqv z d)) := by
  have a := shaped_of h hj
  have b := shaped_of (sh_tuple hs) (by omega)
  unfold dIn
  cases d <;> simp [a, b]
@[simp] theorem addT (a b : List D) (h : a.length + b.length ≤ 16777216) : dAdd (.tuple a) (.tuple b) = some (.tuple (a ++ b)) := by
  show (if _ then _ else _) = _
  rw [if_pos h]
@[simp] theorem addLs (a b : List D) (h : a.length + b.length ≤ 16777216) : dAdd (.list a) (.list b) = some (.list (a ++ b)) := by
  show (if _ then _ else _) = _
  rw [if_pos h]
@[simp] theorem addLL (a b : List D) (h : a.length + b.length ≤ 16777216) : dAddL (.list a) (.list b) = some (a ++ b) := by
  show (if _ then _ else _) = _
  rw [if_pos h]
/-- a loop over an own list that gathers -/
theorem forOL_fold {α β : Type} (j k : Nat) (f : Rho → M D) (e : α → D) (ro : Sl → β → Rho) (g : β → α → β) (P : List α → β → Prop) : ∀ (xs : List α) (z : Sl) (b : β), P xs b →
    (∀ x xs z b, P (x :: xs) b → ∃ d, f ((ro z b).set k (.dat (e x))) = pure d ∧ ((ro z b).set k (.dat (e x))).set j (.dat d) = ro (.dat (e x)) (g b x) ∧ P xs (g b x)) → ∃ z', forOL j k f (xs.map e) (ro z b) = pure (.nx (ro z' (xs.foldl g b))) ∧ P [] (xs.foldl g b)
  | [], z, b, hp, _ => ⟨z, rfl, hp⟩
  | x :: xs, z, b, hp, h => by
    obtain ⟨d, h1, h2, h3⟩ := h x xs z b hp
    obtain ⟨z', i1, i2⟩ := forOL_fold j k f e ro g P xs (.dat (e x)) (g b x) h3 h
    refine ⟨z', ?_, i2⟩
    rw [List.map_cons]
    unfold forOL
    rw [h1, pure_bind, h2]
    exact i1
@[simp] theorem eqB (a b : Bool) : dEq (.bool a) (.bool b) = some (.bool (decide (a = b))) := by
  rw [eq_of (sh_bool 0 a) (sh_bool 0 b) (by omega) (by omega)]
  cases a <;> cases b <;> simp [PyData.eqv]
@[simp] theorem neB (a b : Bool) : dNe (.bool a) (.bool b) = some (.bool (!decide (a = b))) := by
  rw [ne_of (sh_bool 0 a) (sh_bool 0 b) (by omega) (by omega)]
  cases a <;> cases b <;> simp [PyData.eqv]
@[simp] theorem ixN_nat {n i : Nat} (h : i < n) : L2.ixN n (i : Int) = some i := by
  unfold L2.ixN
  rw [if_pos (by omega), if_pos (by omega)]
  rfl
@[simp] theorem cut_fromS {α : Type} (xs : List α) (n : Nat) : cut xs (some ((n : Int) + 1)) none = xs.drop (n + 1) := cut_from xs (n + 1)
/-! ranges, places -/
theorem rng0 (n : Nat) : rng 0 n = (List.range n).map fun i : Nat => PyData.int (i : Int) := by
  unfold rng
  simp
theorem enum_map {α : Type} (e : α → D) : ∀ (xs : List α) (k : Nat), enumD k (xs.map e) = (xs.zipIdx k).map fun p => PyData.tuple [.int p.2, e p.1]
  | [], _ => rfl
  | x :: xs, k => by
    rw [List.map_cons, enumD, enum_map e xs (k + 1), List.zipIdx_cons, List.map_cons]
@[simp] theorem ixT0 (a : D) (l : List D) : dIx (.tuple (a :: l)) (.int 0) = some a := by
  unfold dIx L2.atI L2.ixN
  simp
@[simp] theorem ixT1 (a b : D) (l : List D) : dIx (.tuple (a :: b :: l)) (.int 1) = some b := by
  unfold dIx L2.atI L2.ixN
  simp
  rw [if_pos (by omega)]
  rfl
@[simp] theorem ixT2 (a b c : D) (l : List D) : dIx (.tuple (a :: b :: c :: l)) (.int 2) = some c := by
  unfold dIx L2.atI L2.ixN
  simp
  rw [if_pos (by omega)]
  rfl
@[simp] theorem ixL0 (a : D) (l : List D) : dIx (.list (a :: l)) (.int 0) = some a := by
  unfold dIx L2.atI L2.ixN
  simp
theorem ixT {α : Type} (e : α → D) (z : α) (xs : List α) (i : Nat) (h : i < xs.length) : dIx (.tuple (xs.map e)) (.int (i : Int)) = some (e (gd z xs i)) := by
  rw [gd_at z xs h]
  unfold dIx L2.atI L2.ixN
  simp [h]
theorem ixLn {α : Type} (e : α → D) (z : α) (xs : List α) (i : Nat) (h : i < xs.length) : dIx (.list (xs.map e)) (.int (i : Int)) = some (e (gd z xs i)) := by
  rw [gd_at z xs h]
  unfold dIx L2.atI L2.ixN
  simp [h]
theorem ix_m {α : Type} (e : α → D) (z : α) (xs : List α) (k : Nat) (h : k < xs.length) : L2.atI (xs.map e) (-((k : Int) + 1)) = some (e (gd z xs (xs.length - (k + 1)))) := by
  rw [gd_at z xs (by omega)]
  unfold L2.atI L2.ixN
  rw [List.length_map, if_neg (by omega), if_pos (by omega), Option.bind_some, show (-((k : Int) + 1) + xs.length).toNat = xs.length - (k + 1) by omega, List.getElem?_map, List.getElem?_eq_getElem (by omega)]
  rfl
@[simp] theorem ixLm1 (xs : List Int) (h : 0 < xs.length) : dIx (.list (xs.map .int)) (.int (-1)) = some (.int (gd 0 xs (xs.length - 1))) := ix_m .int 0 xs 0 h
@[simp] theorem ixTm1 (xs : List Int) (h : 0 < xs.length) : dIx (.tuple (xs.map .int)) (.int (-1)) = some (.int (gd 0 xs (xs.length - 1))) := ix_m .int 0 xs 0 h
@[simp] theorem ixTi (xs : List Int) (i : Nat) (h : i < xs.length) : dIx (.tuple (xs.map .int)) (.int (i : Int)) = some (.int (gd 0 xs i)) := ixT .int 0 xs i h
@[simp] theorem ixLi (xs : List Int) (i : Nat) (h : i < xs.length) : dIx (.list (xs.map .int)) (.int (i : Int)) = some (.int (gd 0 xs i)) := ixLn .int 0 xs i h
@[simp] theorem ixTi1 (xs : List Int) (i : Nat) (h : i + 1 < xs.length) : dIx (.tuple (xs.map .int)) (.int ((i : Int) + 1)) = some (.int (gd 0 xs (i + 1))) := ixT .int 0 xs (i + 1) h
@[simp] theorem mod60 {a b : Int} (h : 0 < b) : dMod (.int a) (.int b) = some (.int (a % b)) := modI h
@[simp] theorem dBools_map {α : Type} (f : α → Bool) : ∀ xs : List α, dBools (xs.map fun x => .bool (f x)) = some (xs.map f)
  | [] => rfl
  | x :: xs => by simp [dBools, dBools_map f xs]
@[simp] theorem dInts_map : ∀ xs : List Int, dInts (xs.map .int) = some xs
  | [] => rfl
  | x :: xs => by simp [dInts, dInts_map xs]
@[simp] theorem dInts_mapF {α : Type} (f : α → Int) : ∀ xs : List α, dInts (xs.map fun x => .int (f x)) = some (xs.map f)
  | [] => rfl
  | x :: xs => by simp [dInts, dInts_mapF f xs]
@[simp] theorem dAll_map {α : Type} (f : α → Bool) (xs : List α) : dAll (.list (xs.map fun x => .bool (f x))) = some (.bool (xs.all f)) := by
  simp [dAll, List.all_map]
@[simp] theorem dAny_map {α : Type} (f : α → Bool) (xs : List α) : dAny (.list (xs.map fun x => .bool (f x))) = some (.bool (xs.any f)) := by
  simp [dAny, List.any_map]
/-! what is drawn -/
/-- the drawing object is sound, and at most n numbers were mixed -/
structure Wf (n : Nat) (s : HS) : Prop where
  cells : ∀ c ∈ s.cells, 0 ≤ c ∧ Lg c ≤ 1100000
  nxt : 0 ≤ s.nxt
  rest : 0 ≤ s.rest ∧ Lg s.rest ≤ 1100001
  mix : 0 ≤ s.mix ∧ s.mix < 4294967296
  cnt : 0 ≤ s.cnt ∧ s.cnt ≤ n
theorem Wf.mono {m n : Nat} {s : HS} (w : Wf m s) (h : m ≤ n) : Wf n s := ⟨w.cells, w.nxt, w.rest, w.mix, w.cnt.1, by have := w.cnt.2; omega⟩
/-- with at most k numbers mixed more, the value is as P says -/
structure Dr {α : Type} (k : Nat) (m : M α) (P : α → Prop) : Prop where
  run : ∀ (n : Nat) (s : HS), Wf n s → n + k ≤ 900000000 → Tr (m s) fun a s' => Wf (n + k) s' ∧ P a
theorem Dr.ret {α : Type} {k : Nat} {a : α} {P : α → Prop} (h : P a) : Dr k (pure a : M α) P := ⟨fun n s w hn => ⟨w.mono (Nat.le_add_right _ _), h⟩⟩
theorem Dr.imp {α : Type} {k : Nat} {m : M α} {P R : α → Prop} (h : Dr k m P) (i : ∀ a, P a → R a) : Dr k m R := ⟨fun n s w hn => (h.run n s w hn).imp fun a s' ⟨w1, p⟩ => ⟨w1, i a p⟩⟩
theorem Dr.le {α : Type} {j k : Nat} {m : M α} {P : α → Prop} (h : Dr j m P) (i : j ≤ k) : Dr k m P := ⟨fun n s w hn => (h.run n s w (by omega)).imp fun a s' ⟨w1, p⟩ => ⟨w1.mono (by omega), p⟩⟩
theorem Dr.bind {α β : Type} {j k : Nat} {m : M α} {f : α → M β} {P : β → Prop} {R : α → Prop} (h : Dr j m R) (i : ∀ a, R a → Dr k (f a) P) : Dr (j + k) (m >>= f) P := ⟨fun n s w hn =>
  Tr.andThen (h.run n s w (by omega)) fun a s' ⟨w1, r⟩ => ((i a r).run (n + j) s' w1 (by omega)).imp fun b s2 ⟨w2, p⟩ => ⟨by rw [← Nat.add_assoc]; exact w2, p⟩⟩
theorem Dr.bnd {α β : Type} {j k l : Nat} {m : M α} {f : α → M β} {t : Tg f} {P : β → Prop} {R : α → Prop} (h : Dr j m R) (i : ∀ a, R a → Dr k (f a) P) (e : j + k ≤ l) : Dr l (Jw.bnd m f t) P := (h.bind i).le e
theorem Dr.step {α β : Type} {j l : Nat} {m : M α} {f : α → M β} {t : Tg f} {P : β → Prop} {R : α → Prop} (h : Dr j m R) (i : ∀ a, R a → Dr (l - j) (f a) P) (e : j ≤ l := by omega) : Dr l (Jw.bnd m f t) P := (h.bind i).le (by omega)
/-- bind, the cost given -/
theorem Dr.next {α β : Type} {j k l : Nat} {m : M α} {f : α → M β} {P : β → Prop} {R : α → Prop} (h : Dr j m R) (i : ∀ a, R a → Dr k (f a) P) (e : j + k ≤ l) : Dr l (m >>= f) P := (h.bind i).le e
theorem Dr.eq {α : Type} {k : Nat} {m m' : M α} {P : α → Prop} (e : m = m') (h : Dr k m' P) : Dr k m P := e ▸ h
theorem Dr.noexc {α : Type} {k : Nat} {m : M α} {P : α → Prop} (h : Dr k m P) : Dr k (M.noexc m) P := ⟨fun n s w hn => by
  have := h.run n s w hn
  unfold M.noexc
  cases q : m s with
  | ok a s' => rw [q] at this; exact this
  | exc c s' => rw [q] at this; exact this.elim
  | bad => rw [q] at this; exact this.elim⟩
theorem Dr.map {α β : Type} {k : Nat} {m : M α} {f : α → β} {P : β → Prop} (h : Dr k m fun a => P (f a)) : Dr k (f <$> m) P := by
  rw [map_eq_pure_bind]
  exact (h.bind (k := 0) fun a p => Dr.ret p).le (Nat.le_refl _)
/-- a comprehension that draws -/
theorem Dr.lc {α : Type} {bp : D → Rho → Option Rho} {cond : Rho → M Bool} {elt : Rho → M D} {ρ : Rho} {k : Nat} (e : α → D) {P : D → Prop} : ∀ (xs : List α),
    (∀ x ∈ xs, ∃ ρ1, bp (e x) ρ = some ρ1 ∧ cond ρ1 = pure true ∧ Dr k (elt ρ1) P) → Dr (k * xs.length) (lcL bp cond elt ρ (xs.map e)) fun ds => ds.length = xs.length ∧ ∀ d ∈ ds, P d
  | [], _ => Dr.ret ⟨rfl, fun _ h => nomatch h⟩
  | x :: xs, h => by
    obtain ⟨ρ1, h1, h2, h3⟩ := h x List.mem_cons_self
    have ih := Dr.lc (bp := bp) (cond := cond) (elt := elt) (ρ := ρ) e xs fun y hy => h y (List.mem_cons_of_mem _ hy)
    rw [List.map_cons, List.length_cons]
    unfold lcL
    rw [h1, lift_some, pure_bind, h2, noexc_pure, pure_bind, if_pos rfl]
    refine (h3.noexc.bind fun d hd => ih.bind fun ds ⟨hl, hds⟩ => Dr.ret (k := 0) ⟨by rw [List.length_cons, hl], fun z hz => ?_⟩).le (by rw [Nat.mul_add]; omega)
    rcases List.mem_cons.mp hz with rfl | hz
    · exact hd
    · exact hds z hz
/-- a loop that draws: I holds at its head, R of what it answers -/
theorem Dr.for {α : Type} {bp : D → Rho → Option Rho} {body : Rho → M Ctl} {k : Nat} (e : α → D) (I : List α → Rho → Prop) (R : D → Prop) : ∀ (xs : List α) (ρ : Rho), I xs ρ →
    (∀ x xs ρ, I (x :: xs) ρ → ∃ ρ1, bp (e x) ρ = some ρ1 ∧ Dr k (body ρ1) fun c => (∃ ρ2, c = .nx ρ2 ∧ I xs ρ2) ∨ ∃ d, c = .rt d ∧ R d) → Dr (k * xs.length) (forL bp body (xs.map e) ρ) fun c => (∃ ρ2, c = .nx ρ2 ∧ I [] ρ2) ∨ ∃ d, c = .rt d ∧ R d
  | [], ρ, hi, _ => Dr.ret (.inl ⟨ρ, rfl, hi⟩)
  | x :: xs, ρ, hi, h => by
    obtain ⟨ρ1, h1, h2⟩ := h x xs ρ hi
    rw [List.map_cons, List.length_cons]
    unfold forL
    rw [h1, lift_some, pure_bind]
    refine (h2.bind (k := k * xs.length) fun c hc => ?_).le (by rw [Nat.mul_add]; omega)
    rcases hc with ⟨ρ2, rfl, hi2⟩ | ⟨d, rfl, hd⟩
    · exact Dr.for e I R xs ρ2 hi2 h
    · exact Dr.ret (.inr ⟨d, rfl, hd⟩)
/-- a loop that draws and never answers -/
theorem Dr.forN {α : Type} {bp : D → Rho → Option Rho} {body : Rho → M Ctl} {k : Nat} (e : α → D) (I : List α → Rho → Prop) (xs : List α) (ρ : Rho) (hi : I xs ρ)
    (h : ∀ x xs ρ, I (x :: xs) ρ → ∃ ρ1, bp (e x) ρ = some ρ1 ∧ Dr k (body ρ1) fun c => ∃ ρ2, c = .nx ρ2 ∧ I xs ρ2) : Dr (k * xs.length) (forL bp body (xs.map e) ρ) fun c => ∃ ρ2, c = .nx ρ2 ∧ I [] ρ2 :=
  (Dr.for e I (fun _ => False) xs ρ hi fun x xs ρ hi => let ⟨ρ1, h1, h2⟩ := h x xs ρ hi; ⟨ρ1, h1, h2.imp fun c hc => .inl hc⟩).imp fun c hc => hc.elim id fun ⟨_, _, f⟩ => f.elim
theorem Dr.ite {α : Type} {k : Nat} {c : Prop} [Decidable c] {m n : M α} {P : α → Prop} (h : c → Dr k m P) (h2 : ¬c → Dr k n P) : Dr k (if c then m else n) P := by
  split
  · exact h ‹_›
  · exact h2 ‹_›
theorem Dr.law {m : M D} {k : Nat} {s : HS} (h : Dr k m fun d => d = .bool true) (hk : k ≤ 900000000) (w : Wf 0 s) : Post (m s) (fun d _ => d = .bool true) fun _ _ => False := (h.run 0 s w (by omega)).mono fun d s' x => x.2
/-! the draw itself -/
section
theorem sb {α β : Type} (m : M α) (f : α → M β) (t : Tg f) (s : HS) : (bnd m f t) s = rb (m s) f := rfl
theorem sp {α : Type} (a : α) (s : HS) : (pure a : M α) s = .ok a s := rfl
theorem sl {α : Type} (a : α) (s : HS) : (O.lift (some a) : M α) s = .ok a s := rfl
theorem sk {α β : Type} (a : α) (s : HS) (f : α → M β) (t : Tg f) : rb (Res.ok a s) f t = f a s := rfl
theorem si {α : Type} (c : Prop) [Decidable c] (m n : M α) (s : HS) : (if c then m else n) s = if c then m s else n s := by split <;> rfl
theorem g0 (s : HS) : hGet 0 s = .ok (.list (s.cells.map PyData.int)) s := rfl
theorem g1 (s : HS) : hGet 1 s = .ok (.int s.nxt) s := rfl
theorem g2 (s : HS) : hGet 2 s = .ok (.int s.rest) s := rfl
theorem g3 (s : HS) : hGet 3 s = .ok (.int s.mix) s := rfl
theorem g4 (s : HS) : hGet 4 s = .ok (.int s.cnt) s := rfl
theorem u1 (n : Int) (ρ : Rho) (s : HS) : hSet 1 n ρ s = .ok (.nx ρ) { s with nxt := n } := rfl
theorem u2 (n : Int) (ρ : Rho) (s : HS) : hSet 2 n ρ s = .ok (.nx ρ) { s with rest := n } := rfl
theorem u3 (n : Int) (ρ : Rho) (s : HS) : hSet 3 n ρ s = .ok (.nx ρ) { s with mix := n } := rfl
theorem u4 (n : Int) (ρ : Rho) (s : HS) : hSet 4 n ρ s = .ok (.nx ρ) { s with cnt := n } := rfl
variable {A B C M1 K1 K2 M2 d1 a1 M3 d2 a2 M4 q : Int}
/-- a number is small enough -/
def Ok32 (x : Int) : Prop := 0 < x ∧ x < 4294967296
def drA (A B C M1 : Int) : Rho → M Ctl := fIfS (fAndT (fTest (f2 dEq (fHix 0 2) (fun _ => pure (.int 0)))) (fTest (f2 dLt (fHix 0 1) (f1 dLen (fHix 0 0))))) (fSeq (fSet 2 (nDat (f2 dIx (fHix 0 0) (fHix 0 1))))
  (fSeq (fHput 0 1 (f2 dAdd (fHix 0 1) (fun _ => pure (.int 1))))
  (fSeq (fHput 0 3 (f2 dMod (f1 dInt (f2 dAdd (f2 dAdd (f2 dMul (fHix 0 3) (fun _ => pure (.int A))) (f2 dMul (rdat 2) (fun _ => pure (.int B)))) (fun _ => pure (.int C)))) (fun _ => pure (.int M1))))
  (fHput 0 2 (fIf (fTest (f2 dGe (rdat 2) (f2 dPow (fun _ => pure (.int 10)) (fun _ => pure (.int 18))))) (rdat 2) (fun _ => pure (.int 0))))))) fSkip
def drB : Rho → M Ctl := fIfS (fTest (f2 dGt (fHix 0 2) (fun _ => pure (.int 0)))) (fSeq (fSet 3 (nDat (f2 dMod (f1 dInt (fHix 0 2)) (rdat 1))))
  (fSeq (fHput 0 2 (f2 dDiv (fHix 0 2) (rdat 1)))
  (fRet (rdat 3)))) fSkip
def drC (K1 K2 M2 d1 a1 M3 d2 a2 M4 q : Int) : Rho → M Ctl := fSeq (fHput 0 4 (f2 dAdd (fHix 0 4) (fun _ => pure (.int 1))))
  (fSeq (fSet 4 (nDat (f2 dMod (f1 dInt (f2 dMul (f1 dInt (f2 dAdd (fHix 0 3) (f2 dMul (fun _ => pure (.int K1)) (fHix 0 4)))) (fun _ => pure (.int K2)))) (fun _ => pure (.int M2)))))
  (fSeq (fSet 4 (nDat (f2 dMod (f1 dInt (f2 dMul (rdat 4) (f2 dAdd (f2 dDiv (rdat 4) (fun _ => pure (.int d1))) (fun _ => pure (.int a1))))) (fun _ => pure (.int M3)))))
  (fSeq (fSet 4 (nDat (f2 dMod (f1 dInt (f2 dMul (rdat 4) (f2 dAdd (f2 dDiv (rdat 4) (fun _ => pure (.int d2))) (fun _ => pure (.int a2))))) (fun _ => pure (.int M4)))))
  (fRet (f2 dMod (f1 dInt (f2 dDiv (rdat 4) (fun _ => pure (.int q)))) (rdat 1))))))
def drawF (A B C M1 K1 K2 M2 d1 a1 M3 d2 a2 M4 q : Int) : List Sl → M D := fDef 3 (fSeq (drA A B C M1) (fSeq drB (drC K1 K2 M2 d1 a1 M3 d2 a2 M4 q)))
theorem Lg_n {x : Int} {n : Nat} (h : x.natAbs < 2 ^ (n + 1)) : Lg x ≤ n := Lg_le h
theorem Lg_32 {x : Int} (h : 0 ≤ x ∧ x < 4294967296) : Lg x ≤ 31 := Lg_le (by
  have : (2 : Nat) ^ (31 + 1) = 4294967296 := by decide
  rw [this]
  omega)
theorem drA_ok {n : Nat} {s : HS} {many : D} (hA : Ok32 A) (hB : Ok32 B) (hC : Ok32 C) (hM : Ok32 M1) (w : Wf n s) : Tr (drA A B C M1 [.hand, .dat many, .un, .un, .un] s) fun c s' => Wf n s' ∧ ∃ x, c = .nx [.hand, .dat many, x, .un, .un] := by
  obtain ⟨cells, nxt, rest, mix, cnt⟩ := s
  obtain ⟨h1, h2, h3, h4, h5⟩ := w
  simp only at h1 h2 h3 h4 h5
  unfold drA
  unfold Ok32 at hA hB hC hM
  have w0 : Wf n ⟨cells, nxt, rest, mix, cnt⟩ := ⟨h1, h2, h3, h4, h5⟩
  by_cases hr : rest = 0
  · by_cases hl : nxt < (cells.length : Int)
    · obtain ⟨j, rfl⟩ := Int.eq_ofNat_of_zero_le h2
      have hj : j < cells.length := by omega
      have hc := h1 cells[j] (List.getElem_mem hj)
      have hix : dIx (.list (cells.map PyData.int)) (.int (j : Int)) = some (.int cells[j]) := by
        unfold dIx L2.atI L2.ixN
        simp [hj]
      have e1 : dMul (.int mix) (.int A) = some (.int (mix * A)) := by
        have a := Lg_32 (x := mix) (by omega)
        have b := Lg_32 (x := A) (by omega)
        exact mulI (by omega)
      have e2 : dMul (.int cells[j]) (.int B) = some (.int (cells[j] * B)) := by
        have b := Lg_32 (x := B) (by omega)
        exact mulI (by omega)
      have e3 : dPow (.int 10) (.int 18) = some (.int 1000000000000000000) := rfl
      have e4 : dMod (.int (mix * A + cells[j] * B + C)) (.int M1) = some (.int ((mix * A + cells[j] * B + C) % M1)) := modI hM.1
      have m0 := Int.emod_nonneg (mix * A + cells[j] * B + C) (b := M1) (by omega)
      have m1 := Int.emod_lt_of_pos (mix * A + cells[j] * B + C) (b := M1) (by omega)
      by_cases hg : 1000000000000000000 ≤ cells[j]
      · simp [g0, g1, g2, g3, g4, u1, u2, u3, u4, sb, sp, sl, sk, hr, hix, e1, e2, e3, e4, hl, hg, si]
        exact ⟨⟨h1, by show (0 : Int) ≤ (j : Int) + 1; omega, ⟨hc.1, by show Lg cells[j] ≤ 1100001; omega⟩, ⟨m0, Int.lt_trans m1 hM.2⟩, h5⟩, _, rfl⟩
      · simp [g0, g1, g2, g3, g4, u1, u2, u3, u4, sb, sp, sl, sk, hr, hix, e1, e2, e3, e4, hl, hg, si]
        exact ⟨⟨h1, by show (0 : Int) ≤ (j : Int) + 1; omega, hr ▸ h3, ⟨m0, Int.lt_trans m1 hM.2⟩, h5⟩, _, rfl⟩
    · simp [g0, g1, g2, g3, g4, u1, u2, u3, u4, sb, sp, sl, sk, hr, hl, si]
      exact ⟨hr ▸ w0, _, rfl⟩
  · simp [g0, g1, g2, g3, g4, u1, u2, u3, u4, sb, sp, sl, sk, hr, si]
    exact ⟨w0, _, rfl⟩
theorem drB_ok {n : Nat} {s : HS} {many : Int} {x : Sl} (w : Wf n s) (hm : 0 < many) (hb : Lg many < 9000) : Tr (drB [.hand, .dat (.int many), x, .un, .un] s) fun c s' => Wf n s' ∧ (c = .nx [.hand, .dat (.int many), x, .un, .un] ∨ ∃ v, c = .rt (.int v) ∧ 0 ≤ v ∧ v < many) := by
  obtain ⟨cells, nxt, rest, mix, cnt⟩ := s
  obtain ⟨h1, h2, h3, h4, h5⟩ := w
  simp only at h1 h2 h3 h4 h5
  unfold drB
  by_cases hr : 0 < rest
  · have e1 : dDiv (.int rest) (.int many) = some (.int (rest / many)) := divI hm hb
    have e2 : dMod (.int rest) (.int many) = some (.int (rest % many)) := modI hm
    simp [g0, g1, g2, g3, g4, u1, u2, u3, u4, sb, sp, sl, sk, e1, e2, hr, si]
    have d0 : 0 ≤ rest / many := Int.ediv_nonneg h3.1 (Int.le_of_lt hm)
    have d1 : rest / many ≤ rest := Int.ediv_le_self _ h3.1
    exact ⟨⟨h1, h2, ⟨d0, Nat.le_trans (Lg_mono (by show (rest / many).natAbs ≤ rest.natAbs; omega)) h3.2⟩, h4, h5⟩, .inr ⟨_, rfl, Int.emod_nonneg _ (by omega), Int.emod_lt_of_pos _ hm⟩⟩
  · simp [g0, g1, g2, g3, g4, u1, u2, u3, u4, sb, sp, sl, sk, hr, si]
    exact ⟨⟨h1, h2, h3, h4, h5⟩, .inl rfl⟩
theorem drC_ok {n : Nat} {s : HS} {many : Int} {x : Sl} (k1 : Ok32 K1) (k2 : Ok32 K2) (m2 : Ok32 M2) (hd1 : Ok32 d1) (ha1 : Ok32 a1) (m3 : Ok32 M3) (hd2 : Ok32 d2) (ha2 : Ok32 a2) (m4 : Ok32 M4) (hq : Ok32 q) (w : Wf n s) (hn : n < 1000000000) (hm : 0 < many) :
    Tr (drC K1 K2 M2 d1 a1 M3 d2 a2 M4 q [.hand, .dat (.int many), x, .un, .un] s) fun c s' => Wf (n + 1) s' ∧ ∃ v, c = .rt (.int v) ∧ 0 ≤ v ∧ v < many := by
  obtain ⟨cells, nxt, rest, mix, cnt⟩ := s
  obtain ⟨h1, h2, h3, h4, h5⟩ := w
  simp only at h1 h2 h3 h4 h5
  unfold drC
  unfold Ok32 at k1 k2 m2 hd1 ha1 m3 hd2 ha2 m4 hq
  have e1 : dMul (.int K1) (.int (cnt + 1)) = some (.int (K1 * (cnt + 1))) := by
    have a := Lg_32 (x := cnt + 1) (by omega)
    have b := Lg_32 (x := K1) (by omega)
    exact mulI (by omega)
  have e2 : dMul (.int (mix + K1 * (cnt + 1))) (.int K2) = some (.int ((mix + K1 * (cnt + 1)) * K2)) := by
    have a := Lg_32 (x := cnt + 1) (by omega)
    have b := Lg_32 (x := K1) (by omega)
    have c := Lg_32 (x := mix) (by omega)
    have d := Lg_32 (x := K2) (by omega)
    have e := Lg_mul K1 (cnt + 1)
    have f := Lg_add mix (K1 * (cnt + 1))
    exact mulI (by omega)
  have em : ∀ a : Int, dMod (.int a) (.int M2) = some (.int (a % M2)) := fun a => modI (by omega)
  have em3 : ∀ a : Int, dMod (.int a) (.int M3) = some (.int (a % M3)) := fun a => modI (by omega)
  have em4 : ∀ a : Int, dMod (.int a) (.int M4) = some (.int (a % M4)) := fun a => modI (by omega)
  generalize hz1 : (mix + K1 * (cnt + 1)) * K2 % M2 = z1
  have z1a : 0 ≤ z1 := by rw [← hz1]; exact Int.emod_nonneg _ (by omega)
  have z1b : z1 < M2 := by rw [← hz1]; exact Int.emod_lt_of_pos _ (by omega)
  have e3 : dDiv (.int z1) (.int d1) = some (.int (z1 / d1)) := divI (by omega) (by have := Lg_32 (x := d1) (by omega); omega)
  have mulz : ∀ (z d a : Int), 0 ≤ z → z < 4294967296 → 0 < d → d < 4294967296 → 0 < a → a < 4294967296 → dMul (.int z) (.int (z / d + a)) = some (.int (z * (z / d + a))) := fun z d a h1 h2 h3 h4 h5 h6 => by
    have b := Lg_32 (x := z) (by omega)
    have c := Lg_div z h3
    have e := Lg_add (z / d) a
    have f := Lg_32 (x := a) (by omega)
    exact mulI (by omega)
  have e4 := mulz z1 d1 a1 z1a (by omega) (by omega) (by omega) (by omega) (by omega)
  generalize hz2 : z1 * (z1 / d1 + a1) % M3 = z2
  have z2a : 0 ≤ z2 := by rw [← hz2]; exact Int.emod_nonneg _ (by omega)
  have z2b : z2 < M3 := by rw [← hz2]; exact Int.emod_lt_of_pos _ (by omega)
  have e5 : dDiv (.int z2) (.int d2) = some (.int (z2 / d2)) := divI (by omega) (by have := Lg_32 (x := d2) (by omega); omega)
  have e6 := mulz z2 d2 a2 z2a (by omega) (by omega) (by omega) (by omega) (by omega)
  generalize hz3 : z2 * (z2 / d2 + a2) % M4 = z3
  have e7 : dDiv (.int z3) (.int q) = some (.int (z3 / q)) := divI (by omega) (by have := Lg_32 (x := q) (by omega); omega)
  have e8 : dMod (.int (z3 / q)) (.int many) = some (.int (z3 / q % many)) := modI hm
  simp [g0, g1, g2, g3, g4, u1, u2, u3, u4, sb, sp, sl, sk, si, e1, e2, em, em3, em4, hz1, e3, e4, hz2, e5, e6, hz3, e7, e8]
  exact ⟨⟨h1, h2, h3, h4, by show 0 ≤ cnt + 1; omega, by show cnt + 1 ≤ ((n + 1 : Nat) : Int); omega⟩, _, rfl, Int.emod_nonneg _ (by omega), Int.emod_lt_of_pos _ hm⟩
theorem seq_ok {f g : Rho → M Ctl} {ρ : Rho} {s : HS} {P : Ctl → HS → Prop} (h : Tr (f ρ s) fun c s' => (∃ ρ', c = .nx ρ' ∧ Tr (g ρ' s') P) ∨ (∃ d, c = .rt d ∧ P c s')) : Tr (fSeq f g ρ s) P := by
  unfold fSeq
  refine Tr.bind (h.imp fun c s' k => ?_)
  rcases k with ⟨ρ', rfl, k⟩ | ⟨d, rfl, k⟩
  · exact k
  · exact k
/-- what fits a draw's numbers -/
def DrOk (A B C M1 K1 K2 M2 d1 a1 M3 d2 a2 M4 q : Int) : Prop := Ok32 A ∧ Ok32 B ∧ Ok32 C ∧ Ok32 M1 ∧ Ok32 K1 ∧ Ok32 K2 ∧ Ok32 M2 ∧ Ok32 d1 ∧ Ok32 a1 ∧ Ok32 M3 ∧ Ok32 d2 ∧ Ok32 a2 ∧ Ok32 M4 ∧ Ok32 q
instance (x : Int) : Decidable (Ok32 x) := by unfold Ok32; infer_instance
instance : Decidable (DrOk A B C M1 K1 K2 M2 d1 a1 M3 d2 a2 M4 q) := by unfold DrOk; infer_instance
/-- a number below many is drawn -/
theorem drawF_ok (hk : DrOk A B C M1 K1 K2 M2 d1 a1 M3 d2 a2 M4 q) {many : Int} (hm : 0 < many) (hb : Lg many < 9000) : Dr 1 (drawF A B C M1 K1 K2 M2 d1 a1 M3 d2 a2 M4 q [.hand, .dat (.int many)]) fun d => ∃ v, d = .int v ∧ 0 ≤ v ∧ v < many := by
  refine ⟨fun n s w hn => ?_⟩
  obtain ⟨x1, x2, x3, x4, x5, x6, x7, x8, x9, x10, x11, x12, x13, x14⟩ := hk
  unfold drawF fDef run
  refine Tr.bind ?_
  have key : Tr (fSeq (drA A B C M1) (fSeq drB (drC K1 K2 M2 d1 a1 M3 d2 a2 M4 q)) [.hand, .dat (.int many), .un, .un, .un] s) fun c s' => Wf (n + 1) s' ∧ ∃ v, c = .rt (.int v) ∧ 0 ≤ v ∧ v < many := by
    refine seq_ok ((drA_ok x1 x2 x3 x4 w).imp fun c s1 ⟨w1, x, e⟩ => .inl ⟨_, e, seq_ok ((drB_ok w1 hm hb).imp fun c2 s2 ⟨w2, k⟩ => ?_)⟩)
    rcases k with k | ⟨v, e2, k⟩
    · exact .inl ⟨_, k, drC_ok x5 x6 x7 x8 x9 x10 x11 x12 x13 x14 w2 (by omega) hm⟩
    · exact .inr ⟨_, e2, w2.mono (Nat.le_succ _), v, e2, k⟩
  refine Tr.imp key fun c s' ⟨w', v, e, k⟩ => ?_
  subst e
  exact ⟨w', v, rfl, k⟩
/-- the item that is drawn, of a list or a tuple -/
theorem some_okL {pick : List Sl → M D} (hp : ∀ many : Int, 0 < many → many < 1152921504606846976 → Dr 1 (pick [.hand, .dat (.int many)]) fun d => ∃ v, d = .int v ∧ 0 ≤ v ∧ v < many) (ds : List D) (h0 : 0 < ds.length) (h : ds.length < 16777216) :
    Dr 1 (fDef 0 (fRet (f2 dIx (rdat 1) (fCall pick (aHand 0 (aCons (f1 dLen (rdat 1)) aNil))))) [.hand, .dat (.list ds)]) fun d => d ∈ ds := by
  simp
  refine Dr.step (hp ds.length (by omega) (by omega)) fun d hd => ?_
  obtain ⟨v, rfl, v0, v1⟩ := hd
  obtain ⟨i, rfl⟩ := Int.eq_ofNat_of_zero_le v0
  have e := ixLn (fun d : D => d) .none ds i (by omega)
  rw [List.map_id''] at e
  · simp [e]
    exact Dr.ret (gd_mem _ _ (by omega))
  · exact fun _ => rfl
theorem some_okT {pick : List Sl → M D} (hp : ∀ many : Int, 0 < many → many < 1152921504606846976 → Dr 1 (pick [.hand, .dat (.int many)]) fun d => ∃ v, d = .int v ∧ 0 ≤ v ∧ v < many) (ds : List D) (h0 : 0 < ds.length) (h : ds.length < 16777216) :
    Dr 1 (fDef 0 (fRet (f2 dIx (rdat 1) (fCall pick (aHand 0 (aCons (f1 dLen (rdat 1)) aNil))))) [.hand, .dat (.tuple ds)]) fun d => d ∈ ds := by
  simp
  refine Dr.step (hp ds.length (by omega) (by omega)) fun d hd => ?_
  obtain ⟨v, rfl, v0, v1⟩ := hd
  obtain ⟨i, rfl⟩ := Int.eq_ofNat_of_zero_le v0
  have e := ixT (fun d : D => d) .none ds i (by omega)
  rw [List.map_id''] at e
  · simp [e]
    exact Dr.ret (gd_mem _ _ (by omega))
  · exact fun _ => rfl
theorem drawN (hk : DrOk A B C M1 K1 K2 M2 d1 a1 M3 d2 a2 M4 q) (many : Int) (hm : 0 < many) (hb : many < 1152921504606846976) : Dr 1 (drawF A B C M1 K1 K2 M2 d1 a1 M3 d2 a2 M4 q [.hand, .dat (.int many)]) fun d => ∃ v, d = .int v ∧ 0 ≤ v ∧ v < many :=
  drawF_ok hk hm (by have := Lg_60 (x := many) (by omega); omega)
end
/-! words of errors -/
/-- with at most k numbers mixed more, c is raised -/
structure Xr {α : Type} (k : Nat) (m : M α) (c : String) : Prop where
  run : ∀ (n : Nat) (s : HS), Wf n s → n + k ≤ 900000000 → ∃ s', m s = .exc c s' ∧ Wf (n + k) s'
theorem Xr.raise {α : Type} {k : Nat} {c : String} : Xr k (M.raise c : M α) c := ⟨fun n s w _ => ⟨s, rfl, w.mono (Nat.le_add_right _ _)⟩⟩
theorem Xr.step {α β : Type} {j l : Nat} {m : M α} {f : α → M β} {t : Tg f} {c : String} {R : α → Prop} (h : Dr j m R) (i : ∀ a, R a → Xr (l - j) (f a) c) (e : j ≤ l := by omega) : Xr l (Jw.bnd m f t) c := ⟨fun n s w hn => by
  have h1 := h.run n s w (by omega)
  show ∃ s', (m s).bind f = .exc c s' ∧ _
  cases q : m s with
  | ok a s1 =>
    rw [q] at h1
    obtain ⟨w1, r⟩ := h1
    obtain ⟨s2, e2, w2⟩ := (i a r).run (n + j) s1 w1 (by omega)
    exact ⟨s2, e2, w2.mono (by omega)⟩
  | exc c s1 => rw [q] at h1; exact h1.elim
  | bad => rw [q] at h1; exact h1.elim⟩
theorem Xr.stepX {α β : Type} {l : Nat} {m : M α} {f : α → M β} {t : Tg f} {c : String} (h : Xr l m c) : Xr l (Jw.bnd m f t) c := ⟨fun n s w hn => by
  obtain ⟨s1, e, w1⟩ := h.run n s w hn
  exact ⟨s1, by show (m s).bind f = _; rw [e]; rfl, w1⟩⟩
theorem Dr.word {k : Nat} {ks : List (String × Str)} {told w : Str} {f : Rho → M D} {ρ : Rho} {c : String} (h : Xr k (f (mask ρ)) c) (hw : ks.lookup c = some w) : Dr k (fWord ks told f ρ) fun d => d = .str w := ⟨fun n s wf hn => by
  obtain ⟨s1, e, w1⟩ := h.run n s wf hn
  unfold fWord
  rw [e]
  show Tr (match ks.lookup c with | some w => _ | none => _) _
  rw [hw]
  exact ⟨w1, rfl⟩⟩
theorem Dr.told {k : Nat} {ks : List (String × Str)} {told : Str} {f : Rho → M D} {ρ : Rho} {P : D → Prop} (h : Dr k (f (mask ρ)) P) : Dr k (fWord ks told f ρ) fun d => d = .str told := ⟨fun n s wf hn => by
  have h1 := h.run n s wf hn
  unfold fWord
  cases q : f (mask ρ) s with
  | ok a s1 =>
    rw [q] at h1
    exact ⟨h1.1, rfl⟩
  | exc c s1 => rw [q] at h1; exact h1.elim
  | bad => rw [q] at h1; exact h1.elim⟩
@[simp] theorem mask_nil : mask [] = [] := Eq.trans rfl rfl
@[simp] theorem mask_dat (d : D) (ρ : Rho) : mask (.dat d :: ρ) = .dat d :: mask ρ := Eq.trans rfl rfl
@[simp] theorem mask_own (d : List D) (ρ : Rho) : mask (.own d :: ρ) = .un :: mask ρ := Eq.trans rfl rfl
@[simp] theorem mask_un (ρ : Rho) : mask (.un :: ρ) = .un :: mask ρ := Eq.trans rfl rfl
@[simp] theorem mask_hand (ρ : Rho) : mask (.hand :: ρ) = .hand :: mask ρ := Eq.trans rfl rfl
theorem fcM_ok (N : Int) (n : Int) (h : (10 : Nat) ^ N.toNat ≤ 2 ^ 250) : 0 ≤ fcM N n ∧ Lg (fcM N n) ≤ 1100000 := by
  unfold fcM
  have hp : (0 : Int) < 10 ^ N.toNat := by
    have := Nat.pow_pos (a := 10) (n := N.toNat) (by omega)
    have e : ((10 ^ N.toNat : Nat) : Int) = (10 : Int) ^ N.toNat := by simp
    omega
  rw [Int.fmod_eq_emod_of_nonneg _ (Int.le_of_lt hp)]
  have h0 := Int.emod_nonneg (absI n) (b := 10 ^ N.toNat) (by omega)
  have h1 := Int.emod_lt_of_pos (absI n) hp
  refine ⟨h0, Nat.le_trans (Lg_le (k := 250) ?_) (by omega)⟩
  have e : ((10 ^ N.toNat : Nat) : Int) = (10 : Int) ^ N.toNat := by simp
  have h2 : (absI n % 10 ^ N.toNat).natAbs < 10 ^ N.toNat := by omega
  exact Nat.lt_of_lt_of_le h2 (Nat.le_trans h (Nat.pow_le_pow_right (by omega) (by omega)))
/-- the drawing object at its start -/
theorem wf_start (fc : Int → Int) (c0 c1 : Int) (ns : List Int) (hf : ∀ n ∈ ns, 0 ≤ fc n ∧ Lg (fc n) ≤ 1100000) (hl : ns.length ≤ 63) (h0 : 0 ≤ c0 ∧ c0 < 1000000) (h1 : 0 ≤ c1 ∧ c1 < 1000) : Wf 0 ⟨ns.map fc, 0, 0, c0 + c1 * (ns.length : Int), 0⟩ := by
  have a : 0 ≤ c1 * (ns.length : Int) := Int.mul_nonneg h1.1 (by omega)
  have b : c1 * (ns.length : Int) ≤ c1 * 63 := Int.mul_le_mul_of_nonneg_left (by omega) h1.1
  refine ⟨fun c hc => ?_, by simp, ⟨Int.le_refl 0, Nat.le_trans (Lg_60 (x := 0) (by omega)) (by omega)⟩, ⟨by show 0 ≤ c0 + c1 * (ns.length : Int); omega, by show c0 + c1 * (ns.length : Int) < _; omega⟩, by simp⟩
  obtain ⟨n, hn, rfl⟩ := List.mem_map.mp hc
  exact hf n hn
end Jw
/-! What every law's texts hold. -/
namespace Jw
open PySem
def F_is_integer : List Sl → M D := fDef 0 (fRet (fAndV (f1 (dIsi "int") (rdat 0)) (f1 dNot (f1 (dIsi "bool") (rdat 0)))))
def F_is_within : List Sl → M D := fDef 0 (fRet (fAndV (fCall F_is_integer (aCons (rdat 0) aNil)) (fChain dLe dLe (rdat 1) (rdat 0) (rdat 2))))
def F_is_tuple : List Sl → M D := fDef 0 (fRet (fAndV (f1 (dIsi "tuple") (rdat 0)) (fChain dLe dLe (rdat 1) (f1 dLen (rdat 0)) (rdat 2))))
def isI : D → Bool
  | .int _ => true
  | _ => false
/-- a whole number from lo to hi -/
def wi (lo hi : Int) : D → Bool
  | .int n => decide (lo ≤ n) && decide (n ≤ hi)
  | _ => false
/-- a tuple of lo to hi items -/
def tl (lo hi : Int) : D → Bool
  | .tuple xs => decide (lo ≤ (xs.length : Int)) && decide ((xs.length : Int) ≤ hi)
  | _ => false
@[simp] theorem wi_int (lo hi n : Int) : wi lo hi (.int n) = (decide (lo ≤ n) && decide (n ≤ hi)) := Eq.trans rfl rfl
@[simp] theorem wi_none (lo hi : Int) : wi lo hi .none = false := Eq.trans rfl rfl
@[simp] theorem wi_bool (lo hi : Int) (b : Bool) : wi lo hi (.bool b) = false := Eq.trans rfl rfl
@[simp] theorem wi_str (lo hi : Int) (b : Str) : wi lo hi (.str b) = false := Eq.trans rfl rfl
@[simp] theorem wi_list (lo hi : Int) (b : List D) : wi lo hi (.list b) = false := Eq.trans rfl rfl
@[simp] theorem wi_tuple (lo hi : Int) (b : List D) : wi lo hi (.tuple b) = false := Eq.trans rfl rfl
@[simp] theorem tl_int (lo hi n : Int) : tl lo hi (.int n) = false := Eq.trans rfl rfl
@[simp] theorem tl_none (lo hi : Int) : tl lo hi .none = false := Eq.trans rfl rfl
@[simp] theorem tl_bool (lo hi : Int) (b : Bool) : tl lo hi (.bool b) = false := Eq.trans rfl rfl
@[simp] theorem tl_str (lo hi : Int) (b : Str) : tl lo hi (.str b) = false := Eq.trans rfl rfl
@[simp] theorem tl_list (lo hi : Int) (b : List D) : tl lo hi (.list b) = false := Eq.trans rfl rfl
@[simp] theorem tl_tuple (lo hi : Int) (xs : List D) : tl lo hi (.tuple xs) = (decide (lo ≤ (xs.length : Int)) && decide ((xs.length : Int) ≤ hi)) := Eq.trans rfl rfl
@[simp] theorem wi_dict (lo hi : Int) (b : List (D × D)) : wi lo hi (.dict b) = false := Eq.trans rfl rfl
@[simp] theorem tl_dict (lo hi : Int) (b : List (D × D)) : tl lo hi (.dict b) = false := Eq.trans rfl rfl
theorem lcL_self {bp : D → Rho → Option Rho} {elt : Rho → M D} {ρ : Rho} (g : D → D) (xs : List D) (h : ∀ x ∈ xs, ∃ ρ1, bp x ρ = some ρ1 ∧ elt ρ1 = pure (g x)) : lcL bp (fun _ => pure true) elt ρ xs = pure (xs.map g) := by
  have := lcL_map (bp := bp) (elt := elt) (ρ := ρ) (fun d : D => d) g xs h
  rwa [List.map_id''] at this
  exact fun _ => rfl
@[simp] theorem E_integer (d : D) : F_is_integer [.dat d] = pure (.bool (isI d)) := by
  unfold F_is_integer
  cases d <;> simp [isI]
@[simp] theorem E_within (d : D) (lo hi : Int) : F_is_within [.dat d, .dat (.int lo), .dat (.int hi)] = pure (.bool (wi lo hi d)) := by
  unfold F_is_within
  cases d with
  | int n =>
    by_cases h : lo ≤ n <;> simp [isI, wi, h]
  | _ => simp [isI, wi]
@[simp] theorem E_tuple (d : D) (lo hi : Int) : F_is_tuple [.dat d, .dat (.int lo), .dat (.int hi)] = pure (.bool (tl lo hi d)) := by
  unfold F_is_tuple
  cases d with
  | tuple xs =>
    by_cases h : lo ≤ (xs.length : Int) <;> simp [tl, h]
  | _ => simp [tl]
end Jw
/-! Orders of data: the least of some is the first of the sorted. -/
namespace Jw
open PySem PySem.W
/-- Python's order is an order -/
class OrdOk (α : Type) [DecidableEq α] [DatumOrd α] : Prop where
  irr : ∀ a : α, DatumOrd.lt a a = false
  tr : ∀ a b c : α, DatumOrd.lt a b = true → DatumOrd.lt b c = true → DatumOrd.lt a c = true
  tri : ∀ a b : α, DatumOrd.lt a b = false → DatumOrd.lt b a = false → a = b
instance : OrdOk Int where
  irr a := by show decide (a < a) = false; simp
  tr a b c h1 h2 := by
    have h1 : decide (a < b) = true := h1
    have h2 : decide (b < c) = true := h2
    show decide (a < c) = true
    simp at *
    omega
  tri a b h1 h2 := by
    have h1 : decide (a < b) = false := h1
    have h2 : decide (b < a) = false := h2
    simp at *
    omega
section
variable {α β γ δ : Type} [DecidableEq α] [DatumOrd α] [OrdOk α] [DecidableEq β] [DatumOrd β] [OrdOk β] [DecidableEq γ] [DatumOrd γ] [OrdOk γ] [DecidableEq δ] [DatumOrd δ] [OrdOk δ]
theorem ll_irr : ∀ xs : List α, listLt xs xs = false
  | [] => rfl
  | x :: xs => by unfold listLt; rw [if_pos rfl]; exact ll_irr xs
theorem ll_tr : ∀ xs ys zs : List α, listLt xs ys = true → listLt ys zs = true → listLt xs zs = true
  | [], [], _, h, _ => by simp [listLt] at h
  | [], _ :: _, [], _, h => by simp [listLt] at h
  | [], _ :: _, _ :: _, _, _ => rfl
  | _ :: _, [], _, h, _ => by simp [listLt] at h
  | _ :: _, _ :: _, [], _, h => by simp [listLt] at h
  | x :: xs, y :: ys, z :: zs, h1, h2 => by
    unfold listLt at *
    by_cases a : x = y
    · subst a
      rw [if_pos rfl] at h1
      by_cases b : x = z
      · rw [if_pos b] at h2 ⊢
        exact ll_tr xs ys zs h1 h2
      · rw [if_neg b] at h2 ⊢
        exact h2
    · rw [if_neg a] at h1
      by_cases b : y = z
      · subst b
        rw [if_neg a]
        exact h1
      · rw [if_neg b] at h2
        by_cases c : x = z
        · subst c
          have := OrdOk.tr x y x h1 h2
          rw [OrdOk.irr] at this
          cases this
        · rw [if_neg c]
          exact OrdOk.tr x y z h1 h2
theorem ll_tri : ∀ xs ys : List α, listLt xs ys = false → listLt ys xs = false → xs = ys
  | [], [], _, _ => rfl
  | [], _ :: _, h, _ => by simp [listLt] at h
  | _ :: _, [], _, h => by simp [listLt] at h
  | x :: xs, y :: ys, h1, h2 => by
    unfold listLt at *
    by_cases a : x = y
    · subst a
      rw [if_pos rfl] at h1 h2
      rw [ll_tri xs ys h1 h2]
    · rw [if_neg a] at h1
      rw [if_neg (fun e => a e.symm)] at h2
      exact absurd (OrdOk.tri x y h1 h2) a
instance : OrdOk (List α) := ⟨ll_irr, ll_tr, ll_tri⟩
instance : OrdOk (Tup α) := ⟨fun a => ll_irr a.items, fun a b c => ll_tr a.items b.items c.items, fun a b h1 h2 => by
  cases a
  cases b
  exact congrArg Tup.mk (ll_tri _ _ h1 h2)⟩
/-- first by one, then by another -/
theorem lex_irr {P : Prop} [Decidable P] {x y : Bool} (hp : P) (h : x = false) : (if P then x else y) = false := by rw [if_pos hp]; exact h
instance : OrdOk (α × β) where
  irr a := by
    show (if a.1 = a.1 then DatumOrd.lt a.2 a.2 else _) = false
    rw [if_pos rfl, OrdOk.irr]
  tr a b c h1 h2 := by
    have h1 : (if a.1 = b.1 then DatumOrd.lt a.2 b.2 else DatumOrd.lt a.1 b.1) = true := h1
    have h2 : (if b.1 = c.1 then DatumOrd.lt b.2 c.2 else DatumOrd.lt b.1 c.1) = true := h2
    show (if a.1 = c.1 then DatumOrd.lt a.2 c.2 else DatumOrd.lt a.1 c.1) = true
    by_cases e1 : a.1 = b.1
    · rw [if_pos e1] at h1
      by_cases e2 : b.1 = c.1
      · rw [if_pos e2] at h2
        rw [if_pos (e1.trans e2)]
        exact OrdOk.tr _ _ _ h1 h2
      · rw [if_neg e2] at h2
        rw [e1, if_neg e2]
        exact h2
    · rw [if_neg e1] at h1
      by_cases e2 : b.1 = c.1
      · rw [← e2, if_neg e1]
        exact h1
      · rw [if_neg e2] at h2
        have h3 := OrdOk.tr _ _ _ h1 h2
        rw [if_neg (fun e => by rw [e, OrdOk.irr] at h3; cases h3)]
        exact h3
  tri a b h1 h2 := by
    have h1 : (if a.1 = b.1 then DatumOrd.lt a.2 b.2 else DatumOrd.lt a.1 b.1) = false := h1
    have h2 : (if b.1 = a.1 then DatumOrd.lt b.2 a.2 else DatumOrd.lt b.1 a.1) = false := h2
    by_cases e1 : a.1 = b.1
    · rw [if_pos e1] at h1
      rw [if_pos e1.symm] at h2
      exact Prod.ext e1 (OrdOk.tri _ _ h1 h2)
    · rw [if_neg e1] at h1
      rw [if_neg (fun e => e1 e.symm)] at h2
      exact absurd (OrdOk.tri _ _ h1 h2) e1
theorem t3_lt (p q : T3 α β γ) : DatumOrd.lt p q = DatumOrd.lt (p.a, (p.b, p.c)) (q.a, (q.b, q.c)) := rfl
instance : OrdOk (T3 α β γ) where
  irr p := by rw [t3_lt]; exact OrdOk.irr _
  tr p q r h1 h2 := by rw [t3_lt] at *; exact OrdOk.tr _ _ _ h1 h2
  tri p q h1 h2 := by
    rw [t3_lt] at h1 h2
    have e := OrdOk.tri _ _ h1 h2
    exact T3.same (congrArg (·.1) e) (congrArg (·.2.1) e) (congrArg (·.2.2) e)
theorem t4_lt (p q : T4 α β γ δ) : DatumOrd.lt p q = DatumOrd.lt (p.a, (p.b, (p.c, p.d))) (q.a, (q.b, (q.c, q.d))) := rfl
instance : OrdOk (T4 α β γ δ) where
  irr p := by rw [t4_lt]; exact OrdOk.irr _
  tr p q r h1 h2 := by rw [t4_lt] at *; exact OrdOk.tr _ _ _ h1 h2
  tri p q h1 h2 := by
    rw [t4_lt] at h1 h2
    have e := OrdOk.tri _ _ h1 h2
    exact T4.same (congrArg (·.1) e) (congrArg (·.2.1) e) (congrArg (·.2.2.1) e) (congrArg (·.2.2.2) e)
/-! sorted -/
def srt (xs : List α) : List α := xs.mergeSort fun a b => !DatumOrd.lt b a
theorem le_tr (a b c : α) (h1 : (!DatumOrd.lt b a) = true) (h2 : (!DatumOrd.lt c b) = true) : (!DatumOrd.lt c a) = true := by
  simp only [Bool.not_eq_true'] at *
  cases h : DatumOrd.lt c a with
  | false => rfl
  | true =>
    by_cases e : a = b
    · subst e
      rw [h] at h2
      exact h2
    · have h3 : DatumOrd.lt a b = true := by
        cases q : DatumOrd.lt a b with
        | true => rfl
        | false => exact absurd (OrdOk.tri a b q h1) e
      rw [OrdOk.tr _ _ _ h h3] at h2
      exact h2
theorem le_total (a b : α) : (!DatumOrd.lt b a || !DatumOrd.lt a b) = true := by
  cases h1 : DatumOrd.lt b a with
  | false => rfl
  | true =>
    cases h2 : DatumOrd.lt a b with
    | false => rfl
    | true =>
      have := OrdOk.tr _ _ _ h1 h2
      rw [OrdOk.irr] at this
      cases this
theorem srt_pairwise (xs : List α) : (srt xs).Pairwise fun a b => (!DatumOrd.lt b a) = true := List.pairwise_mergeSort (fun a b c => le_tr a b c) (fun a b => le_total a b) xs
theorem mem_srt (xs : List α) (x : α) : x ∈ srt xs ↔ x ∈ xs := List.mem_mergeSort
theorem srt_len (xs : List α) : (srt xs).length = xs.length := (List.mergeSort_perm xs _).length_eq
theorem sortD_map (xs : List α) : sortD (xs.map Datum.toD) = (srt xs).map Datum.toD := by
  unfold sortD srt
  exact (List.map_mergeSort fun a _ b _ => by rw [DatumOrd.lt_eq b a]).symm
/-! the least -/
theorem minOf_mem (x : α) (xs : List α) : minOf x xs ∈ x :: xs := by
  unfold minOf
  induction xs generalizing x with
  | nil => exact List.mem_cons_self
  | cons y ys ih =>
    rw [List.foldl_cons]
    split
    · exact List.mem_cons_of_mem _ (ih y)
    · rcases List.mem_cons.mp (ih x) with e | e
      · rw [e]
        exact List.mem_cons_self
      · exact List.mem_cons_of_mem _ (List.mem_cons_of_mem _ e)
theorem minOf_le (x : α) (xs : List α) : ∀ y ∈ x :: xs, DatumOrd.lt y (minOf x xs) = false := by
  unfold minOf
  induction xs generalizing x with
  | nil =>
    intro y hy
    rw [List.mem_singleton.mp hy]
    exact OrdOk.irr x
  | cons z zs ih =>
    intro y hy
    rw [List.foldl_cons]
    have key : ∀ a b : α, DatumOrd.lt a (List.foldl (fun a y => if DatumOrd.lt y a = true then y else a) a zs) = false → (!DatumOrd.lt b a) = true → DatumOrd.lt b (List.foldl (fun a y => if DatumOrd.lt y a = true then y else a) a zs) = false := fun a b h1 h2 => by
      have := le_tr (List.foldl (fun a y => if DatumOrd.lt y a = true then y else a) a zs) a b (by rw [h1]; rfl) h2
      simpa using this
    by_cases hz : DatumOrd.lt z x = true
    · rw [if_pos hz]
      rcases List.mem_cons.mp hy with rfl | hy
      · refine key z y (ih z z List.mem_cons_self) ?_
        cases q : DatumOrd.lt y z with
        | false => rfl
        | true =>
          have := OrdOk.tr _ _ _ q hz
          rw [OrdOk.irr] at this
          cases this
      · exact ih z y hy
    · rw [if_neg hz]
      rcases List.mem_cons.mp hy with rfl | hy
      · exact ih y y List.mem_cons_self
      · rcases List.mem_cons.mp hy with rfl | hy
        · exact key x y (ih x x List.mem_cons_self) (by simpa using hz)
        · exact ih x y (List.mem_cons_of_mem _ hy)
/-- the least is the first of the sorted -/
theorem srt_head (x : α) (xs : List α) : ∃ l, srt (x :: xs) = minOf x xs :: l := by
  cases h : srt (x :: xs) with
  | nil =>
    have := srt_len (x :: xs)
    rw [h] at this
    simp at this
  | cons a l =>
    have hp := srt_pairwise (x :: xs)
    rw [h] at hp
    have ha : a ∈ x :: xs := (mem_srt _ a).mp (by rw [h]; exact List.mem_cons_self)
    have hm : minOf x xs ∈ a :: l := by rw [← h]; exact (mem_srt _ _).mpr (minOf_mem x xs)
    have e1 := minOf_le x xs a ha
    have e2 : DatumOrd.lt (minOf x xs) a = false := by
      rcases List.mem_cons.mp hm with e | e
      · rw [e]
        exact OrdOk.irr a
      · simpa using (List.pairwise_cons.mp hp).1 _ e
    rw [OrdOk.tri _ _ e1 e2]
    exact ⟨l, rfl⟩
end
/-! the rules -/
section
variable {α : Type} [DecidableEq α] [DatumOrd α]
theorem alikeA_map (xs : List α) : alikeA (xs.map Datum.toD) = true := by
  unfold alikeA
  simp [DatumOrd.alike]
theorem isNone_toD (a : α) : isNone (Datum.toD a) = false := by
  have := DatumOrd.notNone a
  cases h : (Datum.toD a : D) <;> first | rfl | simp_all
theorem alikeB_map (xs : List α) : alikeB (xs.map Datum.toD) = true := by
  unfold alikeB
  simp [DatumOrd.alike, isNone_toD]
theorem any_iff {β : Type} [DecidableEq β] [Datum β] (xs : List β) (x : β) : (((xs.map Datum.toD).any fun d => PyData.eqv d (Datum.toD x)) = true) ↔ x ∈ xs := by
  rw [any_datum]
  exact decide_eq_true_iff
theorem best_min (x : α) (xs : List α) (hd : Datum.depth α ≤ 64) : dBest PySem.W.minD (.list ((x :: xs).map Datum.toD)) = some (Datum.toD (minOf x xs)) := by
  show (if alikeB ((x :: xs).map Datum.toD) = true ∧ PyData.depthAll ((x :: xs).map Datum.toD) ≤ 64 then some (PySem.W.minD (Datum.toD x) (xs.map Datum.toD)) else none) = _
  rw [if_pos ⟨alikeB_map _, Nat.le_trans (depthAll_map _) hd⟩, minD_map]
theorem sorted_list (xs : List α) (hd : Datum.depth α ≤ 64) (hs : sortableB (xs.map Datum.toD) = true) (hl : xs.length ≤ 16777216) : dSortedL (.list (xs.map Datum.toD)) = some (sortD (xs.map Datum.toD)) := by
  show (if _ then _ else _) = _
  rw [if_pos ⟨alikeA_map _, hs, Nat.le_trans (depthAll_map _) hd, by rw [List.length_map]; exact hl⟩]
end
end Jw
/-! repr: how long it is at most. -/
namespace Jw
open PySem PySem.W PySem.SeqAt
/-- shown in at most n signs -/
structure Rs (n : Nat) (d : D) : Prop where
  sh : d.showable = true
  le : d.shown.length ≤ n
  ok : PyData.strOk d.shown = true
structure RsA (n : Nat) (ds : List D) : Prop where
  sh : PyData.showableAll ds = true
  le : piled (PyData.shownAll ds) ≤ n
  ok : ∀ t ∈ PyData.shownAll ds, PyData.strOk t = true
theorem Rs.mono {m n : Nat} {d : D} (h : Rs m d) (i : m ≤ n) : Rs n d := ⟨h.sh, Nat.le_trans h.le i, h.ok⟩
theorem strLen_lit (s : String) : (Str.ofString s).length = s.length := by
  rw [lit_eq]
  show (List.map Char.toNat s.toList).toArray.size = _
  simp only [List.size_toArray, List.length_map]
  first | rfl | exact String.length_toList | simp
theorem strOk_app (x y : Str) (h : PyData.strOk x = true) (h2 : PyData.strOk y = true) : PyData.strOk (x ++ y) = true := by
  show (x.cps ++ y.cps).all _ = true
  rw [Array.all_append]
  have h : x.cps.all (· < 0x110000) = true := h
  have h2 : y.cps.all (· < 0x110000) = true := h2
  rw [h, h2]
  rfl
theorem rs_none : Rs 4 .none := ⟨by simp [PyData.showable], by simp only [PyData.shown]; decide, by simp only [PyData.shown]; exact ok_lit _⟩
theorem rs_bool (b : Bool) : Rs 5 (.bool b) := ⟨by simp [PyData.showable], by cases b <;> simp only [PyData.shown] <;> decide, by cases b <;> simp only [PyData.shown] <;> exact ok_lit _⟩
theorem rs_int {i : Int} (h : -1000000000000000000 < i ∧ i < 1000000000000000000) : Rs 20 (.int i) := by
  refine ⟨?_, ?_, by simp only [PyData.shown]; exact ok_lit _⟩
  · simp only [PyData.showable, decide_eq_true_eq]
    have := Lg_60 (x := i) (by omega)
    unfold Lg at this
    omega
  · simp only [PyData.shown]
    rw [strLen_lit]
    cases i with
    | ofNat n =>
      have h2 : n < 10 ^ 19 := by
        have : ((n : Nat) : Int) < 1000000000000000000 := h.2
        have e : (10 : Nat) ^ 19 = 10000000000000000000 := by decide
        omega
      have := (Nat.length_repr_le_iff (n := n) (k := 19) (by omega)).mpr h2
      show (Nat.repr n).length ≤ 20
      omega
    | negSucc n =>
      have h2 : n + 1 < 10 ^ 19 := by
        have : -1000000000000000000 < Int.negSucc n := h.1
        have e : (10 : Nat) ^ 19 = 10000000000000000000 := by decide
        omega
      have := (Nat.length_repr_le_iff (n := n + 1) (k := 19) (by omega)).mpr h2
      show ("-" ++ Nat.repr (n + 1)).length ≤ 20
      rw [String.length_append]
      have e : ("-" : String).length = 1 := rfl
      omega
theorem rsA_nil : RsA 0 [] := ⟨by simp [PyData.showableAll], by simp [PyData.shownAll, piled], by simp [PyData.shownAll]⟩
theorem rsA_cons {m n : Nat} {d : D} {ds : List D} (h : Rs m d) (hs : RsA n ds) : RsA (m + 2 + n) (d :: ds) := ⟨by simp [PyData.showableAll, h.sh, hs.sh], by
  simp only [PyData.shownAll]
  rw [piled_cons]
  have := h.le
  have := hs.le
  omega, fun t ht => by
  simp only [PyData.shownAll] at ht
  rcases List.mem_cons.mp ht with rfl | ht
  · exact h.ok
  · exact hs.ok t ht⟩
theorem rsA_of {n : Nat} : ∀ {ds : List D}, (∀ d ∈ ds, Rs n d) → RsA ((n + 2) * ds.length) ds
  | [], _ => rsA_nil
  | d :: ds, h => by
    have a := rsA_cons (h d List.mem_cons_self) (rsA_of fun x hx => h x (List.mem_cons_of_mem _ hx))
    refine ⟨a.sh, Nat.le_trans a.le ?_, a.ok⟩
    rw [List.length_cons, Nat.mul_add]
    omega
theorem textFrom_le : ∀ (ts : List Str) (k : Nat) (acc : Str), (textFrom k acc ts).length ≤ acc.length + piled ts
  | [], _, acc => by show acc.length ≤ acc.length + 0; omega
  | t :: r, k, acc => by
    have ih := textFrom_le r (k + 1) (acc ++ (if k > 0 then ", " else "" : String) ++ t)
    have e : (acc ++ (if k > 0 then ", " else "" : String) ++ t).length ≤ acc.length + 2 + t.length := by
      rw [strLen_append, strLen_append]
      have : ((if k > 0 then ", " else "" : String) : Str).length ≤ 2 := by split <;> decide
      omega
    show (textFrom (k + 1) _ r).length ≤ _
    rw [piled_cons]
    omega
theorem textFrom_ok : ∀ (ts : List Str) (k : Nat) (acc : Str), PyData.strOk acc = true → (∀ t ∈ ts, PyData.strOk t = true) → PyData.strOk (textFrom k acc ts) = true
  | [], k, acc, h, _ => h
  | t :: r, k, acc, h, ht => by
    refine textFrom_ok r (k + 1) (acc ++ (if k > 0 then ", " else "" : String) ++ t) (strOk_app _ _ (strOk_app _ _ h (ok_lit _)) (ht t List.mem_cons_self)) fun u hu => ht u (List.mem_cons_of_mem _ hu)
theorem join_ok : ∀ (ts : List Str), (∀ t ∈ ts, PyData.strOk t = true) → PyData.strOk (Str.join ", " ts) = true
  | [], _ => by decide +kernel
  | [x], h => h x List.mem_cons_self
  | x :: y :: r, h => by
    show PyData.strOk (x ++ ", " ++ Str.join ", " (y :: r)) = true
    exact strOk_app _ _ (strOk_app _ _ (h x List.mem_cons_self) (ok_lit _)) (join_ok (y :: r) fun t ht => h t (List.mem_cons_of_mem _ ht))
theorem rs_list {n : Nat} {ds : List D} (h : RsA n ds) : Rs (n + 2) (.list ds) := ⟨by simp [PyData.showable, h.sh], by
  simp only [PyData.shown]
  unfold listText
  rw [strLen_append]
  have := textFrom_le (PyData.shownAll ds) 0 ("[" : Str)
  have e1 : (("[" : String) : Str).length = 1 := rfl
  have e2 : (("]" : String) : Str).length = 1 := rfl
  have := h.le
  omega, by
  simp only [PyData.shown]
  unfold listText
  exact strOk_app _ _ (textFrom_ok _ 0 _ (ok_lit _) h.ok) (ok_lit _)⟩
theorem rs_tuple {n : Nat} {ds : List D} (h : RsA n ds) : Rs (n + 3) (.tuple ds) := ⟨by simp [PyData.showable, h.sh], by
  simp only [PyData.shown]
  unfold tupleText
  rw [strLen_append, strLen_append]
  have e1 : (("(" : String) : Str).length = 1 := rfl
  have e3 : ((if (PyData.shownAll ds).length == 1 then ",)" else ")" : String) : Str).length ≤ 2 := by split <;> decide
  have hj : (Str.join ", " (PyData.shownAll ds)).length ≤ piled (PyData.shownAll ds) := by
    by_cases hz : PyData.shownAll ds = []
    · rw [hz]
      exact Nat.le_of_eq rfl
    · have := join_length_add _ hz
      omega
  have := h.le
  omega, by
  simp only [PyData.shown]
  unfold tupleText
  exact strOk_app _ _ (strOk_app _ _ (ok_lit _) (join_ok _ h.ok)) (ok_lit _)⟩
/-- a text whose repr is short -/
theorem rs_str (n : Nat) (s : Str) (h : (PyData.shown (.str s)).length ≤ n) (ho : PyData.strOk (PyData.shown (.str s)) = true) : Rs n (.str s) := ⟨by simp [PyData.showable], h, ho⟩
theorem repr_of {j n : Nat} {d : D} (h : sh j d) (hj : j ≤ 64) (r : Rs n d) (hn : n ≤ 16000000) : dRepr d = some (.str d.shown) := by
  unfold dRepr
  rw [if_pos ⟨shaped_of h hj, r.sh, Nat.le_trans r.le hn⟩]
theorem rsA_ints {xs : List Int} (h : ∀ x ∈ xs, -1000000000000000000 < x ∧ x < 1000000000000000000) : RsA (22 * xs.length) (xs.map .int) := by
  have := rsA_of (n := 20) (ds := xs.map .int) fun d hd => by
    obtain ⟨x, hx, rfl⟩ := List.mem_map.mp hd
    exact rs_int (h x hx)
  rwa [List.length_map] at this
/-- two texts that repr made -/
theorem like_of {j n : Nat} {a b : D} (ha : sh j a) (hb : sh j b) (hj : j ≤ 64) (ra : Rs n a) (rb : Rs n b) (hn : n ≤ 16000000) : dEq (.str a.shown) (.str b.shown) = some (.bool (decide (a.shown = b.shown))) := by
  rw [eq_of (sh_str 0 _ ra.ok) (sh_str 0 _ rb.ok) (by omega) (by omega)]
  simp [PyData.eqv]
  by_cases h : a.shown = b.shown <;> simp [h]
end Jw
namespace Jw
open PySem PySem.Spec PyProof.Rows L2
def C_check_weave_1 : Rho → M D := (fCall F_is_within (aCons (rdat 3) (aCons (fun _ => pure (.int 0)) (aCons (fun _ => pure (.int 1)) aNil))))
def C_check_weave_2 : Rho → M D := (fAndV (fCall F_is_tuple (aCons (rdat 2) (aCons (rdat 1) (aCons (rdat 1) aNil)))) (f1 dAll (fList (fLc [3] (fItems (rdat 2)) ((Pat.nm 3)).bind (fun _ => pure true) C_check_weave_1))))
def F_check_weave : List Sl → M D := fDef 3 (fSeq (fIfS (fOrT (fNotT (fTest (fCall F_is_tuple (aCons (rdat 0) (aCons (fun _ => pure (.int 1)) (aCons (fun _ => pure (.int 6)) aNil)))))) (fNotT (fTest (fCall F_is_tuple (aCons (f2 dIx (rdat 0) (fun _ => pure (.int 0))) (aCons (fun _ => pure (.int 1)) (aCons (fun _ => pure (.int 6)) aNil))))))) (fRaise "NoWeave") fSkip)
  (fSeq (fSet 1 (nDat (f1 dLen (f2 dIx (rdat 0) (fun _ => pure (.int 0))))))
  (fIfS (fNotT (fTest (f1 dAll (fList (fLc [2] (fItems (rdat 0)) ((Pat.nm 2)).bind (fun _ => pure true) C_check_weave_2))))) (fRaise "NoWeave") fSkip)))
def B_all_lots_1 : Rho → M Ctl := (fEnd [2] (fSet 1 (nDat (fList (f2L dAddL (rdat 1) (fList (fLc [3] (fItems (rdat 1)) ((Pat.nm 3)).bind (fun _ => pure true) (f2 dAdd (rdat 3) (fTup (dCons (rdat 2) dNil))))))))))
def F_all_lots : List Sl → M D := fDef 3 (fSeq (fSet 1 (nDat (fList (dCons (fTup dNil) dNil))))
  (fSeq (fFor (fItems (rdat 0)) ((Pat.nm 2)).bind B_all_lots_1)
  (fRet (rdat 1))))
def B_do_lift_1 : Rho → M Ctl := (fEnd [6] (fSeq (fIfS (fAndT (fTest (f2 dIn (rdat 5) (rdat 3))) (fAndT (fTest (f2 dNotIn (rdat 6) (rdat 4))) (fTest (f2 dEq (f2 dIx (f2 dIx (rdat 0) (rdat 5)) (rdat 6)) (fun _ => pure (.int 0)))))) (fRet (fun _ => pure (.bool false))) fSkip)
  (fIfS (fAndT (fTest (f2 dIn (rdat 6) (rdat 4))) (fAndT (fTest (f2 dNotIn (rdat 5) (rdat 3))) (fTest (f2 dEq (f2 dIx (f2 dIx (rdat 0) (rdat 5)) (rdat 6)) (fun _ => pure (.int 1)))))) (fRet (fun _ => pure (.bool false))) fSkip)))
def B_do_lift_2 : Rho → M Ctl := (fEnd [5, 6] (fUn [1, 6] (fFor (fItems (rdat 2)) ((Pat.nm 6)).bind B_do_lift_1)))
def F_do_lift : List Sl → M D := fDef 2 (fSeq (fFor (fItems (rdat 1)) ((Pat.nm 5)).bind B_do_lift_2)
  (fRet (fun _ => pure (.bool true))))
def B_lifts_of_1 : Rho → M Ctl := (fEnd [6, 7] (fSeq (fSet 7 (nDat (f2 dAdd (f1 dLen (rdat 5)) (f1 dLen (rdat 6)))))
  (fIfS (fAndT (fTest (fChain dLt dLt (fun _ => pure (.int 0)) (rdat 7) (rdat 4))) (fTest (fCall F_do_lift (aCons (rdat 0) (aCons (rdat 1) (aCons (rdat 2) (aCons (rdat 5) (aCons (rdat 6) aNil)))))))) (fAppend 3 (fTup (dCons (rdat 7) (dCons (rdat 5) (dCons (rdat 6) dNil))))) fSkip)))
def B_lifts_of_2 : Rho → M Ctl := (fEnd [5, 6, 7] (fUn [6, 7] (fFor (fItems (fCall F_all_lots (aCons (rdat 2) aNil))) ((Pat.nm 6)).bind B_lifts_of_1)))
def F_lifts_of : List Sl → M D := fDef 5 (fSeq (fPar 3 4 (nOwn dNil) (nDat (f2 dAdd (f1 dLen (rdat 1)) (f1 dLen (rdat 2)))))
  (fSeq (fFor (fItems (fCall F_all_lots (aCons (rdat 1) aNil))) ((Pat.nm 5)).bind B_lifts_of_2)
  (fRet (fIf (fTest (f2 dGt (f1 dLen (rany 3)) (fun _ => pure (.int 0)))) (fSlice (f1 (dBest PySem.W.minD) (rany 3)) (oSome (fun _ => pure (.int 1))) oNone) (fun _ => pure .none)))))
def F_every_row : List Sl → M D := fDef 0 (fRet (fTup (dCons (fTup (f1L dRg1 (f1 dLen (rdat 0)))) (dCons (fTup (f1L dRg1 (f1 dLen (f2 dIx (rdat 0) (fun _ => pure (.int 0)))))) dNil))))
def F_whole_or_lifts : List Sl → M D := fDef 3 (fSeq (fDrop (fCall F_check_weave (aCons (rdat 0) aNil)))
  (fSeq (fUnpack (Pat.tp (Pats.cons (Pat.nm 1) (Pats.cons (Pat.nm 2) Pats.nil))) (fCall F_every_row (aCons (rdat 0) aNil)))
  (fSeq (fSet 3 (nDat (fCall F_lifts_of (aCons (rdat 0) (aCons (rdat 1) (aCons (rdat 2) aNil))))))
  (fRet (fIf (fTest (f2 dIs (rdat 3) (fun _ => pure .none))) (fTup (dCons (fun _ => pure (.str "whole")) dNil)) (f2 dAdd (fTup (dCons (fun _ => pure (.str "lifts")) dNil)) (rdat 3)))))))
def F__law_draw : List Sl → M D := fDef 3 (fSeq (fIfS (fAndT (fTest (f2 dEq (fHix 0 2) (fun _ => pure (.int 0)))) (fTest (f2 dLt (fHix 0 1) (f1 dLen (fHix 0 0))))) (fSeq (fSet 2 (nDat (f2 dIx (fHix 0 0) (fHix 0 1))))
  (fSeq (fHput 0 1 (f2 dAdd (fHix 0 1) (fun _ => pure (.int 1))))
  (fSeq (fHput 0 3 (f2 dMod (f1 dInt (f2 dAdd (f2 dAdd (f2 dMul (fHix 0 3) (fun _ => pure (.int 69621))) (f2 dMul (rdat 2) (fun _ => pure (.int 40014)))) (fun _ => pure (.int 53)))) (fun _ => pure (.int 2147483647))))
  (fHput 0 2 (fIf (fTest (f2 dGe (rdat 2) (f2 dPow (fun _ => pure (.int 10)) (fun _ => pure (.int 18))))) (rdat 2) (fun _ => pure (.int 0))))))) fSkip)
  (fSeq (fIfS (fTest (f2 dGt (fHix 0 2) (fun _ => pure (.int 0)))) (fSeq (fSet 3 (nDat (f2 dMod (f1 dInt (fHix 0 2)) (rdat 1))))
  (fSeq (fHput 0 2 (f2 dDiv (fHix 0 2) (rdat 1)))
  (fRet (rdat 3)))) fSkip)
  (fSeq (fHput 0 4 (f2 dAdd (fHix 0 4) (fun _ => pure (.int 1))))
  (fSeq (fSet 4 (nDat (f2 dMod (f1 dInt (f2 dMul (f1 dInt (f2 dAdd (fHix 0 3) (f2 dMul (fun _ => pure (.int 7877)) (fHix 0 4)))) (fun _ => pure (.int 40692)))) (fun _ => pure (.int 2147483399)))))
  (fSeq (fSet 4 (nDat (f2 dMod (f1 dInt (f2 dMul (rdat 4) (f2 dAdd (f2 dDiv (rdat 4) (fun _ => pure (.int 1021))) (fun _ => pure (.int 48271))))) (fun _ => pure (.int 2147483647)))))
  (fSeq (fSet 4 (nDat (f2 dMod (f1 dInt (f2 dMul (rdat 4) (f2 dAdd (f2 dDiv (rdat 4) (fun _ => pure (.int 2011))) (fun _ => pure (.int 39373))))) (fun _ => pure (.int 2147483563)))))
  (fRet (f2 dMod (f1 dInt (f2 dDiv (rdat 4) (fun _ => pure (.int 16)))) (rdat 1)))))))))
def F__law_some : List Sl → M D := fDef 0 (fRet (f2 dIx (rdat 1) (fCall F__law_draw (aHand 0 (aCons (f1 dLen (rdat 1)) aNil)))))
def F__law_like : List Sl → M D := fDef 0 (fRet (f2 dEq (f1 dRepr (rdat 0)) (f1 dRepr (rdat 1))))
def B__law_all_lots_1 : Rho → M Ctl := (fEnd [2] (fSet 1 (nDat (fList (f2L dAddL (rdat 1) (fList (fLc [3] (fItems (rdat 1)) ((Pat.nm 3)).bind (fun _ => pure true) (f2 dAdd (rdat 3) (fTup (dCons (rdat 2) dNil))))))))))
def F__law_all_lots : List Sl → M D := fDef 3 (fSeq (fSet 1 (nDat (fList (dCons (fTup dNil) dNil))))
  (fSeq (fFor (fRng1 (rdat 0)) ((Pat.nm 2)).bind B__law_all_lots_1)
  (fRet (rdat 1))))
def C__law_weave_1 : Rho → M D := (fCall F__law_draw (aHand 0 (aCons (fun _ => pure (.int 2)) aNil)))
def C__law_weave_2 : Rho → M D := (f1 dInt (f2 dEq (f2 dMod (f1 dInt (f2 dAdd (f2 dMul (rdat 8) (rdat 4)) (rdat 10))) (f2 dMax2 (fun _ => pure (.int 2)) (f2 dDiv (rdat 2) (fun _ => pure (.int 2))))) (fun _ => pure (.int 0))))
def C__law_weave_3 : Rho → M D := (fCall F__law_draw (aHand 0 (aCons (fun _ => pure (.int 2)) aNil)))
def C__law_weave_4 : Rho → M D := (fIf (fTest (f2 dNe (f2 dIx (rdat 6) (rdat 8)) (f2 dIx (rdat 6) (f2 dAdd (rdat 1) (rdat 10))))) (f2 dIx (rdat 6) (rdat 8)) (fCall F__law_draw (aHand 0 (aCons (fun _ => pure (.int 2)) aNil))))
def C__law_weave_5 : Rho → M D := (f1 dInt (f2 dEq (f2 dMod (f1 dInt (f2 dAdd (rdat 8) (rdat 10))) (fun _ => pure (.int 2))) (fun _ => pure (.int 0))))
def B__law_weave_1 : Rho → M Ctl := (fEnd [8, 9] (fSeq (fSet 9 (nDat (fList (fLc [10] (fRng1 (rdat 2)) ((Pat.nm 10)).bind (fun _ => pure true) C__law_weave_2))))
  (fSeq (fIfS (fTest (f2 dEq (rdat 3) (fun _ => pure (.int 0)))) (fSet 9 (nDat (fList (fLc [10] (fRng1 (rdat 2)) ((Pat.nm 10)).bind (fun _ => pure true) C__law_weave_3)))) fSkip)
  (fSeq (fIfS (fTest (f2 dEq (rdat 3) (fun _ => pure (.int 1)))) (fSet 9 (nDat (fList (fLc [10] (fRng1 (rdat 2)) ((Pat.nm 10)).bind (fun _ => pure true) C__law_weave_4)))) fSkip)
  (fSeq (fIfS (fTest (f2 dEq (rdat 3) (fun _ => pure (.int 2)))) (fSet 9 (nDat (fList (fLc [10] (fRng1 (rdat 2)) ((Pat.nm 10)).bind (fun _ => pure true) C__law_weave_5)))) fSkip)
  (fAppend 5 (f1 dTuple (rdat 9))))))))
def F__law_weave : List Sl → M D := fDef 10 (fSeq (fUnN [1, 2, 3] (xCons (nDat (f2 dAdd (fun _ => pure (.int 1)) (fCall F__law_draw (aHand 0 (aCons (fun _ => pure (.int 6)) aNil))))) (xCons (nDat (f2 dAdd (fun _ => pure (.int 1)) (fCall F__law_draw (aHand 0 (aCons (fun _ => pure (.int 6)) aNil))))) (xCons (nDat (fCall F__law_draw (aHand 0 (aCons (fun _ => pure (.int 5)) aNil)))) xNil))))
  (fSeq (fUnN [4, 5] (xCons (nDat (fCall F__law_some (aHand 0 (aCons (fList (dCons (fun _ => pure (.int 1)) (dCons (fun _ => pure (.int 1)) (dCons (fun _ => pure (.int 2)) (dCons (fun _ => pure (.int 3)) dNil))))) aNil)))) (xCons (nOwn dNil) xNil)))
  (fSeq (fSet 6 (nDat (fList (fLc [7] (fRng1 (f2 dAdd (rdat 1) (rdat 2))) ((Pat.nm 7)).bind (fun _ => pure true) C__law_weave_1))))
  (fSeq (fFor (fRng1 (rdat 1)) ((Pat.nm 8)).bind B__law_weave_1)
  (fSeq (fIfS (fOrT (fTest (f2 dGt (rdat 3) (fun _ => pure (.int 2)))) (fTest (f2 dEq (fCall F__law_draw (aHand 0 (aCons (fun _ => pure (.int 3)) aNil))) (fun _ => pure (.int 0))))) (fSeq (fUnN [8, 10] (xCons (nDat (fCall F__law_draw (aHand 0 (aCons (rdat 1) aNil)))) (xCons (nDat (fCall F__law_draw (aHand 0 (aCons (rdat 2) aNil)))) xNil)))
  (fSetIx 5 (f2 dAdd (f2 dAdd (fSlice (f2 dIx (rany 5) (rdat 8)) oNone (oSome (rdat 10))) (fTup (dCons (f2 dSub (fun _ => pure (.int 1)) (f2 dIx (f2 dIx (rany 5) (rdat 8)) (rdat 10))) dNil))) (fSlice (f2 dIx (rany 5) (rdat 8)) (oSome (f2 dAdd (rdat 10) (fun _ => pure (.int 1)))) oNone)) (rdat 8))) fSkip)
  (fRet (f1 dTuple (rany 5))))))))
def B__law_lies_over_1 : Rho → M Ctl := (fEnd [6] (fIfS (fAndT (fTest (f2 dNe (f2 dIn (rdat 5) (rdat 3)) (f2 dIn (rdat 6) (rdat 4)))) (fTest (f2 dNe (f2 dIx (f2 dIx (rdat 0) (rdat 5)) (rdat 6)) (f1 dInt (f2 dIn (rdat 5) (rdat 3)))))) (fRet (fun _ => pure (.bool false))) fSkip))
def B__law_lies_over_2 : Rho → M Ctl := (fEnd [5, 6] (fUn [1, 6] (fFor (fItems (rdat 2)) ((Pat.nm 6)).bind B__law_lies_over_1)))
def F__law_lies_over : List Sl → M D := fDef 2 (fSeq (fFor (fItems (rdat 1)) ((Pat.nm 5)).bind B__law_lies_over_2)
  (fRet (fun _ => pure (.bool true))))
def B__law_lifts_1 : Rho → M Ctl := (fEnd [7, 8, 9] (fSeq (fSet 8 (nDat (f1 dTuple (fList (fLc [6] (fItems (rdat 7)) ((Pat.nm 6)).bind (fun _ => pure true) (f2 dIx (rdat 2) (rdat 6)))))))
  (fSeq (fSet 9 (nDat (f2 dAdd (f1 dLen (rdat 5)) (f1 dLen (rdat 8)))))
  (fIfS (fAndT (fTest (fChain dLt dLt (fun _ => pure (.int 0)) (rdat 9) (f2 dAdd (f1 dLen (rdat 1)) (f1 dLen (rdat 2))))) (fTest (fCall F__law_lies_over (aCons (rdat 0) (aCons (rdat 1) (aCons (rdat 2) (aCons (rdat 5) (aCons (rdat 8) aNil)))))))) (fAppend 3 (fTup (dCons (rdat 9) (dCons (rdat 5) (dCons (rdat 8) dNil))))) fSkip))))
def B__law_lifts_2 : Rho → M Ctl := (fEnd [4, 5, 7, 8, 9] (fSeq (fSet 5 (nDat (f1 dTuple (fList (fLc [6] (fItems (rdat 4)) ((Pat.nm 6)).bind (fun _ => pure true) (f2 dIx (rdat 1) (rdat 6)))))))
  (fUn [4, 7, 8, 9] (fFor (fItems (fCall F__law_all_lots (aCons (f1 dLen (rdat 2)) aNil))) ((Pat.nm 7)).bind B__law_lifts_1))))
def F__law_lifts : List Sl → M D := fDef 8 (fSeq (fSet 3 (nOwn dNil))
  (fSeq (fFor (fItems (fCall F__law_all_lots (aCons (f1 dLen (rdat 1)) aNil))) ((Pat.nm 4)).bind B__law_lifts_2)
  (fRet (fList (fLc [10] (fItems (fList (f1L dSortedL (rany 3)))) ((Pat.nm 10)).bind (fun _ => pure true) (fSlice (rdat 10) (oSome (fun _ => pure (.int 1))) oNone))))))
def F__law_bad_weave : List Sl → M D := fDef 1 (fSeq (fSet 2 (nDat (fList (dCons (fun _ => pure .none) (dCons (fTup dNil) (dCons (fTup (dCons (fTup dNil) dNil)) (dCons (fList (f1L dListL (rdat 1))) (dCons (f2 dAdd (rdat 1) (fTup (dCons (f2 dAdd (f2 dIx (rdat 1) (fun _ => pure (.int 0))) (fTup (dCons (fun _ => pure (.int 0)) dNil))) dNil))) (dCons (f2 dAdd (fSlice (rdat 1) oNone (oSome (f1 dNeg (fun _ => pure (.int 1))))) (fTup (dCons (fList (f1L dListL (f2 dIx (rdat 1) (f1 dNeg (fun _ => pure (.int 1)))))) dNil))) (dCons (f2 dIx (rdat 1) (fun _ => pure (.int 0))) dNil))))))))))
  (fSeq (fSet 2 (nDat (fList (f2L dAddL (rdat 2) (fList (dCons (f2 dAdd (fSlice (rdat 1) oNone (oSome (f1 dNeg (fun _ => pure (.int 1))))) (fTup (dCons (f2 dAdd (fSlice (f2 dIx (rdat 1) (f1 dNeg (fun _ => pure (.int 1)))) oNone (oSome (f1 dNeg (fun _ => pure (.int 1))))) (fTup (dCons (fun _ => pure (.int 2)) dNil))) dNil))) (dCons (f2 dAdd (fSlice (rdat 1) oNone (oSome (f1 dNeg (fun _ => pure (.int 1))))) (fTup (dCons (f2 dAdd (fSlice (f2 dIx (rdat 1) (f1 dNeg (fun _ => pure (.int 1)))) oNone (oSome (f1 dNeg (fun _ => pure (.int 1))))) (fTup (dCons (fun _ => pure (.bool true)) dNil))) dNil))) (dCons (f2 dMul (fTup (dCons (f2 dIx (rdat 1) (fun _ => pure (.int 0))) dNil)) (fun _ => pure (.int 7))) dNil))))))))
  (fRet (fCall F__law_some (aHand 0 (aCons (fList (f2L dAddL (rdat 2) (fList (dCons (fTup (dCons (f2 dMul (fTup (dCons (fun _ => pure (.int 0)) dNil)) (fun _ => pure (.int 7))) dNil)) (dCons (f2 dAdd (fSlice (rdat 1) oNone (oSome (f1 dNeg (fun _ => pure (.int 1))))) (fTup (dCons (f2 dAdd (fSlice (f2 dIx (rdat 1) (f1 dNeg (fun _ => pure (.int 1)))) oNone (oSome (f1 dNeg (fun _ => pure (.int 1))))) (fTup (dCons (f1 dNeg (fun _ => pure (.int 1))) dNil))) dNil))) (dCons (f2 dAdd (fSlice (rdat 1) oNone (oSome (f1 dNeg (fun _ => pure (.int 1))))) (fTup (dCons (fun _ => pure .none) dNil))) dNil)))))) aNil))))))
end Jw
/-! Weaves: the maths that two laws share. -/
namespace Jw
open PySem
def tI (r : List Int) : D := .tuple (r.map .int)
theorem sh_tI (k : Nat) (r : List Int) : sh (k + 1) (tI r) := sh_tuple (shA_ints k r)
@[simp] theorem isNone_tI (r : List Int) : isNone (tI r) = false := Eq.trans rfl rfl
def wv (W : List (List Int)) : D := .tuple (W.map tI)
/-- n rows of k signs -/
def Wv (n k : Nat) (W : List (List Int)) : Prop := 1 ≤ n ∧ n ≤ 6 ∧ 1 ≤ k ∧ k ≤ 6 ∧ W.length = n ∧ ∀ r ∈ W, r.length = k ∧ ∀ x ∈ r, x = 0 ∨ x = 1
theorem Wv.row {n k : Nat} {W : List (List Int)} (w : Wv n k W) {i : Nat} (h : i < n) : (gd [] W i).length = k ∧ ∀ x ∈ gd [] W i, x = 0 ∨ x = 1 := w.2.2.2.2.2 _ (gd_mem [] W (by rw [w.2.2.2.2.1]; exact h))
theorem ixW (W : List (List Int)) (i : Nat) (h : i < W.length) : dIx (wv W) (.int (i : Int)) = some (tI (gd [] W i)) := ixT tI [] W i h
theorem ixW0 (W : List (List Int)) (h : 0 < W.length) : dIx (wv W) (.int 0) = some (tI (gd [] W 0)) := ixT tI [] W 0 h
theorem ixI (r : List Int) (i : Nat) (h : i < r.length) : dIx (tI r) (.int (i : Int)) = some (.int (gd 0 r i)) := ixT .int 0 r i h
@[simp] theorem len_tI (r : List Int) : dLen (tI r) = some (.int r.length) := by simp [tI]
@[simp] theorem len_wv (W : List (List Int)) : dLen (wv W) = some (.int W.length) := by simp [wv]
@[simp] theorem items_tI (r : List Int) : dItems (tI r) = some (r.map .int) := by simp [tI]
@[simp] theorem items_wv (W : List (List Int)) : dItems (wv W) = some (W.map tI) := by simp [wv]
@[simp] theorem tl_tI (lo hi : Int) (r : List Int) : tl lo hi (tI r) = (decide (lo ≤ (r.length : Int)) && decide ((r.length : Int) ≤ hi)) := by simp [tI]
@[simp] theorem tl_wv (lo hi : Int) (r : List (List Int)) : tl lo hi (wv r) = (decide (lo ≤ (r.length : Int)) && decide ((r.length : Int) ≤ hi)) := by simp [wv]
theorem E_weave {n k : Nat} {W : List (List Int)} (w : Wv n k W) : F_check_weave [.dat (wv W)] = pure .none := by
  have r0 := w.row (i := 0) (by have := w.1; omega)
  obtain ⟨n1, n2, k1, k2, hl, hr⟩ := w
  have c : (1 : Int) ≤ W.length ∧ (W.length : Int) ≤ 6 ∧ (1 : Int) ≤ (gd [] W 0).length ∧ ((gd [] W 0).length : Int) ≤ 6 := by omega
  unfold F_check_weave
  simp (disch := omega) [c, ixW0]
  rw [lcL_map tI (fun _ => .bool true) _ fun r hx => ⟨_, by simp; try rfl, ?_⟩]
  · simp
  · obtain ⟨h1, h2⟩ := hr r hx
    unfold C_check_weave_2
    simp [r0.1, h1]
    rw [lcL_map .int (fun _ => .bool true) _ fun x hx => ⟨_, by simp; try rfl, ?_⟩]
    · simp (disch := omega)
      rw [List.all_eq_true.mpr fun _ _ => rfl]
    · unfold C_check_weave_1
      rcases h2 x hx with rfl | rfl <;> simp
/-! lots -/
def lots (xs : List Int) : List (List Int) := xs.foldl (fun f x => f ++ f.map (· ++ [x])) [[]]
theorem lots_snoc (xs : List Int) (x : Int) : lots (xs ++ [x]) = lots xs ++ (lots xs).map (· ++ [x]) := by
  unfold lots
  rw [List.foldl_append]
  rfl
theorem snoc_ind {α : Type} {P : List α → Prop} (h0 : P []) (h1 : ∀ xs x, P xs → P (xs ++ [x])) (xs : List α) : P xs := by
  have key : ∀ ys : List α, P ys.reverse := fun ys => by
    induction ys with
    | nil => exact h0
    | cons y ys ih =>
      rw [List.reverse_cons]
      exact h1 _ _ ih
  have := key xs.reverse
  rwa [List.reverse_reverse] at this
theorem lots_len (xs : List Int) : (lots xs).length = 2 ^ xs.length := by
  refine snoc_ind (P := fun xs => (lots xs).length = 2 ^ xs.length) rfl (fun xs x ih => ?_) xs
  rw [lots_snoc, List.length_append, List.length_map, ih, List.length_append]
  simp [Nat.pow_succ]
  omega
theorem lots_sub (xs : List Int) : ∀ l ∈ lots xs, l.Sublist xs := by
  refine snoc_ind (P := fun xs => ∀ l ∈ lots xs, l.Sublist xs) (fun l h => ?_) (fun xs x ih l h => ?_) xs
  · simp [lots] at h
    subst h
    exact List.Sublist.refl _
  · rw [lots_snoc] at h
    rcases List.mem_append.mp h with h | h
    · exact (ih l h).trans (List.sublist_append_left _ _)
    · obtain ⟨m, hm, rfl⟩ := List.mem_map.mp h
      exact (ih m hm).append (List.Sublist.refl _)
theorem mem_lots (xs : List Int) : ∀ l : List Int, l.Sublist xs → l ∈ lots xs := by
  refine snoc_ind (P := fun xs => ∀ l : List Int, l.Sublist xs → l ∈ lots xs) (fun l h => ?_) (fun xs x ih l h => ?_) xs
  · rw [List.sublist_nil.mp h]
    simp [lots]
  · rw [lots_snoc]
    obtain ⟨a, b, rfl, ha, hb⟩ := List.sublist_append_iff.mp h
    have hb2 : b = [] ∨ b = [x] := by
      cases hb with
      | cons _ h => exact .inl (List.sublist_nil.mp h)
      | cons_cons _ h => exact .inr (by rw [List.sublist_nil.mp h])
    rcases hb2 with rfl | rfl
    · rw [List.append_nil]
      exact List.mem_append_left _ (ih a ha)
    · exact List.mem_append_right _ (List.mem_map.mpr ⟨a, ih a ha, rfl⟩)
theorem E_lots (xs : List Int) (h : xs.length ≤ 6) : F_all_lots [.dat (tI xs)] = pure (.list ((lots xs).map tI)) := by
  unfold F_all_lots
  simp
  have e0 : PyData.list [.tuple []] = .list (([[]] : List (List Int)).map tI) := rfl
  obtain ⟨h1, _⟩ := forL_fold (bp := (Pat.nm 2).bind) (body := B_all_lots_1) PyData.int (fun b : List (List Int) => [.dat (tI xs), .dat (.list (b.map tI)), .un, .un]) (fun b x => b ++ b.map (· ++ [x])) (fun r b => b.length * 2 ^ r.length ≤ 64 ∧ ∀ l ∈ b, l.length + r.length ≤ 6) xs [[]]
    ⟨by simp; exact Nat.pow_le_pow_right (n := 2) (by omega) h, by simp; exact h⟩ (by
      rintro x r b ⟨h1, h2⟩
      have hp := Nat.two_pow_pos r.length
      rw [List.length_cons, Nat.pow_succ] at h1
      have hb : b.length ≤ 64 := by
        have : b.length * 1 ≤ b.length * (2 ^ r.length * 2) := Nat.mul_le_mul_left _ (by omega)
        omega
      refine ⟨⟨_, by simp; try rfl, ?_⟩, ?_, ?_⟩
      · unfold B_all_lots_1
        simp (disch := omega)
        rw [lcL_map tI (fun l => tI (l ++ [x])) _ fun l hl => ⟨_, by simp; try rfl, ?_⟩]
        · simp (disch := first | omega | (simp; omega))
          rfl
        · have := h2 l hl
          simp [tI]
          simp (disch := first | omega | (simp; omega))
      · rw [List.length_append, List.length_map, Nat.add_mul]
        have e : b.length * (2 ^ r.length * 2) = b.length * 2 ^ r.length * 2 := by rw [Nat.mul_assoc]
        omega
      · intro l hl
        rcases List.mem_append.mp hl with hl | hl
        · have := h2 l hl
          simp at this
          omega
        · obtain ⟨m, hm, rfl⟩ := List.mem_map.mp hl
          have := h2 m hm
          simp at this ⊢
          omega)
  rw [e0, h1]
  simp [lots]
/-! lifts -/
def badAt (W : List (List Int)) (L O : List Int) (r c : Int) : Bool := (decide (r ∈ L) && !decide (c ∈ O) && decide (gd 0 (gd [] W r.toNat) c.toNat = 0)) || (decide (c ∈ O) && !decide (r ∈ L) && decide (gd 0 (gd [] W r.toNat) c.toNat = 1))
def lift (W : List (List Int)) (rs cs L O : List Int) : Bool := !(rs.any fun r => cs.any (badAt W L O r))
theorem in_tI (r : Int) (L : List Int) : dIn (.int r) (tI L) = some (.bool (decide (r ∈ L))) := by
  have := in_t (sh_int 0 r) (shA_ints 0 L) (by omega) (by omega)
  unfold tI
  rw [this]
  congr 2
  exact PySem.W.any_datum L r
theorem nin_tI (r : Int) (L : List Int) : dNotIn (.int r) (tI L) = some (.bool (!decide (r ∈ L))) := by
  unfold dNotIn
  rw [in_tI]
  rfl
theorem ixWI {n k : Nat} {W : List (List Int)} (w : Wv n k W) {r : Int} (h : 0 ≤ r ∧ r < n) : dIx (wv W) (.int r) = some (tI (gd [] W r.toNat)) := by
  have := ixW W r.toNat (by rw [w.2.2.2.2.1]; omega)
  rwa [Int.toNat_of_nonneg h.1] at this
theorem ixII {n k : Nat} {W : List (List Int)} (w : Wv n k W) {r c : Int} (h : 0 ≤ r ∧ r < n) (hc : 0 ≤ c ∧ c < k) : dIx (tI (gd [] W r.toNat)) (.int c) = some (.int (gd 0 (gd [] W r.toNat) c.toNat)) := by
  have := ixI (gd [] W r.toNat) c.toNat (by rw [(w.row (i := r.toNat) (by omega)).1]; omega)
  rwa [Int.toNat_of_nonneg hc.1] at this
theorem S_do2 {n k : Nat} {W : List (List Int)} (w : Wv n k W) (rs cs L O : List Int) (hr : ∀ r ∈ rs, 0 ≤ r ∧ r < (n : Int)) (hc : ∀ c ∈ cs, 0 ≤ c ∧ c < (k : Int)) {r : Int} (hx : r ∈ rs) (z : Sl) :
    B_do_lift_2 [.dat (wv W), z, .dat (tI cs), .dat (tI L), .dat (tI O), .dat (.int r), .un] = if cs.any (badAt W L O r) = true then pure (.rt (.bool false)) else pure (.nx [.dat (wv W), .un, .dat (tI cs), .dat (tI L), .dat (tI O), .un, .un]) := by
  unfold B_do_lift_2
  simp only [ap_fEnd, ap_fUn, ap_fFor, ap_fItems, unR_cons, unR_nil, List.set_cons_succ, List.set_cons_zero, ap_rdat, gtS, gt0, sget_d, bnd_pure, items_tI, lift_some]
  rw [forL_any .int _ (badAt W L O r) (.bool false) cs fun c hy => ⟨_, by simp; try rfl, ?_⟩]
  · generalize cs.any (badAt W L O r) = b
    cases b <;> simp
  · unfold B_do_lift_1 badAt
    simp [in_tI, nin_tI, ixWI w (hr r hx), ixII w (hr r hx) (hc c hy)]
    by_cases a1 : r ∈ L <;> by_cases a2 : c ∈ O <;> simp [a1, a2]
theorem E_do {n k : Nat} {W : List (List Int)} (w : Wv n k W) (rs cs L O : List Int) (hr : ∀ r ∈ rs, 0 ≤ r ∧ r < (n : Int)) (hc : ∀ c ∈ cs, 0 ≤ c ∧ c < (k : Int)) : F_do_lift [.dat (wv W), .dat (tI rs), .dat (tI cs), .dat (tI L), .dat (tI O)] = pure (.bool (lift W rs cs L O)) := by
  unfold F_do_lift lift
  simp
  obtain ⟨z', h1⟩ := forL_any2 (bp := (Pat.nm 5).bind) (body := B_do_lift_2) PyData.int (fun z => [.dat (wv W), z, .dat (tI cs), .dat (tI L), .dat (tI O), .un, .un]) (fun r => cs.any (badAt W L O r)) (.bool false) rs (.dat (tI rs)) (fun r hx z => ⟨_, by simp; try rfl, S_do2 w rs cs L O hr hc hx z⟩)
  rw [h1]
  generalize (rs.any fun r => cs.any (badAt W L O r)) = b
  cases b <;> simp
/-! found lifts -/
/-- many, rows, columns -/
abbrev Lf := PySem.W.T3 Int (PySem.W.Tup Int) (PySem.W.Tup Int)
def lfD (p : Lf) : D := PySem.W.Datum.toD p
def mkLf (L O : List Int) : Lf := ⟨(L.length : Int) + O.length, ⟨L⟩, ⟨O⟩⟩
theorem lfD_mk (L O : List Int) : lfD (mkLf L O) = .tuple [.int ((L.length : Int) + O.length), tI L, tI O] := rfl
def okLf (W : List (List Int)) (rs cs L O : List Int) : Bool := decide (0 < L.length + O.length) && decide (L.length + O.length < rs.length + cs.length) && lift W rs cs L O
def finds (W : List (List Int)) (rs cs : List Int) : List Lf := (lots rs).flatMap fun L => ((lots cs).filter fun O => okLf W rs cs L O).map fun O => mkLf L O
theorem S_lifts1 {n k : Nat} {W : List (List Int)} (w : Wv n k W) (rs cs L O : List Int) (hr : ∀ r ∈ rs, 0 ≤ r ∧ r < (n : Int)) (hc : ∀ c ∈ cs, 0 ≤ c ∧ c < (k : Int)) (acc : List D) (ha : acc.length ≤ 16000000) (x : Sl) :
    B_lifts_of_1 [.dat (wv W), .dat (tI rs), .dat (tI cs), .own acc, .dat (.int ((rs.length : Int) + cs.length)), .dat (tI L), .dat (tI O), x] = pure (.nx [.dat (wv W), .dat (tI rs), .dat (tI cs), .own (acc ++ if okLf W rs cs L O = true then [lfD (mkLf L O)] else []), .dat (.int ((rs.length : Int) + cs.length)), .dat (tI L), .un, .un]) := by
  unfold B_lifts_of_1 okLf
  simp [E_do w rs cs L O hr hc]
  have c1 : ((0 : Int) < (L.length : Int) + O.length) ↔ 0 < L.length + O.length := by omega
  have c2 : ((L.length : Int) + O.length < (rs.length : Int) + cs.length) ↔ L.length + O.length < rs.length + cs.length := by omega
  rw [if_pos (show acc.length < 16777216 by omega)]
  by_cases h1 : 0 < L.length + O.length <;> by_cases h2 : L.length + O.length < rs.length + cs.length <;> by_cases h3 : lift W rs cs L O = true <;> simp [c1, c2, h1, h2, h3, lfD_mk]
theorem S_lifts2 {n k : Nat} {W : List (List Int)} (w : Wv n k W) (rs cs L : List Int) (hr : ∀ r ∈ rs, 0 ≤ r ∧ r < (n : Int)) (hc : ∀ c ∈ cs, 0 ≤ c ∧ c < (k : Int)) (hl : cs.length ≤ 6) (acc : List D) (ha : acc.length ≤ 10000) (x y : Sl) :
    B_lifts_of_2 [.dat (wv W), .dat (tI rs), .dat (tI cs), .own acc, .dat (.int ((rs.length : Int) + cs.length)), .dat (tI L), x, y] = pure (.nx [.dat (wv W), .dat (tI rs), .dat (tI cs), .own (acc ++ (((lots cs).filter fun O => okLf W rs cs L O).map fun O => lfD (mkLf L O))), .dat (.int ((rs.length : Int) + cs.length)), .un, .un, .un]) := by
  have hp : 2 ^ cs.length ≤ 64 := Nat.pow_le_pow_right (n := 2) (by omega) hl
  have hlen := lots_len cs
  unfold B_lifts_of_2
  simp [E_lots cs hl]
  rw [forL_ext tI (fun acc => [.dat (wv W), .dat (tI rs), .dat (tI cs), .own acc, .dat (.int ((rs.length : Int) + cs.length)), .dat (tI L), .un, .un]) (fun O => if okLf W rs cs L O = true then [lfD (mkLf L O)] else []) 1 _ _ (by rw [hlen]; omega) (fun O _ => by split <;> simp) fun O hO acc ha => ⟨_, by simp; try rfl, S_lifts1 w rs cs L O hr hc acc (by omega) .un⟩]
  have e : ((lots cs).flatMap fun O => if okLf W rs cs L O = true then [lfD (mkLf L O)] else []) = ((lots cs).filter fun O => okLf W rs cs L O).map fun O => lfD (mkLf L O) := by
    induction lots cs with
    | nil => rfl
    | cons O l ih =>
      rw [List.flatMap_cons, ih, List.filter_cons]
      split <;> rfl
  rw [e]
  simp
theorem finds_len {W : List (List Int)} {rs cs : List Int} (hl1 : rs.length ≤ 6) (hl2 : cs.length ≤ 6) : (finds W rs cs).length ≤ 4096 := by
  have hp1 : 2 ^ rs.length ≤ 64 := Nat.pow_le_pow_right (n := 2) (by omega) hl1
  have hp2 : 2 ^ cs.length ≤ 64 := Nat.pow_le_pow_right (n := 2) (by omega) hl2
  have h1 := lots_len rs
  have h2 := lots_len cs
  have := flatMap_len (fun L => ((lots cs).filter fun O => okLf W rs cs L O).map fun O => mkLf L O) 64 (lots rs) fun L _ => by
    have := List.length_filter_le (fun O => okLf W rs cs L O) (lots cs)
    simp
    omega
  unfold finds
  omega
theorem E_lifts {n k : Nat} {W : List (List Int)} (w : Wv n k W) (rs cs : List Int) (hr : ∀ r ∈ rs, 0 ≤ r ∧ r < (n : Int)) (hc : ∀ c ∈ cs, 0 ≤ c ∧ c < (k : Int)) (hl1 : rs.length ≤ 6) (hl2 : cs.length ≤ 6) :
    F_lifts_of [.dat (wv W), .dat (tI rs), .dat (tI cs)] = pure (match srt (finds W rs cs) with | [] => .none | p :: _ => .tuple [tI p.b.items, tI p.c.items]) := by
  have hp1 : 2 ^ rs.length ≤ 64 := Nat.pow_le_pow_right (n := 2) (by omega) hl1
  have hp2 : 2 ^ cs.length ≤ 64 := Nat.pow_le_pow_right (n := 2) (by omega) hl2
  have hlen1 := lots_len rs
  have hlen2 := lots_len cs
  unfold F_lifts_of
  simp [E_lots rs hl1]
  rw [forL_extM 10000 tI (fun acc => [.dat (wv W), .dat (tI rs), .dat (tI cs), .own acc, .dat (.int ((rs.length : Int) + cs.length)), .un, .un, .un]) (fun L => ((lots cs).filter fun O => okLf W rs cs L O).map fun O => lfD (mkLf L O)) 64 _ _ (by simp; omega) (fun L _ => by have := List.length_filter_le (fun O => okLf W rs cs L O) (lots cs); simp; omega) fun L hL acc ha => ⟨_, by simp; try rfl, S_lifts2 w rs cs L hr hc hl2 acc (by omega) .un .un⟩]
  have e : ((lots rs).flatMap fun L => ((lots cs).filter fun O => okLf W rs cs L O).map fun O => lfD (mkLf L O)) = (finds W rs cs).map lfD := by
    unfold finds
    rw [List.map_flatMap]
    simp [Function.comp_def]
  rw [e]
  cases hf : finds W rs cs with
  | nil =>
    have e0 : srt ([] : List Lf) = [] := by unfold srt; simp
    simp [e0]
  | cons p l =>
    obtain ⟨l', hl'⟩ := srt_head p l
    have b := best_min p l (by decide)
    have b' : dBest PySem.W.minD (.list (lfD p :: l.map lfD)) = some (lfD (PySem.W.minOf p l)) := b
    rw [hl']
    simp [b']
    simp [lfD, PySem.W.Datum.toD, tI]
end Jw
namespace Jw
open PySem
/-- 0, .., n - 1 -/
def rg (n : Nat) : List Int := (List.range n).map fun i : Nat => (i : Int)
@[simp] theorem rg_len (n : Nat) : (rg n).length = n := by simp [rg]
theorem rg_rng (n : Nat) : rng 0 n = (rg n).map .int := by
  unfold rg
  rw [rng0, List.map_map]
  rfl
theorem mem_rg {n : Nat} {x : Int} : x ∈ rg n ↔ 0 ≤ x ∧ x < n := by
  unfold rg
  simp only [List.mem_map, List.mem_range]
  constructor
  · rintro ⟨i, h, rfl⟩
    omega
  · intro h
    exact ⟨x.toNat, by omega, by omega⟩
@[simp] theorem rg1 (n : Nat) (h : n ≤ 1000) : dRg1 (.int n) = some ((rg n).map .int) := by
  show dRgA 0 n = _
  unfold dRgA
  rw [if_pos (by omega), show ((n : Int) - 0).toNat = n by omega, rg_rng]
theorem E_rows {n k : Nat} {W : List (List Int)} (w : Wv n k W) : F_every_row [.dat (wv W)] = pure (.tuple [tI (rg n), tI (rg k)]) := by
  have r0 := w.row (i := 0) (by have := w.1; omega)
  obtain ⟨n1, n2, k1, k2, hl, hr⟩ := w
  unfold F_every_row
  simp (disch := omega) [ixW0, hl, r0.1]
  rfl
def bigs (W : List (List Int)) (n k : Nat) : List Lf := srt (finds W (rg n) (rg k))
theorem E_whole {n k : Nat} {W : List (List Int)} (w : Wv n k W) : F_whole_or_lifts [.dat (wv W)] = pure (match bigs W n k with | [] => .tuple [.str "whole"] | p :: _ => .tuple [.str "lifts", tI p.b.items, tI p.c.items]) := by
  have e := E_lifts w (rg n) (rg k) (fun r h => mem_rg.mp h) (fun c h => mem_rg.mp h) (by simp; exact w.2.1) (by simp; exact w.2.2.2.1)
  unfold F_whole_or_lifts
  simp [E_weave w, E_rows w, e]
  unfold bigs
  cases srt (finds W (rg n) (rg k)) <;> simp
/-! the law's own -/
theorem E_lots2 (n : Nat) (h : n ≤ 6) : F__law_all_lots [.dat (.int n)] = pure (.list ((lots (rg n)).map tI)) := by
  unfold F__law_all_lots
  simp (disch := omega)
  rw [rg_rng]
  have e0 : PyData.list [.tuple []] = .list (([[]] : List (List Int)).map tI) := rfl
  obtain ⟨h1, _⟩ := forL_fold (bp := (Pat.nm 2).bind) (body := B__law_all_lots_1) PyData.int (fun b : List (List Int) => [.dat (.int n), .dat (.list (b.map tI)), .un, .un]) (fun b x => b ++ b.map (· ++ [x])) (fun r b => b.length * 2 ^ r.length ≤ 64 ∧ ∀ l ∈ b, l.length + r.length ≤ 6) (rg n) [[]]
    ⟨by simp; exact Nat.pow_le_pow_right (n := 2) (by omega) h, by simp; exact h⟩ (by
      rintro x r b ⟨h1, h2⟩
      have hp := Nat.two_pow_pos r.length
      rw [List.length_cons, Nat.pow_succ] at h1
      have hb : b.length ≤ 64 := by
        have : b.length * 1 ≤ b.length * (2 ^ r.length * 2) := Nat.mul_le_mul_left _ (by omega)
        omega
      refine ⟨⟨_, by simp; try rfl, ?_⟩, ?_, ?_⟩
      · unfold B__law_all_lots_1
        simp (disch := omega)
        rw [lcL_map tI (fun l => tI (l ++ [x])) _ fun l hl => ⟨_, by simp; try rfl, ?_⟩]
        · simp (disch := first | omega | (simp; omega))
          rfl
        · have := h2 l hl
          simp [tI]
          simp (disch := first | omega | (simp; omega))
      · rw [List.length_append, List.length_map, Nat.add_mul]
        have e : b.length * (2 ^ r.length * 2) = b.length * 2 ^ r.length * 2 := by rw [Nat.mul_assoc]
        omega
      · intro l hl
        rcases List.mem_append.mp hl with hl | hl
        · have := h2 l hl
          simp at this
          omega
        · obtain ⟨m, hm, rfl⟩ := List.mem_map.mp hl
          have := h2 m hm
          simp at this ⊢
          omega)
  rw [e0, h1]
  simp [lots]
theorem S_over2 {n k : Nat} {W : List (List Int)} (w : Wv n k W) (rs cs L O : List Int) (hr : ∀ r ∈ rs, 0 ≤ r ∧ r < (n : Int)) (hc : ∀ c ∈ cs, 0 ≤ c ∧ c < (k : Int)) {r : Int} (hx : r ∈ rs) (z : Sl) :
    B__law_lies_over_2 [.dat (wv W), z, .dat (.list (cs.map .int)), .dat (tI L), .dat (tI O), .dat (.int r), .un] = if cs.any (badAt W L O r) = true then pure (.rt (.bool false)) else pure (.nx [.dat (wv W), .un, .dat (.list (cs.map .int)), .dat (tI L), .dat (tI O), .un, .un]) := by
  unfold B__law_lies_over_2
  simp only [ap_fEnd, ap_fUn, ap_fFor, ap_fItems, unR_cons, unR_nil, List.set_cons_succ, List.set_cons_zero, ap_rdat, gtS, gt0, sget_d, bnd_pure, items_l, lift_some]
  rw [forL_any .int _ (badAt W L O r) (.bool false) cs fun c hy => ⟨_, by simp; try rfl, ?_⟩]
  · generalize cs.any (badAt W L O r) = b
    cases b <;> simp
  · have hv := (w.row (i := r.toNat) (by have := hr r hx; omega))
    have hc1 := hc c hy
    have hv2 := hv.2 (gd 0 (gd [] W r.toNat) c.toNat) (gd_mem 0 _ (by rw [hv.1]; omega))
    unfold B__law_lies_over_1 badAt
    simp [in_tI, ixWI w (hr r hx), ixII w (hr r hx) hc1]
    generalize gd 0 (gd [] W r.toNat) c.toNat = v at hv2 ⊢
    rcases hv2 with rfl | rfl <;> by_cases a1 : r ∈ L <;> by_cases a2 : c ∈ O <;> simp [a1, a2]
theorem E_over {n k : Nat} {W : List (List Int)} (w : Wv n k W) (rs cs L O : List Int) (hr : ∀ r ∈ rs, 0 ≤ r ∧ r < (n : Int)) (hc : ∀ c ∈ cs, 0 ≤ c ∧ c < (k : Int)) : F__law_lies_over [.dat (wv W), .dat (.list (rs.map .int)), .dat (.list (cs.map .int)), .dat (tI L), .dat (tI O)] = pure (.bool (lift W rs cs L O)) := by
  unfold F__law_lies_over lift
  simp
  obtain ⟨z', h1⟩ := forL_any2 (bp := (Pat.nm 5).bind) (body := B__law_lies_over_2) PyData.int (fun z => [.dat (wv W), z, .dat (.list (cs.map .int)), .dat (tI L), .dat (tI O), .un, .un]) (fun r => cs.any (badAt W L O r)) (.bool false) rs (.dat (.list (rs.map .int))) (fun r hx z => ⟨_, by simp; try rfl, S_over2 w rs cs L O hr hc hx z⟩)
  rw [h1]
  generalize (rs.any fun r => cs.any (badAt W L O r)) = b
  cases b <;> simp
theorem lots_map (f : Int → Int) (xs : List Int) : lots (xs.map f) = (lots xs).map fun l => l.map f := by
  refine snoc_ind (P := fun xs => lots (xs.map f) = (lots xs).map fun l => l.map f) rfl (fun xs x ih => ?_) xs
  rw [List.map_append, List.map_cons, List.map_nil, lots_snoc, lots_snoc, ih]
  simp [Function.comp_def]
theorem gd_rg (rs : List Int) : (rg rs.length).map (fun i => gd 0 rs i.toNat) = rs := by
  unfold rg
  rw [List.map_map]
  refine List.ext_getElem (by simp) fun i h1 h2 => ?_
  simp at h1
  simp [gd_at 0 rs h1]
theorem lots_rg (rs : List Int) : lots rs = (lots (rg rs.length)).map fun l => l.map fun i => gd 0 rs i.toNat := by
  rw [← lots_map, gd_rg]
theorem S_llifts1 {n k : Nat} {W : List (List Int)} (w : Wv n k W) (rs cs L P : List Int) (hr : ∀ r ∈ rs, 0 ≤ r ∧ r < (n : Int)) (hc : ∀ c ∈ cs, 0 ≤ c ∧ c < (k : Int)) (hP : ∀ i ∈ P, 0 ≤ i ∧ i < (cs.length : Int)) (hl : P.length ≤ 6) (acc : List D) (ha : acc.length ≤ 16000000) (x y : Sl) :
    B__law_lifts_1 [.dat (wv W), .dat (.list (rs.map .int)), .dat (.list (cs.map .int)), .own acc, .un, .dat (tI L), .un, .dat (tI P), x, y, .un] = pure (.nx [.dat (wv W), .dat (.list (rs.map .int)), .dat (.list (cs.map .int)), .own (acc ++ if okLf W rs cs L (P.map fun i => gd 0 cs i.toNat) = true then [lfD (mkLf L (P.map fun i => gd 0 cs i.toNat))] else []), .un, .dat (tI L), .un, .un, .un, .un, .un]) := by
  unfold B__law_lifts_1 okLf
  simp (disch := omega)
  rw [lcL_map .int (fun i => .int (gd 0 cs i.toNat)) _ fun i hi => ⟨_, by simp; try rfl, ?_⟩]
  · generalize hO : (P.map fun i => gd 0 cs i.toNat) = O
    have e : (P.map fun i => PyData.int (gd 0 cs i.toNat)) = O.map .int := by rw [← hO, List.map_map]; rfl
    have e2 : P.length = O.length := by rw [← hO]; simp
    have eo := E_over w rs cs L O hr hc
    unfold tI at eo
    rw [e]
    simp [tI, eo]
    have c1 : ((0 : Int) < (L.length : Int) + O.length) ↔ 0 < L.length + O.length := by omega
    have c2 : ((L.length : Int) + O.length < (rs.length : Int) + cs.length) ↔ L.length + O.length < rs.length + cs.length := by omega
    rw [if_pos (show acc.length < 16777216 by omega)]
    by_cases h1 : 0 < L.length + O.length <;> by_cases h2 : L.length + O.length < rs.length + cs.length <;> by_cases h3 : lift W rs cs L O = true <;> simp [c1, c2, e2, h1, h2, h3, lfD_mk, tI]
  · obtain ⟨h0, h1⟩ := hP i hi
    obtain ⟨j, rfl⟩ := Int.eq_ofNat_of_zero_le h0
    simp (disch := omega)
theorem S_llifts2 {n k : Nat} {W : List (List Int)} (w : Wv n k W) (rs cs P : List Int) (hr : ∀ r ∈ rs, 0 ≤ r ∧ r < (n : Int)) (hc : ∀ c ∈ cs, 0 ≤ c ∧ c < (k : Int)) (hP : ∀ i ∈ P, 0 ≤ i ∧ i < (rs.length : Int)) (hl : P.length ≤ 6) (hl2 : cs.length ≤ 6) (acc : List D) (ha : acc.length ≤ 10000) (x1 x2 x3 x4 : Sl) :
    B__law_lifts_2 [.dat (wv W), .dat (.list (rs.map .int)), .dat (.list (cs.map .int)), .own acc, .dat (tI P), x1, .un, x2, x3, x4, .un] = pure (.nx [.dat (wv W), .dat (.list (rs.map .int)), .dat (.list (cs.map .int)), .own (acc ++ (((lots cs).filter fun O => okLf W rs cs (P.map fun i => gd 0 rs i.toNat) O).map fun O => lfD (mkLf (P.map fun i => gd 0 rs i.toNat) O))), .un, .un, .un, .un, .un, .un, .un]) := by
  have hp : 2 ^ cs.length ≤ 64 := Nat.pow_le_pow_right (n := 2) (by omega) hl2
  have hlen := lots_len (rg cs.length)
  rw [rg_len] at hlen
  unfold B__law_lifts_2
  simp (disch := omega)
  rw [lcL_map .int (fun i => .int (gd 0 rs i.toNat)) _ fun i hi => ⟨_, by simp; try rfl, by
    obtain ⟨h0, h1⟩ := hP i hi
    obtain ⟨j, rfl⟩ := Int.eq_ofNat_of_zero_le h0
    simp (disch := omega)⟩]
  generalize hL : (P.map fun i => gd 0 rs i.toNat) = L
  have e : (P.map fun i => PyData.int (gd 0 rs i.toNat)) = L.map .int := by rw [← hL, List.map_map]; rfl
  rw [e]
  simp [E_lots2 cs.length hl2]
  rw [forL_ext tI (fun acc => [.dat (wv W), .dat (.list (rs.map .int)), .dat (.list (cs.map .int)), .own acc, .un, .dat (.tuple (L.map .int)), .un, .un, .un, .un, .un]) (fun P => if okLf W rs cs L (P.map fun i => gd 0 cs i.toNat) = true then [lfD (mkLf L (P.map fun i => gd 0 cs i.toNat))] else []) 1 _ _ (by rw [hlen]; omega) (fun O _ => by split <;> simp) fun O hO acc ha => ⟨_, by simp; try rfl, ?_⟩]
  · have e : ((lots (rg cs.length)).flatMap fun P => if okLf W rs cs L (P.map fun i => gd 0 cs i.toNat) = true then [lfD (mkLf L (P.map fun i => gd 0 cs i.toNat))] else []) = ((lots cs).filter fun O => okLf W rs cs L O).map fun O => lfD (mkLf L O) := by
      conv => rhs; rw [lots_rg cs]
      induction lots (rg cs.length) with
      | nil => rfl
      | cons O l ih =>
        rw [List.flatMap_cons, ih, List.map_cons, List.filter_cons]
        split <;> rfl
    rw [e]
    simp
  · have hs := lots_sub _ O hO
    exact S_llifts1 w rs cs L O hr hc (fun i hi => by have := mem_rg.mp (hs.subset hi); exact this) (by have := hs.length_le; simp at this; omega) acc (by omega) .un .un
def tails (xs : List Lf) : List D := xs.map fun p => .tuple [tI p.b.items, tI p.c.items]
theorem E_llifts {n k : Nat} {W : List (List Int)} (w : Wv n k W) (rs cs : List Int) (hr : ∀ r ∈ rs, 0 ≤ r ∧ r < (n : Int)) (hc : ∀ c ∈ cs, 0 ≤ c ∧ c < (k : Int)) (hl1 : rs.length ≤ 6) (hl2 : cs.length ≤ 6) :
    F__law_lifts [.dat (wv W), .dat (.list (rs.map .int)), .dat (.list (cs.map .int))] = pure (.list (tails (srt (finds W rs cs)))) := by
  have hp1 : 2 ^ rs.length ≤ 64 := Nat.pow_le_pow_right (n := 2) (by omega) hl1
  have hp2 : 2 ^ cs.length ≤ 64 := Nat.pow_le_pow_right (n := 2) (by omega) hl2
  have hlen1 := lots_len (rg rs.length)
  rw [rg_len] at hlen1
  have hlen2 := lots_len cs
  have hfl := finds_len (W := W) hl1 hl2
  unfold F__law_lifts
  simp [E_lots2 rs.length hl1]
  rw [forL_extM 10000 tI (fun acc => [.dat (wv W), .dat (.list (rs.map .int)), .dat (.list (cs.map .int)), .own acc, .un, .un, .un, .un, .un, .un, .un]) (fun P => ((lots cs).filter fun O => okLf W rs cs (P.map fun i => gd 0 rs i.toNat) O).map fun O => lfD (mkLf (P.map fun i => gd 0 rs i.toNat) O)) 64 _ _ (by simp; omega) (fun L _ => by
    have := List.length_filter_le (fun O => okLf W rs cs (L.map fun i => gd 0 rs i.toNat) O) (lots cs)
    simp
    omega) fun P hP acc ha => ⟨_, by simp; try rfl, ?_⟩]
  · have e : ((lots (rg rs.length)).flatMap fun P => ((lots cs).filter fun O => okLf W rs cs (P.map fun i => gd 0 rs i.toNat) O).map fun O => lfD (mkLf (P.map fun i => gd 0 rs i.toNat) O)) = (finds W rs cs).map lfD := by
      unfold finds
      rw [List.map_flatMap]
      conv => rhs; rw [lots_rg rs]
      rw [List.flatMap_map]
      simp [Function.comp_def]
    rw [e]
    have so : dSortedL (.list ((finds W rs cs).map lfD)) = some ((srt (finds W rs cs)).map lfD) := by
      have h1 := sorted_list (finds W rs cs) (by decide) (by
        unfold sortableB
        rw [Bool.or_eq_true]
        refine .inl (List.all_eq_true.mpr fun d hd => ?_)
        obtain ⟨p, _, rfl⟩ := List.mem_map.mp hd
        rfl) (by omega)
      rw [sortD_map] at h1
      exact h1
    have l3 := srt_len (finds W rs cs)
    simp [so]
    rw [if_pos (by omega), lcL_map lfD (fun p => .tuple [tI p.b.items, tI p.c.items]) _ fun p hp => ⟨_, by simp; try rfl, ?_⟩]
    · simp [tails]
    · simp [lfD, PySem.W.Datum.toD, tI]
  · have hs := lots_sub _ P hP
    exact S_llifts2 w rs cs P hr hc (fun i hi => by have := mem_rg.mp (hs.subset hi); exact this) (by have := hs.length_le; simp at this; omega) hl2 acc (by omega) .un .un .un .un
end Jw
namespace Jw
open PySem
theorem draw_ok (many : Int) (hm : 0 < many) (hb : many < 1152921504606846976) : Dr 1 (F__law_draw [.hand, .dat (.int many)]) fun d => ∃ v, d = .int v ∧ 0 ≤ v ∧ v < many :=
  drawN (A := 69621) (B := 40014) (C := 53) (M1 := 2147483647) (K1 := 7877) (K2 := 40692) (M2 := 2147483399) (d1 := 1021) (a1 := 48271) (M3 := 2147483647) (d2 := 2011) (a2 := 39373) (M4 := 2147483563) (q := 16) (by decide) many hm hb
theorem someL (ds : List D) (h0 : 0 < ds.length) (h : ds.length < 16777216) : Dr 1 (F__law_some [.hand, .dat (.list ds)]) fun d => d ∈ ds := some_okL draw_ok ds h0 h
theorem someT (ds : List D) (h0 : 0 < ds.length) (h : ds.length < 16777216) : Dr 1 (F__law_some [.hand, .dat (.tuple ds)]) fun d => d ∈ ds := some_okT draw_ok ds h0 h
/-- a row of k signs -/
def Vr (k : Nat) (r : List Int) : Prop := r.length = k ∧ ∀ x ∈ r, x = 0 ∨ x = 1
theorem ints_of {Q : Int → Prop} : ∀ {ds : List D}, (∀ d ∈ ds, ∃ v, d = .int v ∧ Q v) → ∃ xs : List Int, ds = xs.map .int ∧ ∀ x ∈ xs, Q x
  | [], _ => ⟨[], rfl, fun _ h => nomatch h⟩
  | d :: ds, h => by
    obtain ⟨v, rfl, q⟩ := h d List.mem_cons_self
    obtain ⟨xs, rfl, qs⟩ := ints_of fun z hz => h z (List.mem_cons_of_mem _ hz)
    refine ⟨v :: xs, rfl, fun x hx => ?_⟩
    rcases List.mem_cons.mp hx with rfl | hx
    · exact q
    · exact qs x hx
/-- a comprehension over range(k) that draws signs -/
theorem signs_lc {elt : Rho → M D} {ρ : Rho} {bp : D → Rho → Option Rho} (j k : Nat) (h : ∀ i : Nat, i < k → ∃ ρ1, bp (.int i) ρ = some ρ1 ∧ Dr j (elt ρ1) fun d => ∃ v, d = .int v ∧ (v = 0 ∨ v = 1)) :
    Dr (j * k) (lcL bp (fun _ => pure true) elt ρ (rng 0 k)) fun ds => ∃ r, ds = r.map .int ∧ Vr k r := by
  rw [rng0]
  refine Dr.imp ((Dr.lc (k := j) (fun i : Nat => PyData.int i) (P := fun d => ∃ v, d = .int v ∧ (v = 0 ∨ v = 1)) (List.range k) fun i hi => ?_).le (by simp)) ?_
  · obtain ⟨ρ1, h1, h2⟩ := h i (List.mem_range.mp hi)
    exact ⟨ρ1, h1, rfl, h2⟩
  · rintro ds ⟨hl, hd⟩
    obtain ⟨r, rfl, hr⟩ := ints_of hd
    exact ⟨r, rfl, by simpa using hl, hr⟩
theorem sign_drawn {ρ : Rho} : Dr 1 (F__law_draw [.hand, .dat (.int 2)]) fun d => ∃ v, d = .int v ∧ (v = 0 ∨ v = 1) := (draw_ok 2 (by omega) (by omega)).imp fun d ⟨v, e, h0, h1⟩ => ⟨v, e, by omega⟩
theorem b01 (b : Bool) : ∃ v : Int, (if b = true then 1 else 0 : Int) = v ∧ (v = 0 ∨ v = 1) := by cases b <;> simp
theorem ite01 (p : Prop) [Decidable p] : (if p then (1 : Int) else 0) = 0 ∨ (if p then (1 : Int) else 0) = 1 := by split <;> simp
theorem S_weave1 {n k : Nat} {way b : Int} {top : List Int} (hn : 1 ≤ n ∧ n ≤ 6) (hk : 1 ≤ k ∧ k ≤ 6) (hw : 0 ≤ way ∧ way < 5) (hb : 1 ≤ b ∧ b ≤ 3) (ht : Vr (n + k) top) (acc : List D) (ha : acc.length ≤ 100) (i : Nat) (hi : i < n) (x : Sl) :
    Dr 6 (B__law_weave_1 [.hand, .dat (.int n), .dat (.int k), .dat (.int way), .dat (.int b), .own acc, .dat (.list (top.map .int)), .un, .dat (.int i), x, .un]) fun c => ∃ r, c = .nx [.hand, .dat (.int n), .dat (.int k), .dat (.int way), .dat (.int b), .own (acc ++ [tI r]), .dat (.list (top.map .int)), .un, .un, .un, .un] ∧ Vr k r := by
  unfold B__law_weave_1
  simp (disch := omega)
  refine Dr.step (j := 0) ((signs_lc (j := 0) k fun j hj => ⟨_, by simp; try rfl, ?_⟩).le (by omega)) fun ds hds => ?_
  · unfold C__law_weave_2
    have h1 : (i : Int) * b < 1152921504606846976 := by
      have := Int.mul_le_mul_of_nonneg_left (show b ≤ 3 by omega) (show (0 : Int) ≤ i by omega)
      omega
    simp (disch := omega)
    exact Dr.ret ⟨_, rfl, ite01 _⟩
  · obtain ⟨r0, rfl, hr0⟩ := hds
    have fin : ∀ r : List Int, Vr k r → Dr 0 (pure (Ctl.nx [.hand, .dat (.int n), .dat (.int k), .dat (.int way), .dat (.int b), .own (acc ++ [.tuple (r.map .int)]), .dat (.list (top.map .int)), .un, .un, .un, .un]) : M Ctl) fun c => ∃ r, c = .nx [.hand, .dat (.int n), .dat (.int k), .dat (.int way), .dat (.int b), .own (acc ++ [tI r]), .dat (.list (top.map .int)), .un, .un, .un, .un] ∧ Vr k r := fun r hr => Dr.ret ⟨r, rfl, hr⟩
    by_cases w0 : way = 0
    · subst w0
      simp (disch := omega)
      refine Dr.step (j := 6) ((signs_lc (j := 1) k fun j hj => ⟨_, by simp; try rfl, ?_⟩).le (by omega)) fun ds hds => ?_
      · unfold C__law_weave_3
        simp
        exact sign_drawn (ρ := [])
      · obtain ⟨r, rfl, hr⟩ := hds
        simp (disch := omega)
        exact (fin r hr).le (by omega)
    by_cases w1 : way = 1
    · subst w1
      simp (disch := omega)
      refine Dr.step (j := 6) ((signs_lc (j := 1) k fun j hj => ⟨_, by simp; try rfl, ?_⟩).le (by omega)) fun ds hds => ?_
      · unfold C__law_weave_4
        have h2 := ht.2 _ (gd_mem 0 top (i := i) (by rw [ht.1]; omega))
        have e1 : dIx (.list (top.map .int)) (.int ((n : Int) + (j : Int))) = some (.int (gd 0 top (n + j))) := ixLn .int 0 top (n + j) (by rw [ht.1]; omega)
        have e2 : dIx (.list (top.map .int)) (.int (i : Int)) = some (.int (gd 0 top i)) := ixLn .int 0 top i (by rw [ht.1]; omega)
        simp [e1, e2]
        refine Dr.ite (fun _ => ?_) fun _ => ?_
        · exact (sign_drawn (ρ := []))
        · exact Dr.ret ⟨_, rfl, h2⟩
      · obtain ⟨r, rfl, hr⟩ := hds
        simp (disch := omega)
        exact (fin r hr).le (by omega)
    by_cases w2 : way = 2
    · subst w2
      simp (disch := omega)
      refine Dr.step (j := 0) ((signs_lc (j := 0) k fun j hj => ⟨_, by simp; try rfl, ?_⟩).le (by omega)) fun ds hds => ?_
      · unfold C__law_weave_5
        simp (disch := omega)
        exact Dr.ret ⟨_, rfl, ite01 _⟩
      · obtain ⟨r, rfl, hr⟩ := hds
        simp (disch := omega)
        exact (fin r hr).le (by omega)
    · simp (disch := omega) [w0, w1, w2]
      exact (fin r0 hr0).le (by omega)
theorem ints14 {d : D} {xs : List Int} {P : Int → Prop} (h : d ∈ xs.map PyData.int) (hp : ∀ z ∈ xs, P z) : ∃ z, d = .int z ∧ P z := by
  obtain ⟨z, hz, rfl⟩ := List.mem_map.mp h
  exact ⟨z, rfl, hp z hz⟩
theorem slice_tI (r : List Int) (lo hi : Option Int) : dSlice (tI r) lo hi = some (tI (cut r lo hi)) := by
  show some (PyData.tuple (cut (r.map .int) lo hi)) = _
  rw [cut_map]
  rfl
theorem add_tI1 (a : List Int) (x : Int) (h : a.length ≤ 1000) : dAdd (tI a) (.tuple [.int x]) = some (tI (a ++ [x])) := by
  show (if _ then _ else _) = _
  rw [if_pos (by simp; omega)]
  simp [tI]
theorem add_tI (a b : List Int) (h : a.length ≤ 1000 ∧ b.length ≤ 1000) : dAdd (tI a) (tI b) = some (tI (a ++ b)) := by
  show (if _ then _ else _) = _
  rw [if_pos (by simp; omega)]
  simp [tI]
def WFlip : Rho → M Ctl := fSeq (fUnN [8, 10] (xCons (nDat (fCall F__law_draw (aHand 0 (aCons (rdat 1) aNil)))) (xCons (nDat (fCall F__law_draw (aHand 0 (aCons (rdat 2) aNil)))) xNil)))
  (fSetIx 5 (f2 dAdd (f2 dAdd (fSlice (f2 dIx (rany 5) (rdat 8)) oNone (oSome (rdat 10))) (fTup (dCons (f2 dSub (fun _ => pure (.int 1)) (f2 dIx (f2 dIx (rany 5) (rdat 8)) (rdat 10))) dNil))) (fSlice (f2 dIx (rany 5) (rdat 8)) (oSome (f2 dAdd (rdat 10) (fun _ => pure (.int 1)))) oNone)) (rdat 8))
theorem flip_ok {n k : Nat} {way b : Int} {top : List Int} {rows : List (List Int)} (wrows : Wv n k rows) (x y z : Sl) : Dr 2 (WFlip [.hand, .dat (.int n), .dat (.int k), .dat (.int way), .dat (.int b), .own (rows.map tI), .dat (.list (top.map .int)), .un, x, y, z]) fun c => ∃ R x y z, c = .nx [.hand, .dat (.int n), .dat (.int k), .dat (.int way), .dat (.int b), .own (R.map tI), .dat (.list (top.map .int)), .un, x, y, z] ∧ Wv n k R := by
  have ww := wrows
  obtain ⟨z1, z2, z3, z4, z5, z6⟩ := ww
  unfold WFlip
  simp
  refine Dr.step (draw_ok n (by omega) (by omega)) fun d hd => ?_
  obtain ⟨r, rfl, r0, r1⟩ := hd
  simp
  refine Dr.step (draw_ok k (by omega) (by omega)) fun d hd => ?_
  obtain ⟨c, rfl, c0, c1⟩ := hd
  obtain ⟨r, rfl⟩ := Int.eq_ofNat_of_zero_le r0
  obtain ⟨c, rfl⟩ := Int.eq_ofNat_of_zero_le c0
  have e1 : dIx (.list (rows.map tI)) (.int (r : Int)) = some (tI (gd [] rows r)) := ixLn tI [] rows r (by omega)
  have hrow := wrows.row (i := r) (by omega)
  have e2 : dIx (tI (gd [] rows r)) (.int (c : Int)) = some (.int (gd 0 (gd [] rows r) c)) := ixI _ c (by omega)
  simp [e1, e2]
  have e3 : dAdd (tI ((gd [] rows r).take c)) (.tuple [.int (1 - gd 0 (gd [] rows r) c)]) = some (tI ((gd [] rows r).take c ++ [1 - gd 0 (gd [] rows r) c])) := add_tI1 _ _ (by rw [List.length_take]; omega)
  have e4 : dAdd (tI ((gd [] rows r).take c ++ [1 - gd 0 (gd [] rows r) c])) (tI ((gd [] rows r).drop (c + 1))) = some (tI ((gd [] rows r).take c ++ [1 - gd 0 (gd [] rows r) c] ++ (gd [] rows r).drop (c + 1))) := add_tI _ _ (by rw [List.length_append, List.length_take, List.length_drop]; simp; omega)
  have e5 : L2.ixN rows.length (r : Int) = some r := ixN_nat (by omega)
  simp only [slice_tI, cut_toI, cut_fromS, lift_some, bnd_pure, ap_fTup, ap_dCons, ap_dNil, ap_f2, ap_rany, ap_rdat, gtS, gt0, aget_o, sget_d, e1, e2, subI, e3, e4, ap_fSlice, ap_oSome, ap_oNone, dI_i, addI, List.length_map, e5]
  generalize hq : (gd [] rows r).take c ++ [1 - gd 0 (gd [] rows r) c] ++ (gd [] rows r).drop (c + 1) = q
  have vq : Vr k q := by
    rw [← hq]
    refine ⟨by simp; omega, fun v hv => ?_⟩
    simp only [List.mem_append, List.mem_singleton] at hv
    rcases hv with (hv | rfl) | hv
    · exact hrow.2 v (List.mem_of_mem_take hv)
    · rcases hrow.2 _ (gd_mem 0 (gd [] rows r) (i := c) (by omega)) with h | h <;> rw [h] <;> simp
    · exact hrow.2 v (List.mem_of_mem_drop hv)
  refine Dr.ret ⟨rows.set r q, ⟨_, _, _, by rw [List.map_set]⟩, ?_⟩
  obtain ⟨a1, a2, a3, a4, a5, a6⟩ := wrows
  refine ⟨a1, a2, a3, a4, by rw [List.length_set]; exact a5, fun v hv => ?_⟩
  rcases List.mem_or_eq_of_mem_set hv with hv | rfl
  · exact a6 v hv
  · exact vq
theorem weave_ok : Dr 60 (F__law_weave [.hand]) fun d => ∃ n k W, Wv n k W ∧ d = wv W := by
  change Dr 60 (fDef 10 (fSeq _ (fSeq _ (fSeq _ (fSeq _ (fSeq (fIfS _ WFlip fSkip) _))))) _) _
  simp
  refine Dr.step (draw_ok 6 (by omega) (by omega)) fun d hd => ?_
  obtain ⟨n', rfl, n0, n1⟩ := hd
  simp
  refine Dr.step (draw_ok 6 (by omega) (by omega)) fun d hd => ?_
  obtain ⟨k', rfl, k0, k1⟩ := hd
  simp
  refine Dr.step (draw_ok 5 (by omega) (by omega)) fun d hd => ?_
  obtain ⟨way, rfl, w0, w1⟩ := hd
  simp
  refine Dr.step (someL _ (by simp) (by simp)) fun d hd => ?_
  obtain ⟨b, rfl, hb⟩ := ints14 (xs := [1, 1, 2, 3]) (P := fun b => 1 ≤ b ∧ b ≤ 3) hd (by decide)
  obtain ⟨n, hn⟩ := Int.eq_ofNat_of_zero_le (a := 1 + n') (by omega)
  obtain ⟨k, hk⟩ := Int.eq_ofNat_of_zero_le (a := 1 + k') (by omega)
  rw [hn, hk]
  simp (disch := omega)
  rw [if_pos (by omega)]
  refine Dr.step (j := 12) ((signs_lc (j := 1) (n + k) fun j hj => ⟨_, by simp; try rfl, ?_⟩).le (by omega)) fun ds hds => ?_
  · unfold C__law_weave_1
    simp
    exact sign_drawn (ρ := [])
  obtain ⟨top, rfl, ht⟩ := hds
  simp (disch := omega)
  rw [rng0]
  refine Dr.step (j := 36) ((Dr.forN (k := 6) (fun i : Nat => PyData.int i) (fun xs ρ => (∀ i ∈ xs, i < n) ∧ ∃ (rows : List (List Int)) (x y : Sl), ρ = [.hand, .dat (.int n), .dat (.int k), .dat (.int way), .dat (.int b), .own (rows.map tI), .dat (.list (top.map .int)), .un, x, y, .un] ∧ rows.length + xs.length = n ∧ ∀ r ∈ rows, Vr k r) (List.range n) _ ⟨by simp, [], .un, .un, rfl, by simp, by simp⟩ ?_).le (by simp; omega)) fun c hc => ?_
  · rintro i xs ρ ⟨h0, rows, x, y, rfl, hl, hr⟩
    simp only [List.length_cons] at hl
    refine ⟨_, by simp; try rfl, Dr.imp (S_weave1 (n := n) (k := k) (by omega) (by omega) ⟨w0, w1⟩ hb ht (rows.map tI) (by simp; omega) i (h0 i List.mem_cons_self) y) ?_⟩
    rintro c ⟨r, rfl, hv⟩
    refine ⟨_, rfl, fun j hj => h0 j (List.mem_cons_of_mem _ hj), rows ++ [r], .un, .un, by simp, by simp; omega, fun q hq => ?_⟩
    rcases List.mem_append.mp hq with hq | hq
    · exact hr q hq
    · rw [List.mem_singleton.mp hq]
      exact hv
  obtain ⟨ρ2, rfl, _, rows, x, y, rfl, hl, hr⟩ := hc
  simp only [List.length_nil, Nat.add_zero] at hl
  have wrows : Wv n k rows := ⟨by omega, by omega, by omega, by omega, hl, hr⟩
  have done : ∀ R : List (List Int), Wv n k R → Dr 0 (pure (.tuple (R.map tI)) : M D) fun d => ∃ n k W, Wv n k W ∧ d = wv W := fun R h => Dr.ret ⟨n, k, R, h, rfl⟩
  simp (disch := omega)
  refine Dr.ite (fun h2 => ?_) fun h2 => ?_
  · refine Dr.step (flip_ok wrows x y .un) fun c hc => ?_
    obtain ⟨R, x, y, z, rfl, wR⟩ := hc
    simp
    exact (done R wR).le (by omega)
  · refine Dr.step (draw_ok 3 (by omega) (by omega)) fun d hd => ?_
    obtain ⟨v, rfl, v0, v1⟩ := hd
    simp
    refine Dr.ite (fun h3 => ?_) fun h3 => ?_
    · refine Dr.step (flip_ok wrows x y .un) fun c hc => ?_
      obtain ⟨R, x, y, z, rfl, wR⟩ := hc
      simp
      exact (done R wR).le (by omega)
    · exact (done rows wrows).le (by omega)
end Jw
namespace Jw
open PySem
/-- a row of m signs, of any data -/
def rowB (m : Nat) : D → Bool
  | .tuple xs => decide (xs.length = m) && xs.all (wi 0 1)
  | _ => false
theorem E_rowB (a x : Sl) (m : Nat) (hm : m ≤ 6) (d : D) : C_check_weave_2 [a, .dat (.int m), .dat d, x] = pure (.bool (rowB m d)) := by
  unfold C_check_weave_2
  cases d with
  | tuple xs =>
    by_cases h : xs.length = m
    · have hx : xs.length ≤ 6 := by omega
      simp [h, rowB]
      rw [if_pos (by omega), lcL_self (fun d => .bool (wi 0 1 d)) _ fun d hd => ⟨_, by simp; try rfl, by unfold C_check_weave_1; simp⟩]
      rw [bnd_pure, bnd_pure, dAll_map]
      rfl
    · have h2 : ¬ ((m : Int) ≤ xs.length ∧ (xs.length : Int) ≤ m) := by omega
      simp [rowB, h]
      by_cases h3 : (m : Int) ≤ xs.length
      · have h4 : ¬ (xs.length : Int) ≤ m := by omega
        have h3' : m ≤ xs.length := by omega
        have h4' : ¬ xs.length ≤ m := by omega
        simp [h3', h4']
      · have h3' : ¬ m ≤ xs.length := by omega
        simp [h3']
  | _ => simp [rowB]
theorem cw_bad {ds : List D} (hne : ds ≠ []) (h : ∀ xs, ds.head? = some (.tuple xs) → ∃ d ∈ ds, rowB xs.length d = false) : F_check_weave [.dat (.tuple ds)] = M.raise "NoWeave" := by
  unfold F_check_weave
  cases ds with
  | nil => exact absurd rfl hne
  | cons d0 l =>
    simp
    by_cases h6 : (l.length : Int) + 1 ≤ 6
    · have h1 : (1 : Int) ≤ (l.length : Int) + 1 := by omega
      cases hd : tl 1 6 d0 with
      | false => simp [h1, h6]
      | true =>
        cases d0 with
        | tuple xs =>
          simp at hd
          obtain ⟨d, hd1, hd2⟩ := h xs rfl
          have hx : 1 ≤ xs.length ∧ xs.length ≤ 6 := by omega
          simp (disch := omega) [-lcL_cons, h1, h6]
          rw [lcL_self (fun d => .bool (rowB xs.length d)) _ fun d _ => ⟨_, by simp; try rfl, E_rowB (.dat (.tuple (.tuple xs :: l))) .un xs.length hx.2 d⟩]
          have hb : ((PyData.tuple xs :: l).all fun d => rowB xs.length d) = false := by
            rw [Bool.eq_false_iff]
            intro h
            have := List.all_eq_true.mp h d hd1
            rw [hd2] at this
            cases this
          rw [bnd_pure, bnd_pure, dAll_map, hb]
          simp
        | _ => simp at hd
    · simp [h6]
theorem cut_m1 {α : Type} (xs : List α) (h : 0 < xs.length) : cut xs none (some (-1)) = xs.dropLast := by
  unfold cut
  rw [HT.sIx_none, List.drop_zero, Nat.sub_zero, List.dropLast_eq_take]
  congr 1
  unfold HT.sIx
  simp
  omega
theorem rowB_tI (m : Nat) (r : List Int) : rowB m (tI r) = (decide (r.length = m) && r.all fun x => decide (0 ≤ x) && decide (x ≤ 1)) := by
  simp [rowB, tI, List.all_map, Function.comp_def]
theorem bad_ok {n k : Nat} {W : List (List Int)} (w : Wv n k W) : Dr 1 (F__law_bad_weave [.hand, .dat (wv W)]) fun d => F_check_weave [.dat d] = M.raise "NoWeave" := by
  have ww := w
  obtain ⟨n1, n2, k1, k2, hl, hr⟩ := ww
  have r0 := w.row (i := 0) (by omega)
  have rl := w.row (i := n - 1) (by omega)
  have e1 : dIx (wv W) (.int 0) = some (tI (gd [] W 0)) := ixW0 W (by omega)
  have e2 : dIx (wv W) (.int (-1)) = some (tI (gd [] W (n - 1))) := by
    have := ix_m tI [] W 0 (by omega)
    rw [hl] at this
    exact this
  generalize hR : gd [] W 0 = R at r0 e1
  generalize hL : gd [] W (n - 1) = L at rl e2
  generalize hB : (W.map tI).dropLast = B
  have lB : B.length = n - 1 := by rw [← hB]; simp [hl]
  have e3 : dSlice (wv W) none (some (-1)) = some (.tuple B) := by
    show some (PyData.tuple (cut (W.map tI) none (some (-1)))) = _
    rw [cut_m1 _ (by simp; omega), hB]
  have e4 : dListL (wv W) = some (W.map tI) := rfl
  have e5 : dListL (tI L) = some (L.map .int) := rfl
  have e6 : ∀ xs, dAdd (wv W) (.tuple [xs]) = some (.tuple (W.map tI ++ [xs])) := fun xs => addT _ _ (by simp; omega)
  have e7 : ∀ xs, dAdd (.tuple B) (.tuple [xs]) = some (.tuple (B ++ [xs])) := fun xs => addT _ _ (by simp; omega)
  have e8 : dAdd (tI R) (.tuple [.int 0]) = some (tI (R ++ [0])) := add_tI1 _ _ (by omega)
  generalize hC : L.dropLast = C
  have lC : C.length = k - 1 := by rw [← hC]; simp [rl.1]
  have e9 : dSlice (tI L) none (some (-1)) = some (tI C) := by rw [slice_tI, cut_m1 _ (by omega), hC]
  have e10 : ∀ x, dAdd (tI C) (.tuple [x]) = some (.tuple (C.map .int ++ [x])) := fun x => addT _ _ (by simp; omega)
  have e11 : ∀ x, dMul (.tuple [x]) (.int 7) = some (.tuple [x, x, x, x, x, x, x]) := fun x => rfl
  unfold F__law_bad_weave
  simp (disch := first | omega | (simp; done)) [e1, e2, e3, e4, e5, e6, e7, e8, e9, e10, e11]
  refine Dr.step (someL _ (by simp) (by simp)) fun d hd => ?_
  simp only [bnd_pure, endK_rt]
  refine Dr.ret ?_
  have hne : ∀ x, B ++ [x] ≠ [] := fun x => by simp
  have hW : W ≠ [] := fun z => by rw [z] at hl; simp at hl; omega
  -- a row z behind the others
  have last : ∀ z : D, (∀ m, m = k ∨ (∃ xs, z = .tuple xs ∧ m = xs.length) → rowB m z = false) → F_check_weave [.dat (.tuple (B ++ [z]))] = M.raise "NoWeave" := fun z hz => by
    refine cw_bad (hne z) fun xs hx => ⟨z, by simp, hz _ ?_⟩
    cases hb : B with
    | nil =>
      rw [hb] at hx
      simp at hx
      exact .inr ⟨xs, hx, rfl⟩
    | cons b0 bs =>
      rw [hb] at hx
      simp at hx
      have hm : b0 ∈ W.map tI := List.dropLast_subset _ (by rw [hB, hb]; exact List.mem_cons_self)
      obtain ⟨r, hr1, hr2⟩ := List.mem_map.mp hm
      rw [hx] at hr2
      have := (hr r hr1).1
      unfold tI at hr2
      cases hr2
      exact .inl (by simp [this])
  simp only [List.mem_cons, List.not_mem_nil, or_false, List.mem_append, List.cons_append, List.nil_append] at hd
  rcases hd with rfl | rfl | rfl | rfl | rfl | rfl | rfl | rfl | rfl | rfl | rfl | rfl | rfl
  · unfold F_check_weave
    simp
  · unfold F_check_weave
    simp
  · unfold F_check_weave
    simp
  · unfold F_check_weave
    simp
  · refine cw_bad (by simp) fun xs hx => ⟨tI (R ++ [0]), by simp, ?_⟩
    cases W with
    | nil => exact absurd rfl hW
    | cons w0 ws =>
      simp [tI] at hx
      have h0 := (hr w0 List.mem_cons_self).1
      have hx2 : xs.length = k := by rw [← hx]; simpa using h0
      rw [rowB_tI, hx2]
      have : (R ++ [0]).length ≠ k := by simp; omega
      simp only [this, decide_false, Bool.false_and]
  · exact last _ fun m _ => rfl
  · refine cw_bad (ds := R.map .int) (fun z => ?_) fun xs hx => ?_
    · have : R = [] := by simpa using z
      rw [this] at r0
      simp at r0
      omega
    · cases R <;> simp at hx
  · refine last _ fun m _ => ?_
    simp [rowB]
  · refine last _ fun m _ => ?_
    simp [rowB]
  · unfold F_check_weave
    simp
  · unfold F_check_weave
    simp
  · refine last _ fun m _ => ?_
    simp [rowB]
  · exact last _ fun m _ => rfl
end Jw
namespace Jw
open PySem PySem.Spec PyProof.Rows L2
abbrev ks__law_word : List (String × Str) := [("NoWeave", "weave")]
def C_moved_1 : Rho → M D := (f2 dAdd (fSlice (rdat 3) (oSome (rdat 2)) oNone) (fSlice (rdat 3) oNone (oSome (rdat 2))))
def F_moved : List Sl → M D := fDef 1 (fRet (f1 dTuple (fList (fLc [3] (fItems (f2 dAdd (fSlice (rdat 0) (oSome (rdat 1)) oNone) (fSlice (rdat 0) oNone (oSome (rdat 1))))) ((Pat.nm 3)).bind (fun _ => pure true) C_moved_1))))
def B_same_weave_1 : Rho → M Ctl := (fEnd [3] (fIfS (fTest (f2 dEq (fCall F_moved (aCons (rdat 0) (aCons (rdat 2) (aCons (rdat 3) aNil)))) (rdat 1))) (fRet (fTup (dCons (fun _ => pure (.str "by")) (dCons (rdat 2) (dCons (rdat 3) dNil))))) fSkip))
def B_same_weave_2 : Rho → M Ctl := (fEnd [2, 3] (fUn [3] (fFor (fRng1 (f1 dLen (f2 dIx (rdat 0) (fun _ => pure (.int 0))))) ((Pat.nm 3)).bind B_same_weave_1)))
def F_same_weave : List Sl → M D := fDef 2 (fSeq (fDrop (fCall F_check_weave (aCons (rdat 0) aNil)))
  (fSeq (fDrop (fCall F_check_weave (aCons (rdat 1) aNil)))
  (fSeq (fFor (fRng1 (f1 dLen (rdat 0))) ((Pat.nm 2)).bind B_same_weave_2)
  (fRet (fTup (dCons (fun _ => pure (.str "unlike")) dNil))))))
def Q_layers_of_1 : Rho → M Bool := (fTest (f2 dNotIn (rdat 5) (f2 dIx (rdat 4) (fun _ => pure (.int 0)))))
def Q_layers_of_2 : Rho → M Bool := (fTest (f2 dNotIn (rdat 6) (f2 dIx (rdat 4) (fun _ => pure (.int 1)))))
def B_layers_of_1 : Rho → M Ctl := (fSeq (fAppend 3 (rdat 4))
  (fSeq (fSet 1 (nDat (f1 dTuple (fList (fLc [5] (fItems (rdat 1)) ((Pat.nm 5)).bind Q_layers_of_1 (rdat 5))))))
  (fSeq (fSet 2 (nDat (f1 dTuple (fList (fLc [6] (fItems (rdat 2)) ((Pat.nm 6)).bind Q_layers_of_2 (rdat 6))))))
  (fSet 4 (nDat (fCall F_lifts_of (aCons (rdat 0) (aCons (rdat 1) (aCons (rdat 2) aNil)))))))))
def F_layers_of : List Sl → M D := fDef 6 (fSeq (fDrop (fCall F_check_weave (aCons (rdat 0) aNil)))
  (fSeq (fUnpack (Pat.tp (Pats.cons (Pat.nm 1) (Pats.cons (Pat.nm 2) Pats.nil))) (fCall F_every_row (aCons (rdat 0) aNil)))
  (fSeq (fSet 3 (nOwn dNil))
  (fSeq (fSet 4 (nDat (fCall F_lifts_of (aCons (rdat 0) (aCons (rdat 1) (aCons (rdat 2) aNil))))))
  (fSeq (fWhile (fTest (f2 dIsNot (rdat 4) (fun _ => pure .none))) B_layers_of_1)
  (fRet (f1 dTuple (fList (f2L dAddL (rany 3) (fList (dCons (fTup (dCons (rdat 1) (dCons (rdat 2) dNil))) dNil)))))))))))
def C__law_later_1 : Rho → M D := (f2 dAdd (fSlice (rdat 3) (oSome (rdat 2)) oNone) (fSlice (rdat 3) oNone (oSome (rdat 2))))
def F__law_later : List Sl → M D := fDef 1 (fRet (f1 dTuple (fList (fLc [3] (fItems (f2 dAdd (fSlice (rdat 0) (oSome (rdat 1)) oNone) (fSlice (rdat 0) oNone (oSome (rdat 1))))) ((Pat.nm 3)).bind (fun _ => pure true) C__law_later_1))))
def B__law_shift_1 : Rho → M Ctl := (fEnd [3] (fIfS (fTest (f2 dEq (fCall F__law_later (aCons (rdat 0) (aCons (rdat 2) (aCons (rdat 3) aNil)))) (rdat 1))) (fRet (fTup (dCons (fun _ => pure (.str "by")) (dCons (rdat 2) (dCons (rdat 3) dNil))))) fSkip))
def B__law_shift_2 : Rho → M Ctl := (fEnd [2, 3] (fUn [3] (fFor (fRng1 (f1 dLen (f2 dIx (rdat 0) (fun _ => pure (.int 0))))) ((Pat.nm 3)).bind B__law_shift_1)))
def F__law_shift : List Sl → M D := fDef 2 (fSeq (fFor (fRng1 (f1 dLen (rdat 0))) ((Pat.nm 2)).bind B__law_shift_2)
  (fRet (fTup (dCons (fun _ => pure (.str "unlike")) dNil))))
def Q__law_layers_1 : Rho → M Bool := (fTest (f2 dNotIn (rdat 6) (f2 dIx (rdat 5) (fun _ => pure (.int 0)))))
def Q__law_layers_2 : Rho → M Bool := (fTest (f2 dNotIn (rdat 7) (f2 dIx (rdat 5) (fun _ => pure (.int 1)))))
def Q__law_layers_3 : Rho → M Bool := (fTest (f2 dGt (f2 dAdd (f1 dLen (rdat 1)) (f1 dLen (rdat 2))) (fun _ => pure (.int 0))))
def B__law_layers_1 : Rho → M Ctl := (fEnd [4, 5] (fSeq (fSet 4 (nDat (fCall F__law_lifts (aCons (rdat 0) (aCons (rdat 1) (aCons (rdat 2) aNil))))))
  (fSeq (fSet 5 (nDat (fIf (fTest (f2 dNe (rdat 4) (fList dNil))) (f2 dIx (rdat 4) (fun _ => pure (.int 0))) (fTup (dCons (f1 dTuple (rdat 1)) (dCons (f1 dTuple (rdat 2)) dNil))))))
  (fSeq (fAppend 3 (rdat 5))
  (fSeq (fSet 1 (nDat (fList (fLc [6] (fItems (rdat 1)) ((Pat.nm 6)).bind Q__law_layers_1 (rdat 6)))))
  (fSet 2 (nDat (fList (fLc [7] (fItems (rdat 2)) ((Pat.nm 7)).bind Q__law_layers_2 (rdat 7))))))))))
def F__law_layers : List Sl → M D := fDef 7 (fSeq (fUnN [1, 2, 3] (xCons (nDat (fList (f1L dRg1 (f1 dLen (rdat 0))))) (xCons (nDat (fList (f1L dRg1 (f1 dLen (f2 dIx (rdat 0) (fun _ => pure (.int 0))))))) (xCons (nOwn dNil) xNil))))
  (fSeq (fWhile Q__law_layers_3 B__law_layers_1)
  (fRet (f1 dTuple (rany 3)))))
def B__law_layered_1 : Rho → M Ctl := (fEnd [7] (fAppend 9 (fIf (fTest (f2 dNe (f2 dIx (rdat 4) (rdat 6)) (f2 dIx (rdat 5) (rdat 7)))) (f1 dInt (f2 dLt (f2 dIx (rdat 4) (rdat 6)) (f2 dIx (rdat 5) (rdat 7)))) (f1 dInt (f2 dEq (f2 dMod (f1 dInt (f2 dAdd (rdat 6) (rdat 7))) (fun _ => pure (.int 2))) (fun _ => pure (.int 0)))))))
def B__law_layered_2 : Rho → M Ctl := (fEnd [6, 7, 9] (fSeq (fSet 9 (nOwn dNil))
  (fSeq (fUn [1, 3, 7] (fFor (fRng1 (rdat 2)) ((Pat.nm 7)).bind B__law_layered_1))
  (fAppend 8 (f1 dTuple (rany 9))))))
def F__law_layered : List Sl → M D := fDef 9 (fSeq (fPar 1 2 (nDat (f2 dAdd (fun _ => pure (.int 1)) (fCall F__law_draw (aHand 0 (aCons (fun _ => pure (.int 5)) aNil))))) (nDat (f2 dAdd (fun _ => pure (.int 1)) (fCall F__law_draw (aHand 0 (aCons (fun _ => pure (.int 5)) aNil))))))
  (fSeq (fSet 3 (nDat (f2 dAdd (fun _ => pure (.int 1)) (fCall F__law_draw (aHand 0 (aCons (fun _ => pure (.int 4)) aNil))))))
  (fSeq (fPar 4 5 (nDat (fList (fLc [6] (fRng1 (rdat 1)) ((Pat.nm 6)).bind (fun _ => pure true) (fCall F__law_draw (aHand 0 (aCons (rdat 3) aNil)))))) (nDat (fList (fLc [7] (fRng1 (rdat 2)) ((Pat.nm 7)).bind (fun _ => pure true) (fCall F__law_draw (aHand 0 (aCons (rdat 3) aNil)))))))
  (fSeq (fSet 8 (nOwn dNil))
  (fSeq (fUn [3] (fFor (fRng1 (rdat 1)) ((Pat.nm 6)).bind B__law_layered_2))
  (fRet (f1 dTuple (rany 8))))))))
def C__law_are_shifts_right_1 : Rho → M D := (f1 dTuple (fList (fLc [8] (fItems (rdat 7)) ((Pat.nm 8)).bind (fun _ => pure true) (f2 dSub (fun _ => pure (.int 1)) (rdat 8)))))
def B__law_are_shifts_right_1 : Rho → M Ctl := (fEnd [9] (fIfS (fNotT (fTest (fCall F__law_like (aCons (fCall F_same_weave (aCons (rdat 1) (aCons (rdat 9) aNil))) (aCons (fCall F__law_shift (aCons (rdat 1) (aCons (rdat 9) aNil))) aNil))))) (fRet (fun _ => pure (.bool false))) fSkip))
def K__law_are_shifts_right_1 : Rho → M D := (fCall F_same_weave (aCons (rdat 10) (aCons (rdat 1) aNil)))
def K__law_are_shifts_right_2 : Rho → M D := (fCall F_same_weave (aCons (rdat 1) (aCons (rdat 10) aNil)))
def F__law_are_shifts_right : List Sl → M D := fDef 10 (fSeq (fPar 2 3 (nDat (fCall F__law_draw (aHand 0 (aCons (f1 dLen (rdat 1)) aNil)))) (nDat (fCall F__law_draw (aHand 0 (aCons (f1 dLen (f2 dIx (rdat 1) (fun _ => pure (.int 0)))) aNil)))))
  (fSeq (fSet 4 (nDat (fCall F__law_later (aCons (rdat 1) (aCons (rdat 2) (aCons (rdat 3) aNil))))))
  (fSeq (fSet 5 (nDat (f2 dAdd (f2 dAdd (fSlice (rdat 4) oNone (oSome (rdat 2))) (fTup (dCons (f2 dAdd (f2 dAdd (fSlice (f2 dIx (rdat 4) (rdat 2)) oNone (oSome (rdat 3))) (fTup (dCons (f2 dSub (fun _ => pure (.int 1)) (f2 dIx (f2 dIx (rdat 4) (rdat 2)) (rdat 3))) dNil))) (fSlice (f2 dIx (rdat 4) (rdat 2)) (oSome (f2 dAdd (rdat 3) (fun _ => pure (.int 1)))) oNone)) dNil))) (fSlice (rdat 4) (oSome (f2 dAdd (rdat 2) (fun _ => pure (.int 1)))) oNone))))
  (fSeq (fSet 6 (nDat (f1 dTuple (fList (fLc [7] (fItems (rdat 1)) ((Pat.nm 7)).bind (fun _ => pure true) C__law_are_shifts_right_1)))))
  (fSeq (fUn [2, 3] (fFor (fItems (fList (dCons (rdat 1) (dCons (rdat 4) (dCons (rdat 5) (dCons (rdat 6) (dCons (f1 dBackT (rdat 1)) (dCons (f1 dTuple (fList (fLc [7] (fItems (rdat 4)) ((Pat.nm 7)).bind (fun _ => pure true) (f1 dBackT (rdat 7))))) dNil)))))))) ((Pat.nm 9)).bind B__law_are_shifts_right_1))
  (fSeq (fSet 10 (nDat (fCall F__law_bad_weave (aHand 0 (aCons (rdat 1) aNil)))))
  (fSeq (fSet 11 (nOwn (dCons (fWord ks__law_word "let" K__law_are_shifts_right_1) dNil)))
  (fSeq (fAppend 11 (fWord ks__law_word "let" K__law_are_shifts_right_2))
  (fSeq (fAppend 11 (fWord ks__law_word "let" (fCall F_layers_of (aCons (rdat 10) aNil))))
  (fRet (f2 dEq (rany 11) (fList (f2L dMulL (fList (dCons (fun _ => pure (.str "weave")) dNil)) (fun _ => pure (.int 3)))))))))))))))
def B_law_1 : Rho → M Ctl := (fEnd [2, 3, 4] (fSeq (fSet 3 (nDat (fIf (fTest (f2 dEq (rdat 2) (fun _ => pure (.int 0)))) (fCall F__law_weave (aHand 1 aNil)) (fCall F__law_layered (aHand 1 aNil)))))
  (fSeq (fIfS (fNotT (fTest (fCall F__law_are_shifts_right (aHand 1 (aCons (rdat 3) aNil))))) (fRet (fun _ => pure (.bool false))) fSkip)
  (fSeq (fSet 4 (nDat (fCall F__law_layers (aCons (rdat 3) aNil))))
  (fIfS (fOrT (fNotT (fTest (fCall F__law_like (aCons (fCall F_layers_of (aCons (rdat 3) aNil)) (aCons (rdat 4) aNil))))) (fTest (f2 dNe (f2 dEq (f1 dLen (rdat 4)) (fun _ => pure (.int 1))) (f2 dEq (fCall F_whole_or_lifts (aCons (rdat 3) aNil)) (fTup (dCons (fun _ => pure (.str "whole")) dNil)))))) (fRet (fun _ => pure (.bool false))) fSkip)))))
def B_law : Rho → M Ctl := (fSeq (fIfS (fTest (f2 dNe (fCall F_layers_of (aCons (fTup (dCons (fTup (dCons (fun _ => pure (.int 1)) (dCons (fun _ => pure (.int 1)) dNil))) (dCons (fTup (dCons (fun _ => pure (.int 0)) (dCons (fun _ => pure (.int 1)) dNil))) dNil))) aNil)) (fTup (dCons (fTup (dCons (fTup (dCons (fun _ => pure (.int 0)) dNil)) (dCons (fTup dNil) dNil))) (dCons (fTup (dCons (fTup dNil) (dCons (fTup (dCons (fun _ => pure (.int 0)) dNil)) dNil))) (dCons (fTup (dCons (fTup (dCons (fun _ => pure (.int 1)) dNil)) (dCons (fTup dNil) dNil))) (dCons (fTup (dCons (fTup dNil) (dCons (fTup (dCons (fun _ => pure (.int 1)) dNil)) dNil))) dNil))))))) (fRet (fun _ => pure (.bool false))) fSkip)
  (fSeq (fUn [0] (fFor (fRng1 (fun _ => pure (.int 4))) ((Pat.nm 2)).bind B_law_1))
  (fRet (fun _ => pure (.bool true)))))
end Jw
namespace Jw
open PySem PySem.Spec PyProof.Rows L2
def top (i : Nat) : Stmt := PySem.Challenge.pw_fewjewels_k32_whole_weaves_alike_and_the.main.body.getD i (.Pass ⟨0, 0, 0, 0⟩)
def kap (a_NoWeave a_JewelError : Addr) : String → Addr := fun s => if s = "NoWeave" then a_NoWeave else if s = "JewelError" then a_JewelError else 0
abbrev tabs (q__law_are_shifts_right : Addr) : List (Addr × Str) := [(q__law_are_shifts_right, (("_law_are_shifts_right" : Str) ++ ".<locals>.") ++ "<lambda>")]
abbrev codes (k__law_are_shifts_right q__law_are_shifts_right : Addr) : List (Addr × Addr) := [(k__law_are_shifts_right, q__law_are_shifts_right)]
/-- what the walk asks of the module as the top has made it -/
structure Tx (P : Program) (K : PySem.W.Frag) (mg : Str → Option Value) (a_NoWeave a_JewelError k__law_are_shifts_right q__law_are_shifts_right : Addr) : Prop where
  d_is_integer : Df K mg "is_integer" (top 1)
  d_is_within : Df K mg "is_within" (top 2)
  d_is_tuple : Df K mg "is_tuple" (top 3)
  d_check_weave : Df K mg "check_weave" (top 9)
  d_all_lots : Df K mg "all_lots" (top 10)
  d_do_lift : Df K mg "do_lift" (top 11)
  d_lifts_of : Df K mg "lifts_of" (top 12)
  d_every_row : Df K mg "every_row" (top 13)
  d_whole_or_lifts : Df K mg "whole_or_lifts" (top 14)
  d_moved : Df K mg "moved" (top 15)
  d_same_weave : Df K mg "same_weave" (top 16)
  d_layers_of : Df K mg "layers_of" (top 17)
  d__law_hand : Df K mg "_law_hand" (top 19)
  d__law_draw : Df K mg "_law_draw" (top 20)
  d__law_some : Df K mg "_law_some" (top 21)
  d__law_like : Df K mg "_law_like" (top 22)
  d__law_all_lots : Df K mg "_law_all_lots" (top 23)
  d__law_weave : Df K mg "_law_weave" (top 24)
  d__law_lies_over : Df K mg "_law_lies_over" (top 25)
  d__law_lifts : Df K mg "_law_lifts" (top 26)
  d__law_bad_weave : Df K mg "_law_bad_weave" (top 27)
  d__law_later : Df K mg "_law_later" (top 28)
  d__law_shift : Df K mg "_law_shift" (top 29)
  d__law_layers : Df K mg "_law_layers" (top 30)
  d__law_layered : Df K mg "_law_layered" (top 31)
  d__law_word : Df K mg "_law_word" (top 32)
  d__law_are_shifts_right : DfC K mg "_law_are_shifts_right" (top 33) k__law_are_shifts_right q__law_are_shifts_right
  d_law : Df K mg "law" (top 34)
  n_abs : mg "abs" = none
  n_all : mg "all" = none
  n_bool : mg "bool" = none
  n_int : mg "int" = none
  n_isinstance : mg "isinstance" = none
  n_len : mg "len" = none
  n_list : mg "list" = none
  n_max : mg "max" = none
  n_min : mg "min" = none
  n_range : mg "range" = none
  n_repr : mg "repr" = none
  n_sorted : mg "sorted" = none
  n_tuple : mg "tuple" = none
  m_MOST : ∃ u, mg "MOST" = some (.int 6 u)
  e_NoWeave : ErrC P K mg "NoWeave" a_NoWeave
  g_NoWeave : mg "NoWeave" = some (.ref a_NoWeave)
  g_JewelError : mg "JewelError" = some (.ref a_JewelError)
  x_NoWeave_NoWeave : PySem.W.exmOne K (.ref a_NoWeave) (.ref a_NoWeave) = some true
  nd : ((tabs q__law_are_shifts_right).map (·.1)).Nodup
section
variable {P : Program} {w : World} {K : PySem.W.Frag} {mg : Str → Option Value} {base : Heap} {a_NoWeave a_JewelError k__law_are_shifts_right q__law_are_shifts_right : Addr}
theorem s_is_integer : FnScope ["thing"] ["thing"] (defScope (top 1)) := C8.fnScope_by (by decide +kernel)
theorem c_is_integer (Y : Tx P K mg a_NoWeave a_JewelError k__law_are_shifts_right q__law_are_shifts_right) : CalX P w K mg base (tabs q__law_are_shifts_right) (kap a_NoWeave a_JewelError) 2 1 "is_integer" F_is_integer := by
  have S := s_is_integer
  refine cal_mkX (k := 1) (m := 0) Y.d_is_integer S rfl rfl (fun _ _ _ _ _ _ us hl => match us, hl with | [_], _ => rfl) fun f cdv A outer s H E hr => ?_
  exact dss_one (ds_ret (de_and (DE.b (e_isi "int" boot_int (by decide) (by decide) Y.n_isinstance Y.n_int (DE.b (de_var 0)))) (de_one (de_not (DE.b (e_isi "bool" boot_bool (by decide) (by decide) Y.n_isinstance Y.n_bool (DE.b (de_var 0))))))))
theorem s_is_within : FnScope ["thing", "low", "high"] ["thing", "low", "high"] (defScope (top 2)) := C8.fnScope_by (by decide +kernel)
theorem c_is_within (Y : Tx P K mg a_NoWeave a_JewelError k__law_are_shifts_right q__law_are_shifts_right) : CalX P w K mg base (tabs q__law_are_shifts_right) (kap a_NoWeave a_JewelError) 4 3 "is_within" F_is_within := by
  have S := s_is_within
  refine cal_mkX (k := 3) (m := 0) Y.d_is_within S rfl rfl (fun _ _ _ _ _ _ us hl => match us, hl with | [_, _, _], _ => rfl) fun f cdv A outer s H E hr => ?_
  exact dss_one (ds_ret (de_and (DE.b (de_calX (c_is_integer Y) hr (by decide) rfl (takes_of rfl rfl rfl rfl) ((da_cons (de_var 0) (da_nil))))) (de_one (de_chain op_le op_le p_le p_le (DE.b (de_var 1)) (DE.b (de_var 0)) (DE.b (de_var 2))))))
theorem s_is_tuple : FnScope ["thing", "least", "most"] ["thing", "least", "most"] (defScope (top 3)) := C8.fnScope_by (by decide +kernel)
theorem c_is_tuple (Y : Tx P K mg a_NoWeave a_JewelError k__law_are_shifts_right q__law_are_shifts_right) : CalX P w K mg base (tabs q__law_are_shifts_right) (kap a_NoWeave a_JewelError) 2 3 "is_tuple" F_is_tuple := by
  have S := s_is_tuple
  refine cal_mkX (k := 1) (m := 0) Y.d_is_tuple S rfl rfl (fun _ _ _ _ _ _ us hl => match us, hl with | [_, _, _], _ => rfl) fun f cdv A outer s H E hr => ?_
  exact dss_one (ds_ret (de_and (DE.b (e_isi "tuple" boot_tuple (by decide) (by decide) Y.n_isinstance Y.n_tuple (DE.b (de_var 0)))) (de_one (de_chain op_le op_le p_le p_le (DE.b (de_var 1)) (DE.b (e_len Y.n_len (DE.b (de_var 0)))) (DE.b (de_var 2))))))
theorem s_check_weave : FnScope ["weave", "many", "row", "one"] ["weave"] (defScope (top 9)) := C8.fnScope_by (by decide +kernel)
theorem c_check_weave (Y : Tx P K mg a_NoWeave a_JewelError k__law_are_shifts_right q__law_are_shifts_right) : CalX P w K mg base (tabs q__law_are_shifts_right) (kap a_NoWeave a_JewelError) 6 1 "check_weave" F_check_weave := by
  have S := s_check_weave
  refine cal_mkX (k := 5) (m := 3) Y.d_check_weave S rfl rfl (fun _ _ _ _ _ _ us hl => match us, hl with | [_], _ => rfl) fun f cdv A outer s H E hr => ?_
  exact dss_cons (ds_if (DW.t (dw_or (dt_not (dt_val (DE.b (de_calX (c_is_tuple Y) hr (by decide) rfl (takes_of rfl rfl rfl rfl) ((da_cons (de_var 0) ((da_cons (de_int) ((da_cons (e_glob Y.m_MOST) (da_nil))))))))))) (dw_or1 (dt_not (dt_val (DE.b (de_calX (c_is_tuple Y) hr (by decide) rfl (takes_of rfl rfl rfl rfl) ((da_cons (de_ix (DE.b (de_var 0)) (DE.b (de_int))) ((da_cons (de_int) ((da_cons (e_glob Y.m_MOST) (da_nil)))))))))))))) (dss_one (ds_raiseX (c := "NoWeave") rfl (takes_of rfl rfl rfl rfl) Y.e_NoWeave rfl hr rfl)) (dss_nil))
      (dss_cons (ds_set 1 S.nd (DE.n (e_len Y.n_len (DE.b (de_ix (DE.b (de_var 0)) (DE.b (de_int)))))))
      (dss_one (ds_if (dt_not (dt_val (DE.b (e_all rfl Y.n_all (DL.b (dl_lc rfl S.nd (own := [("row", 2)]) (blk_by (by rfl)) (by decide) (dib_seq (DE.b (de_var 0))) (fun _ _ _ _ _ => pn 2 S.nd) (fun _ _ _ _ _ => dts_nil) (fun _ _ _ _ _ => de_and (DE.b (de_calN (c_is_tuple Y) hr (by decide) rfl ((da_cons (de_var 2) ((da_cons (de_var 1) ((da_cons (de_var 1) (da_nil))))))))) (de_one (e_all rfl Y.n_all (DL.b (dl_lc rfl S.nd (own := [("one", 3)]) (blk_by (by rfl)) (by decide) (dib_seq (DE.b (de_var 2))) (fun _ _ _ _ _ => pn 3 S.nd) (fun _ _ _ _ _ => dts_nil) (fun _ _ _ _ _ => de_calN (c_is_within Y) hr (by decide) rfl ((da_cons (de_var 3) ((da_cons (de_int) ((da_cons (de_int) (da_nil))))))))))))))))))) (dss_one (ds_raiseX (c := "NoWeave") rfl (takes_of rfl rfl rfl rfl) Y.e_NoWeave rfl hr rfl)) (dss_nil))))
theorem s_all_lots : FnScope ["some", "found", "one", "lot"] ["some"] (defScope (top 10)) := C8.fnScope_by (by decide +kernel)
theorem c_all_lots (Y : Tx P K mg a_NoWeave a_JewelError k__law_are_shifts_right q__law_are_shifts_right) : CalX P w K mg base (tabs q__law_are_shifts_right) (kap a_NoWeave a_JewelError) 2 1 "all_lots" F_all_lots := by
  have S := s_all_lots
  refine cal_mkX (k := 1) (m := 3) Y.d_all_lots S rfl rfl (fun _ _ _ _ _ _ us hl => match us, hl with | [_], _ => rfl) fun f cdv A outer s H E hr => ?_
  exact dss_cons (ds_set 1 S.nd (DE.n (DL.e (dl_lst ((dd_cons (de_tup (dd_nil)) (dd_nil)))))))
      (dss_cons (ds_for (passes_of rfl) rfl (di_seq (de_var 0)) (pn 2 S.nd) (dss_end [2] (dss_one (ds_set 1 S.nd (DE.n (DL.e (dl_add (DE.b (de_var 1)) (DL.b (dl_lc rfl S.nd (own := [("lot", 3)]) (blk_by (by rfl)) (by decide) (dib_seq (DE.b (de_var 1))) (fun _ _ _ _ _ => pn 3 S.nd) (fun _ _ _ _ _ => dts_nil) (fun _ _ _ _ _ => de_add (DE.b (de_var 3)) (DE.b (de_tup ((dd_cons (de_var 2) (dd_nil)))))))))))))))
      (dss_one (ds_ret (de_var 1))))
theorem s_do_lift : FnScope ["weave", "rows", "columns", "lot", "others", "row", "column"] ["weave", "rows", "columns", "lot", "others"] (defScope (top 11)) := C8.fnScope_by (by decide +kernel)
theorem c_do_lift (Y : Tx P K mg a_NoWeave a_JewelError k__law_are_shifts_right q__law_are_shifts_right) : CalX P w K mg base (tabs q__law_are_shifts_right) (kap a_NoWeave a_JewelError) 2 5 "do_lift" F_do_lift := by
  have S := s_do_lift
  refine cal_mkX (k := 1) (m := 2) Y.d_do_lift S rfl rfl (fun _ _ _ _ _ _ us hl => match us, hl with | [_, _, _, _, _], _ => rfl) fun f cdv A outer s H E hr => ?_
  exact dss_cons (ds_for (passes_of rfl) rfl (di_seq (de_var 1)) (pn 5 S.nd) (dss_end [5, 6] (dss_one (ds_un [1, 6] (ds_for (passes_of rfl) rfl (di_seq (de_var 2)) (pn 6 S.nd) (dss_end [6] (dss_cons (ds_if (DW.t (dw_and (dt_in (hu65 hr) (DE.b (de_var 5)) (DE.b (de_var 3))) (dw_and (dt_nin (hu65 hr) (DE.b (de_var 6)) (DE.b (de_var 4))) (dw_and1 (dt_cmp (op_eqD (hu64 hr)) p_eq (nomark _) (DE.b (de_ix (DE.b (de_ix (DE.b (de_var 0)) (DE.b (de_var 5)))) (DE.b (de_var 6)))) (DE.b (de_int))))))) (dss_one (ds_ret (de_bl))) (dss_nil))
      (dss_one (ds_if (DW.t (dw_and (dt_in (hu65 hr) (DE.b (de_var 6)) (DE.b (de_var 4))) (dw_and (dt_nin (hu65 hr) (DE.b (de_var 5)) (DE.b (de_var 3))) (dw_and1 (dt_cmp (op_eqD (hu64 hr)) p_eq (nomark _) (DE.b (de_ix (DE.b (de_ix (DE.b (de_var 0)) (DE.b (de_var 5)))) (DE.b (de_var 6)))) (DE.b (de_int))))))) (dss_one (ds_ret (de_bl))) (dss_nil))))))))))
      (dss_one (ds_ret (de_bl)))
theorem s_lifts_of : FnScope ["weave", "rows", "columns", "found", "whole", "lot", "others", "many"] ["weave", "rows", "columns"] (defScope (top 12)) := C8.fnScope_by (by decide +kernel)
theorem c_lifts_of (Y : Tx P K mg a_NoWeave a_JewelError k__law_are_shifts_right q__law_are_shifts_right) : CalX P w K mg base (tabs q__law_are_shifts_right) (kap a_NoWeave a_JewelError) 4 3 "lifts_of" F_lifts_of := by
  have S := s_lifts_of
  refine cal_mkX (k := 3) (m := 5) Y.d_lifts_of S rfl rfl (fun _ _ _ _ _ _ us hl => match us, hl with | [_, _, _], _ => rfl) fun f cdv A outer s H E hr => ?_
  exact dss_cons (ds_par 3 4 rfl S.nd (DL.n (dl_lst (dd_nil))) (DE.n (de_add (DE.b (e_len Y.n_len (DE.b (de_var 1)))) (DE.b (e_len Y.n_len (DE.b (de_var 2)))))))
      (dss_cons (ds_for (passes_of rfl) rfl (di_seq (de_calX (c_all_lots Y) hr (by decide) rfl (takes_of rfl rfl rfl rfl) ((da_cons (de_var 1) (da_nil))))) (pn 5 S.nd) (dss_end [5, 6, 7] (dss_one (ds_un [6, 7] (ds_for (passes_of rfl) rfl (di_seq (de_calX (c_all_lots Y) hr (by decide) rfl (takes_of rfl rfl rfl rfl) ((da_cons (de_var 2) (da_nil))))) (pn 6 S.nd) (dss_end [6, 7] (dss_cons (ds_set 7 S.nd (DE.n (de_add (DE.b (e_len Y.n_len (DE.b (de_var 5)))) (DE.b (e_len Y.n_len (DE.b (de_var 6)))))))
      (dss_one (ds_if (DW.t (dw_and (dt_chain op_lt op_lt p_lt p_lt (DE.b (de_int)) (DE.b (de_var 7)) (DE.b (de_var 4))) (dw_and1 (dt_val (DE.b (de_calX (c_do_lift Y) hr (by decide) rfl (takes_of rfl rfl rfl rfl) ((da_cons (de_var 0) ((da_cons (de_var 1) ((da_cons (de_var 2) ((da_cons (de_var 5) ((da_cons (de_var 6) (da_nil))))))))))))))))) (dss_one (ds_append 3 (de_tup ((dd_cons (de_var 7) ((dd_cons (de_var 5) ((dd_cons (de_var 6) (dd_nil)))))))))) (dss_nil))))))))))
      (dss_one (ds_ret (de_if (dt_cmp op_gt p_gt (nomark _) (DE.b (e_len Y.n_len ((db_var 3)))) (DE.b (de_int))) (de_slice (DE.b (e_minA rfl hr Y.n_min ((db_var 3)))) (do_some (DE.b (de_int))) (do_none)) (de_non)))))
theorem s_every_row : FnScope ["weave"] ["weave"] (defScope (top 13)) := C8.fnScope_by (by decide +kernel)
theorem c_every_row (Y : Tx P K mg a_NoWeave a_JewelError k__law_are_shifts_right q__law_are_shifts_right) : CalX P w K mg base (tabs q__law_are_shifts_right) (kap a_NoWeave a_JewelError) 2 1 "every_row" F_every_row := by
  have S := s_every_row
  refine cal_mkX (k := 1) (m := 0) Y.d_every_row S rfl rfl (fun _ _ _ _ _ _ us hl => match us, hl with | [_], _ => rfl) fun f cdv A outer s H E hr => ?_
  exact dss_one (ds_ret (de_tup ((dd_cons (de_tupRg1 rfl Y.n_tuple Y.n_range (DE.b (e_len Y.n_len (DE.b (de_var 0))))) ((dd_cons (de_tupRg1 rfl Y.n_tuple Y.n_range (DE.b (e_len Y.n_len (DE.b (de_ix (DE.b (de_var 0)) (DE.b (de_int))))))) (dd_nil)))))))
theorem s_whole_or_lifts : FnScope ["weave", "rows", "columns", "some"] ["weave"] (defScope (top 14)) := C8.fnScope_by (by decide +kernel)
theorem c_whole_or_lifts (Y : Tx P K mg a_NoWeave a_JewelError k__law_are_shifts_right q__law_are_shifts_right) : CalX P w K mg base (tabs q__law_are_shifts_right) (kap a_NoWeave a_JewelError) 8 1 "whole_or_lifts" F_whole_or_lifts := by
  have S := s_whole_or_lifts
  refine cal_mkX (k := 7) (m := 3) Y.d_whole_or_lifts S rfl rfl (fun _ _ _ _ _ _ us hl => match us, hl with | [_], _ => rfl) fun f cdv A outer s H E hr => ?_
  exact dss_cons (ds_expr (de_calX (c_check_weave Y) hr (by decide) rfl (takes_of rfl rfl rfl rfl) ((da_cons (de_var 0) (da_nil)))))
      (dss_cons (ds_unpack (pt rfl (ptc (pn 1 S.nd) (ptc (pn 2 S.nd) (ptn)))) (de_calX (c_every_row Y) hr (by decide) rfl (takes_of rfl rfl rfl rfl) ((da_cons (de_var 0) (da_nil)))))
      (dss_cons (ds_set 3 S.nd (DE.n (de_calX (c_lifts_of Y) hr (by decide) rfl (takes_of rfl rfl rfl rfl) ((da_cons (de_var 0) ((da_cons (de_var 1) ((da_cons (de_var 2) (da_nil))))))))))
      (dss_one (ds_ret (de_if (dt_cmp op_isA p_is (nomark _) (DE.b (de_var 3)) (DE.b (de_non))) (de_tup ((dd_cons (de_str) (dd_nil)))) (de_add (DE.b (de_tup ((dd_cons (de_str) (dd_nil))))) (DE.b (de_var 3))))))))
theorem s_moved : FnScope ["weave", "r", "c", "row"] ["weave", "r", "c"] (defScope (top 15)) := C8.fnScope_by (by decide +kernel)
theorem c_moved (Y : Tx P K mg a_NoWeave a_JewelError k__law_are_shifts_right q__law_are_shifts_right) : CalX P w K mg base (tabs q__law_are_shifts_right) (kap a_NoWeave a_JewelError) 2 3 "moved" F_moved := by
  have S := s_moved
  refine cal_mkX (k := 1) (m := 1) Y.d_moved S rfl rfl (fun _ _ _ _ _ _ us hl => match us, hl with | [_, _, _], _ => rfl) fun f cdv A outer s H E hr => ?_
  exact dss_one (ds_ret (e_tuple Y.n_tuple (DL.b (dl_lc rfl S.nd (own := [("row", 3)]) (blk_by (by rfl)) (by decide) (dib_seq (DE.b (de_add (DE.b (de_slice (DE.b (de_var 0)) (do_some (DE.b (de_var 1))) (do_none))) (DE.b (de_slice (DE.b (de_var 0)) (do_none) (do_some (DE.b (de_var 1)))))))) (fun _ _ _ _ _ => pn 3 S.nd) (fun _ _ _ _ _ => dts_nil) (fun _ _ _ _ _ => de_add (DE.b (de_slice (DE.b (de_var 3)) (do_some (DE.b (de_var 2))) (do_none))) (DE.b (de_slice (DE.b (de_var 3)) (do_none) (do_some (DE.b (de_var 2))))))))))
theorem s_same_weave : FnScope ["one", "other", "r", "c"] ["one", "other"] (defScope (top 16)) := C8.fnScope_by (by decide +kernel)
theorem c_same_weave (Y : Tx P K mg a_NoWeave a_JewelError k__law_are_shifts_right q__law_are_shifts_right) : CalX P w K mg base (tabs q__law_are_shifts_right) (kap a_NoWeave a_JewelError) 8 2 "same_weave" F_same_weave := by
  have S := s_same_weave
  refine cal_mkX (k := 7) (m := 2) Y.d_same_weave S rfl rfl (fun _ _ _ _ _ _ us hl => match us, hl with | [_, _], _ => rfl) fun f cdv A outer s H E hr => ?_
  exact dss_cons (ds_expr (de_calX (c_check_weave Y) hr (by decide) rfl (takes_of rfl rfl rfl rfl) ((da_cons (de_var 0) (da_nil)))))
      (dss_cons (ds_expr (de_calX (c_check_weave Y) hr (by decide) rfl (takes_of rfl rfl rfl rfl) ((da_cons (de_var 1) (da_nil)))))
      (dss_cons (ds_for (passes_of rfl) rfl ((di_rng1 Y.n_range rfl (DE.b (e_len Y.n_len (DE.b (de_var 0)))))) (pn 2 S.nd) (dss_end [2, 3] (dss_one (ds_un [3] (ds_for (passes_of rfl) rfl ((di_rng1 Y.n_range rfl (DE.b (e_len Y.n_len (DE.b (de_ix (DE.b (de_var 0)) (DE.b (de_int)))))))) (pn 3 S.nd) (dss_end [3] (dss_one (ds_if (dt_cmp (op_eqD (hu64 hr)) p_eq (nomark _) (DE.b (de_calX (c_moved Y) hr (by decide) rfl (takes_of rfl rfl rfl rfl) ((da_cons (de_var 0) ((da_cons (de_var 2) ((da_cons (de_var 3) (da_nil))))))))) (DE.b (de_var 1))) (dss_one (ds_ret (de_tup ((dd_cons (de_str) ((dd_cons (de_var 2) ((dd_cons (de_var 3) (dd_nil)))))))))) (dss_nil)))))))))
      (dss_one (ds_ret (de_tup ((dd_cons (de_str) (dd_nil))))))))
theorem s_layers_of : FnScope ["weave", "rows", "columns", "found", "some", "row", "column"] ["weave"] (defScope (top 17)) := C8.fnScope_by (by decide +kernel)
theorem c_layers_of (Y : Tx P K mg a_NoWeave a_JewelError k__law_are_shifts_right q__law_are_shifts_right) : CalX P w K mg base (tabs q__law_are_shifts_right) (kap a_NoWeave a_JewelError) 8 1 "layers_of" F_layers_of := by
  have S := s_layers_of
  refine cal_mkX (k := 7) (m := 6) Y.d_layers_of S rfl rfl (fun _ _ _ _ _ _ us hl => match us, hl with | [_], _ => rfl) fun f cdv A outer s H E hr => ?_
  exact dss_cons (ds_expr (de_calX (c_check_weave Y) hr (by decide) rfl (takes_of rfl rfl rfl rfl) ((da_cons (de_var 0) (da_nil)))))
      (dss_cons (ds_unpack (pt rfl (ptc (pn 1 S.nd) (ptc (pn 2 S.nd) (ptn)))) (de_calX (c_every_row Y) hr (by decide) rfl (takes_of rfl rfl rfl rfl) ((da_cons (de_var 0) (da_nil)))))
      (dss_cons (ds_set 3 S.nd (DL.n (dl_lst (dd_nil))))
      (dss_cons (ds_set 4 S.nd (DE.n (de_calX (c_lifts_of Y) hr (by decide) rfl (takes_of rfl rfl rfl rfl) ((da_cons (de_var 0) ((da_cons (de_var 1) ((da_cons (de_var 2) (da_nil))))))))))
      (dss_cons (ds_whileF (passes_of rfl) (dt_cmp op_notA p_isNot (nomark _) (DE.b (de_var 4)) (DE.b (de_non))) (dss_cons (ds_append 3 (de_var 4))
      (dss_cons (ds_set 1 S.nd (DE.n (e_tuple Y.n_tuple (DL.b (dl_lc rfl S.nd (own := [("row", 5)]) (blk_by (by rfl)) (by decide) (dib_seq (DE.b (de_var 1))) (fun _ _ _ _ _ => pn 5 S.nd) (fun _ _ _ _ _ => dts_one (dt_nin (hu65 hr) (DE.b (de_var 5)) (DE.b (de_ix (DE.b (de_var 4)) (DE.b (de_int)))))) (fun _ _ _ _ _ => de_var 5))))))
      (dss_cons (ds_set 2 S.nd (DE.n (e_tuple Y.n_tuple (DL.b (dl_lc rfl S.nd (own := [("column", 6)]) (blk_by (by rfl)) (by decide) (dib_seq (DE.b (de_var 2))) (fun _ _ _ _ _ => pn 6 S.nd) (fun _ _ _ _ _ => dts_one (dt_nin (hu65 hr) (DE.b (de_var 6)) (DE.b (de_ix (DE.b (de_var 4)) (DE.b (de_int)))))) (fun _ _ _ _ _ => de_var 6))))))
      (dss_one (ds_set 4 S.nd (DE.n (de_calX (c_lifts_of Y) hr (by decide) rfl (takes_of rfl rfl rfl rfl) ((da_cons (de_var 0) ((da_cons (de_var 1) ((da_cons (de_var 2) (da_nil)))))))))))))))
      (dss_one (ds_ret (e_tuple Y.n_tuple (DL.b (dl_add ((db_var 3)) (DL.b (dl_lst ((dd_cons (de_tup ((dd_cons (de_var 1) ((dd_cons (de_var 2) (dd_nil)))))) (dd_nil))))))))))))))
theorem s__law_hand : FnScope ["script", "cells", "cell"] ["script"] (defScope (top 19)) := C8.fnScope_by (by decide +kernel)
theorem c__law_hand (Y : Tx P K mg a_NoWeave a_JewelError k__law_are_shifts_right q__law_are_shifts_right) : CalH2 P w K (tabs q__law_are_shifts_right) mg base 2 "_law_hand" (fcM 48) 9319 17 := by
  have S := s__law_hand
  obtain ⟨f, fd, Fu, hm⟩ := Y.d__law_hand.ex
  refine ⟨f, fd, _, hd_ok (k := 1) (tEm_ok (by decide) (by decide)) (by decide) Fu S fun cdv A outer s H E hr => ?_, hm, Fu.kp, Fu.binds fun _ _ _ _ _ _ us hl => match us, hl with | [_], _ => rfl⟩
  exact pss_cons (ps_setLc rfl S.nd rfl rfl rfl (own := [("cell", 2)]) (pi_seqD (pe_slice sl_data (pv 0) po_none (po_some pe_int))) (blk_by (by rfl)) (fun _ _ _ _ _ => pg_name S.nd rfl (Or.inl rfl) (Or.inr rfl)) (fun _ _ _ _ _ => pts_nil)
      (fun _ _ _ _ _ => pe_op op_modN (pe_callTy call_int1 rfl Y.n_int boot_int (pa_cons (pe_callB call_abs rfl Y.n_abs boot_abs (pa_cons (pe_callTy call_int1 rfl Y.n_int boot_int (pa_cons (pv 2) pa_nil)) pa_nil)) pa_nil)) (pe_op op_pow pe_int pe_int)))
    (pss_one (ps_ret (pe_lst (pa_cons (pv 1) (pa_cons pe_int (pa_cons pe_int (pa_cons (pe_op op_add pe_int (pe_op op_mulX pe_int (pe_callB call_len rfl Y.n_len boot_len (pa_cons (pv 1) pa_nil)))) (pa_cons pe_int pa_nil))))))))
theorem s__law_draw : FnScope ["hand", "many", "cell", "digit", "number"] ["hand", "many"] (defScope (top 20)) := C8.fnScope_by (by decide +kernel)
theorem c__law_draw (Y : Tx P K mg a_NoWeave a_JewelError k__law_are_shifts_right q__law_are_shifts_right) : CalX P w K mg base (tabs q__law_are_shifts_right) (kap a_NoWeave a_JewelError) 2 2 "_law_draw" F__law_draw := by
  have S := s__law_draw
  refine cal_mkX (k := 1) (m := 3) Y.d__law_draw S rfl rfl (fun _ _ _ _ _ _ us hl => match us, hl with | [_, _], _ => rfl) fun f cdv A outer s H E hr => ?_
  exact dss_cons (ds_if (DW.t (dw_and (dt_cmp (op_eqD (hu64 hr)) p_eq (nomark _) (DE.b (de_hix 0 2)) (DE.b (de_int))) (dw_and1 (dt_cmp op_lt p_lt (nomark _) (DE.b (de_hix 0 1)) (DE.b (e_len Y.n_len (DE.b (de_hix 0 0)))))))) (dss_cons (ds_set 2 S.nd (DE.n (de_ix (DE.b (de_hix 0 0)) (DE.b (de_hix 0 1)))))
      (dss_cons (ds_hput 0 1 (de_add (DE.b (de_hix 0 1)) (DE.b (de_int))))
      (dss_cons (ds_hput 0 3 (de_mod (DE.b (e_int Y.n_int (DE.b (de_add (DE.b (de_add (DE.b (de_mul (DE.b (de_hix 0 3)) (DE.b (de_int)))) (DE.b (de_mul (DE.b (de_var 2)) (DE.b (de_int)))))) (DE.b (de_int)))))) (DE.b (de_int))))
      (dss_one (ds_hput 0 2 (de_if (dt_cmp op_ge p_ge (nomark _) (DE.b (de_var 2)) (DE.b (de_pow (DE.b (de_int)) (DE.b (de_int))))) (de_var 2) (de_int))))))) (dss_nil))
      (dss_cons (ds_if (dt_cmp op_gt p_gt (nomark _) (DE.b (de_hix 0 2)) (DE.b (de_int))) (dss_cons (ds_set 3 S.nd (DE.n (de_mod (DE.b (e_int Y.n_int (DE.b (de_hix 0 2)))) (DE.b (de_var 1)))))
      (dss_cons (ds_hput 0 2 (de_div (DE.b (de_hix 0 2)) (DE.b (de_var 1))))
      (dss_one (ds_ret (de_var 3))))) (dss_nil))
      (dss_cons (ds_hput 0 4 (de_add (DE.b (de_hix 0 4)) (DE.b (de_int))))
      (dss_cons (ds_set 4 S.nd (DE.n (de_mod (DE.b (e_int Y.n_int (DE.b (de_mul (DE.b (e_int Y.n_int (DE.b (de_add (DE.b (de_hix 0 3)) (DE.b (de_mul (DE.b (de_int)) (DE.b (de_hix 0 4)))))))) (DE.b (de_int)))))) (DE.b (de_int)))))
      (dss_cons (ds_set 4 S.nd (DE.n (de_mod (DE.b (e_int Y.n_int (DE.b (de_mul (DE.b (de_var 4)) (DE.b (de_add (DE.b (de_div (DE.b (de_var 4)) (DE.b (de_int)))) (DE.b (de_int)))))))) (DE.b (de_int)))))
      (dss_cons (ds_set 4 S.nd (DE.n (de_mod (DE.b (e_int Y.n_int (DE.b (de_mul (DE.b (de_var 4)) (DE.b (de_add (DE.b (de_div (DE.b (de_var 4)) (DE.b (de_int)))) (DE.b (de_int)))))))) (DE.b (de_int)))))
      (dss_one (ds_ret (de_mod (DE.b (e_int Y.n_int (DE.b (de_div (DE.b (de_var 4)) (DE.b (de_int)))))) (DE.b (de_var 1))))))))))
theorem s__law_some : FnScope ["hand", "things"] ["hand", "things"] (defScope (top 21)) := C8.fnScope_by (by decide +kernel)
theorem c__law_some (Y : Tx P K mg a_NoWeave a_JewelError k__law_are_shifts_right q__law_are_shifts_right) : CalX P w K mg base (tabs q__law_are_shifts_right) (kap a_NoWeave a_JewelError) 4 2 "_law_some" F__law_some := by
  have S := s__law_some
  refine cal_mkX (k := 3) (m := 0) Y.d__law_some S rfl rfl (fun _ _ _ _ _ _ us hl => match us, hl with | [_, _], _ => rfl) fun f cdv A outer s H E hr => ?_
  exact dss_one (ds_ret (de_ix (DE.b (de_var 1)) (DE.b (de_calX (c__law_draw Y) hr (by decide) rfl (takes_of rfl rfl rfl rfl) ((da_hand 0 ((da_cons (e_len Y.n_len (DE.b (de_var 1))) (da_nil)))))))))
theorem s__law_like : FnScope ["told", "due"] ["told", "due"] (defScope (top 22)) := C8.fnScope_by (by decide +kernel)
theorem c__law_like (Y : Tx P K mg a_NoWeave a_JewelError k__law_are_shifts_right q__law_are_shifts_right) (hbase : ∀ p ∈ (codes k__law_are_shifts_right q__law_are_shifts_right), LamX.TabB base mg p.1 p.2) : CalG P w K mg base (tabs q__law_are_shifts_right) 2 2 "_law_like" F__law_like := by
  have S := s__law_like
  refine cal_mkG (k := 1) (m := 0) Y.d__law_like S rfl rfl (fun _ _ _ _ _ _ us hl => match us, hl with | [_, _], _ => rfl) fun f cdv A outer s H E gd0 hr => ?_
  have gd : (A.deeper (envOfC "_law_like" (defScope (top 22)) s.heap.objs.size f cdv)).guards = some [] := guards_deeper gd0
  exact dss_one (ds_ret (de_eq (hu64 hr) (DE.b (e_repr gd hr Y.n_repr (DE.b (de_var 0)))) (DE.b (e_repr gd hr Y.n_repr (DE.b (de_var 1))))))
theorem s__law_all_lots : FnScope ["n", "found", "number", "lot"] ["n"] (defScope (top 23)) := C8.fnScope_by (by decide +kernel)
theorem c__law_all_lots (Y : Tx P K mg a_NoWeave a_JewelError k__law_are_shifts_right q__law_are_shifts_right) : CalX P w K mg base (tabs q__law_are_shifts_right) (kap a_NoWeave a_JewelError) 2 1 "_law_all_lots" F__law_all_lots := by
  have S := s__law_all_lots
  refine cal_mkX (k := 1) (m := 3) Y.d__law_all_lots S rfl rfl (fun _ _ _ _ _ _ us hl => match us, hl with | [_], _ => rfl) fun f cdv A outer s H E hr => ?_
  exact dss_cons (ds_set 1 S.nd (DE.n (DL.e (dl_lst ((dd_cons (de_tup (dd_nil)) (dd_nil)))))))
      (dss_cons (ds_for (passes_of rfl) rfl ((di_rng1 Y.n_range rfl (DE.b (de_var 0)))) (pn 2 S.nd) (dss_end [2] (dss_one (ds_set 1 S.nd (DE.n (DL.e (dl_add (DE.b (de_var 1)) (DL.b (dl_lc rfl S.nd (own := [("lot", 3)]) (blk_by (by rfl)) (by decide) (dib_seq (DE.b (de_var 1))) (fun _ _ _ _ _ => pn 3 S.nd) (fun _ _ _ _ _ => dts_nil) (fun _ _ _ _ _ => de_add (DE.b (de_var 3)) (DE.b (de_tup ((dd_cons (de_var 2) (dd_nil)))))))))))))))
      (dss_one (ds_ret (de_var 1))))
theorem s__law_weave : FnScope ["hand", "rows", "columns", "way", "by", "found", "top", "at", "r", "row", "c"] ["hand"] (defScope (top 24)) := C8.fnScope_by (by decide +kernel)
theorem c__law_weave (Y : Tx P K mg a_NoWeave a_JewelError k__law_are_shifts_right q__law_are_shifts_right) : CalX P w K mg base (tabs q__law_are_shifts_right) (kap a_NoWeave a_JewelError) 6 1 "_law_weave" F__law_weave := by
  have S := s__law_weave
  refine cal_mkX (k := 5) (m := 10) Y.d__law_weave S rfl rfl (fun _ _ _ _ _ _ us hl => match us, hl with | [_], _ => rfl) fun f cdv A outer s H E hr => ?_
  exact dss_cons (ds_unN [1, 2, 3] (pt rfl (ptc (pn 1 S.nd) (ptc (pn 2 S.nd) (ptc (pn 3 S.nd) (ptn))))) (dx_cons (DE.n (de_add (DE.b (de_int)) (DE.b (de_calX (c__law_draw Y) hr (by decide) rfl (takes_of rfl rfl rfl rfl) ((da_hand 0 ((da_cons (de_int) (da_nil))))))))) (dx_cons (DE.n (de_add (DE.b (de_int)) (DE.b (de_calX (c__law_draw Y) hr (by decide) rfl (takes_of rfl rfl rfl rfl) ((da_hand 0 ((da_cons (de_int) (da_nil))))))))) (dx_cons (DE.n (de_calX (c__law_draw Y) hr (by decide) rfl (takes_of rfl rfl rfl rfl) ((da_hand 0 ((da_cons (de_int) (da_nil))))))) dx_nil))))
      (dss_cons (ds_unN [4, 5] (pt rfl (ptc (pn 4 S.nd) (ptc (pn 5 S.nd) (ptn)))) (dx_cons (DE.n (de_calX (c__law_some Y) hr (by decide) rfl (takes_of rfl rfl rfl rfl) ((da_hand 0 ((da_cons (DL.e (dl_lst ((dd_cons (de_int) ((dd_cons (de_int) ((dd_cons (de_int) ((dd_cons (de_int) (dd_nil))))))))))) (da_nil))))))) (dx_cons (DL.n (dl_lst (dd_nil))) dx_nil)))
      (dss_cons (ds_set 6 S.nd (DE.n (DL.e (dl_lc rfl S.nd (own := [("at", 7)]) (blk_by (by rfl)) (by decide) (DI.b (di_rng1 Y.n_range rfl (DE.b (de_add (DE.b (de_var 1)) (DE.b (de_var 2)))))) (fun _ _ _ _ _ => pn 7 S.nd) (fun _ _ _ _ _ => dts_nil) (fun _ _ _ _ _ => de_calN (c__law_draw Y) hr (by decide) rfl ((da_hand 0 ((da_cons (de_int) (da_nil))))))))))
      (dss_cons (ds_for (passes_of rfl) rfl ((di_rng1 Y.n_range rfl (DE.b (de_var 1)))) (pn 8 S.nd) (dss_end [8, 9] (dss_cons (ds_setLcD 9 rfl S.nd (own := [("c", 10)]) rfl (blk_by (by rfl)) (by decide) (DI.b (di_rng1 Y.n_range rfl (DE.b (de_var 2)))) (fun _ _ _ _ _ => pn 10 S.nd) (fun _ _ _ _ _ => dts_nil) (fun _ _ _ _ _ => e_int Y.n_int (DE.b (de_eq (hu64 hr) (DE.b (de_mod (DE.b (e_int Y.n_int (DE.b (de_add (DE.b (de_mul (DE.b (de_var 8)) (DE.b (de_var 4)))) (DE.b (de_var 10)))))) (DE.b (e_max2 rfl Y.n_max (DE.b (de_int)) (DE.b (de_div (DE.b (de_var 2)) (DE.b (de_int)))))))) (DE.b (de_int))))))
      (dss_cons (ds_if (dt_cmp (op_eqD (hu64 hr)) p_eq (nomark _) (DE.b (de_var 3)) (DE.b (de_int))) (dss_one (ds_setLcD 9 rfl S.nd (own := [("c", 10)]) rfl (blk_by (by rfl)) (by decide) (DI.b (di_rng1 Y.n_range rfl (DE.b (de_var 2)))) (fun _ _ _ _ _ => pn 10 S.nd) (fun _ _ _ _ _ => dts_nil) (fun _ _ _ _ _ => de_calN (c__law_draw Y) hr (by decide) rfl ((da_hand 0 ((da_cons (de_int) (da_nil)))))))) (dss_nil))
      (dss_cons (ds_if (dt_cmp (op_eqD (hu64 hr)) p_eq (nomark _) (DE.b (de_var 3)) (DE.b (de_int))) (dss_one (ds_setLcD 9 rfl S.nd (own := [("c", 10)]) rfl (blk_by (by rfl)) (by decide) (DI.b (di_rng1 Y.n_range rfl (DE.b (de_var 2)))) (fun _ _ _ _ _ => pn 10 S.nd) (fun _ _ _ _ _ => dts_nil) (fun _ _ _ _ _ => de_if (dt_cmp (op_neD (hu64 hr)) p_ne (nomark _) (DE.b (de_ix (DE.b (de_var 6)) (DE.b (de_var 8)))) (DE.b (de_ix (DE.b (de_var 6)) (DE.b (de_add (DE.b (de_var 1)) (DE.b (de_var 10))))))) (de_ix (DE.b (de_var 6)) (DE.b (de_var 8))) (de_calN (c__law_draw Y) hr (by decide) rfl ((da_hand 0 ((da_cons (de_int) (da_nil))))))))) (dss_nil))
      (dss_cons (ds_if (dt_cmp (op_eqD (hu64 hr)) p_eq (nomark _) (DE.b (de_var 3)) (DE.b (de_int))) (dss_one (ds_setLcD 9 rfl S.nd (own := [("c", 10)]) rfl (blk_by (by rfl)) (by decide) (DI.b (di_rng1 Y.n_range rfl (DE.b (de_var 2)))) (fun _ _ _ _ _ => pn 10 S.nd) (fun _ _ _ _ _ => dts_nil) (fun _ _ _ _ _ => e_int Y.n_int (DE.b (de_eq (hu64 hr) (DE.b (de_mod (DE.b (e_int Y.n_int (DE.b (de_add (DE.b (de_var 8)) (DE.b (de_var 10)))))) (DE.b (de_int)))) (DE.b (de_int))))))) (dss_nil))
      (dss_one (ds_append 5 (e_tuple Y.n_tuple (DE.b (de_var 9)))))))))))
      (dss_cons (ds_if (DW.t (dw_or (dt_cmp op_gt p_gt (nomark _) (DE.b (de_var 3)) (DE.b (de_int))) (dw_or1 (dt_cmp (op_eqD (hu64 hr)) p_eq (nomark _) (DE.b (de_calX (c__law_draw Y) hr (by decide) rfl (takes_of rfl rfl rfl rfl) ((da_hand 0 ((da_cons (de_int) (da_nil))))))) (DE.b (de_int)))))) (dss_cons (ds_unN [8, 10] (pt rfl (ptc (pn 8 S.nd) (ptc (pn 10 S.nd) (ptn)))) (dx_cons (DE.n (de_calX (c__law_draw Y) hr (by decide) rfl (takes_of rfl rfl rfl rfl) ((da_hand 0 ((da_cons (de_var 1) (da_nil))))))) (dx_cons (DE.n (de_calX (c__law_draw Y) hr (by decide) rfl (takes_of rfl rfl rfl rfl) ((da_hand 0 ((da_cons (de_var 2) (da_nil))))))) dx_nil)))
      (dss_one (ds_setIx 5 (de_add (DE.b (de_add (DE.b (de_slice (DE.b (de_ix ((db_var 5)) (DE.b (de_var 8)))) (do_none) (do_some (DE.b (de_var 10))))) (DE.b (de_tup ((dd_cons (de_sub (DE.b (de_int)) (DE.b (de_ix (DE.b (de_ix ((db_var 5)) (DE.b (de_var 8)))) (DE.b (de_var 10))))) (dd_nil))))))) (DE.b (de_slice (DE.b (de_ix ((db_var 5)) (DE.b (de_var 8)))) (do_some (DE.b (de_add (DE.b (de_var 10)) (DE.b (de_int))))) (do_none)))) (de_var 8)))) (dss_nil))
      (dss_one (ds_ret (e_tuple Y.n_tuple ((db_var 5)))))))))
theorem s__law_lies_over : FnScope ["weave", "rows", "columns", "some", "others", "r", "c"] ["weave", "rows", "columns", "some", "others"] (defScope (top 25)) := C8.fnScope_by (by decide +kernel)
theorem c__law_lies_over (Y : Tx P K mg a_NoWeave a_JewelError k__law_are_shifts_right q__law_are_shifts_right) : CalX P w K mg base (tabs q__law_are_shifts_right) (kap a_NoWeave a_JewelError) 2 5 "_law_lies_over" F__law_lies_over := by
  have S := s__law_lies_over
  refine cal_mkX (k := 1) (m := 2) Y.d__law_lies_over S rfl rfl (fun _ _ _ _ _ _ us hl => match us, hl with | [_, _, _, _, _], _ => rfl) fun f cdv A outer s H E hr => ?_
  exact dss_cons (ds_for (passes_of rfl) rfl (di_seq (de_var 1)) (pn 5 S.nd) (dss_end [5, 6] (dss_one (ds_un [1, 6] (ds_for (passes_of rfl) rfl (di_seq (de_var 2)) (pn 6 S.nd) (dss_end [6] (dss_one (ds_if (DW.t (dw_and (dt_cmp (op_neD (hu64 hr)) p_ne (nomark _) (DE.b (de_in (hu65 hr) (DE.b (de_var 5)) (DE.b (de_var 3)))) (DE.b (de_in (hu65 hr) (DE.b (de_var 6)) (DE.b (de_var 4))))) (dw_and1 (dt_cmp (op_neD (hu64 hr)) p_ne (nomark _) (DE.b (de_ix (DE.b (de_ix (DE.b (de_var 0)) (DE.b (de_var 5)))) (DE.b (de_var 6)))) (DE.b (e_int Y.n_int (DE.b (de_in (hu65 hr) (DE.b (de_var 5)) (DE.b (de_var 3)))))))))) (dss_one (ds_ret (de_bl))) (dss_nil)))))))))
      (dss_one (ds_ret (de_bl)))
theorem s__law_lifts : FnScope ["weave", "rows", "columns", "found", "some", "mine", "at", "more", "its", "many", "row"] ["weave", "rows", "columns"] (defScope (top 26)) := C8.fnScope_by (by decide +kernel)
theorem c__law_lifts (Y : Tx P K mg a_NoWeave a_JewelError k__law_are_shifts_right q__law_are_shifts_right) : CalX P w K mg base (tabs q__law_are_shifts_right) (kap a_NoWeave a_JewelError) 4 3 "_law_lifts" F__law_lifts := by
  have S := s__law_lifts
  refine cal_mkX (k := 3) (m := 8) Y.d__law_lifts S rfl rfl (fun _ _ _ _ _ _ us hl => match us, hl with | [_, _, _], _ => rfl) fun f cdv A outer s H E hr => ?_
  exact dss_cons (ds_set 3 S.nd (DL.n (dl_lst (dd_nil))))
      (dss_cons (ds_for (passes_of rfl) rfl (di_seq (de_calX (c__law_all_lots Y) hr (by decide) rfl (takes_of rfl rfl rfl rfl) ((da_cons (e_len Y.n_len (DE.b (de_var 1))) (da_nil))))) (pn 4 S.nd) (dss_end [4, 5, 7, 8, 9] (dss_cons (ds_set 5 S.nd (DE.n (e_tuple Y.n_tuple (DL.b (dl_lc rfl S.nd (own := [("at", 6)]) (blk_by (by rfl)) (by decide) (dib_seq (DE.b (de_var 4))) (fun _ _ _ _ _ => pn 6 S.nd) (fun _ _ _ _ _ => dts_nil) (fun _ _ _ _ _ => de_ix (DE.b (de_var 1)) (DE.b (de_var 6))))))))
      (dss_one (ds_un [4, 7, 8, 9] (ds_for (passes_of rfl) rfl (di_seq (de_calX (c__law_all_lots Y) hr (by decide) rfl (takes_of rfl rfl rfl rfl) ((da_cons (e_len Y.n_len (DE.b (de_var 2))) (da_nil))))) (pn 7 S.nd) (dss_end [7, 8, 9] (dss_cons (ds_set 8 S.nd (DE.n (e_tuple Y.n_tuple (DL.b (dl_lc rfl S.nd (own := [("at", 6)]) (blk_by (by rfl)) (by decide) (dib_seq (DE.b (de_var 7))) (fun _ _ _ _ _ => pn 6 S.nd) (fun _ _ _ _ _ => dts_nil) (fun _ _ _ _ _ => de_ix (DE.b (de_var 2)) (DE.b (de_var 6))))))))
      (dss_cons (ds_set 9 S.nd (DE.n (de_add (DE.b (e_len Y.n_len (DE.b (de_var 5)))) (DE.b (e_len Y.n_len (DE.b (de_var 8)))))))
      (dss_one (ds_if (DW.t (dw_and (dt_chain op_lt op_lt p_lt p_lt (DE.b (de_int)) (DE.b (de_var 9)) (DE.b (de_add (DE.b (e_len Y.n_len (DE.b (de_var 1)))) (DE.b (e_len Y.n_len (DE.b (de_var 2))))))) (dw_and1 (dt_val (DE.b (de_calX (c__law_lies_over Y) hr (by decide) rfl (takes_of rfl rfl rfl rfl) ((da_cons (de_var 0) ((da_cons (de_var 1) ((da_cons (de_var 2) ((da_cons (de_var 5) ((da_cons (de_var 8) (da_nil))))))))))))))))) (dss_one (ds_append 3 (de_tup ((dd_cons (de_var 9) ((dd_cons (de_var 5) ((dd_cons (de_var 8) (dd_nil)))))))))) (dss_nil))))))))))))
      (dss_one (ds_ret (DL.e (dl_lc rfl S.nd (own := [("row", 10)]) (blk_by (by rfl)) (by decide) (dib_seq (DL.b (l_sorted hr Y.n_sorted ((db_var 3))))) (fun _ _ _ _ _ => pn 10 S.nd) (fun _ _ _ _ _ => dts_nil) (fun _ _ _ _ _ => de_slice (DE.b (de_var 10)) (do_some (DE.b (de_int))) (do_none)))))))
theorem s__law_bad_weave : FnScope ["hand", "weave", "some"] ["hand", "weave"] (defScope (top 27)) := C8.fnScope_by (by decide +kernel)
theorem c__law_bad_weave (Y : Tx P K mg a_NoWeave a_JewelError k__law_are_shifts_right q__law_are_shifts_right) : CalX P w K mg base (tabs q__law_are_shifts_right) (kap a_NoWeave a_JewelError) 6 2 "_law_bad_weave" F__law_bad_weave := by
  have S := s__law_bad_weave
  refine cal_mkX (k := 5) (m := 1) Y.d__law_bad_weave S rfl rfl (fun _ _ _ _ _ _ us hl => match us, hl with | [_, _], _ => rfl) fun f cdv A outer s H E hr => ?_
  exact dss_cons (ds_set 2 S.nd (DE.n (DL.e (dl_lst ((dd_cons (de_non) ((dd_cons (de_tup (dd_nil)) ((dd_cons (de_tup ((dd_cons (de_tup (dd_nil)) (dd_nil)))) ((dd_cons (DL.e (l_list Y.n_list (DE.b (de_var 1)))) ((dd_cons (de_add (DE.b (de_var 1)) (DE.b (de_tup ((dd_cons (de_add (DE.b (de_ix (DE.b (de_var 1)) (DE.b (de_int)))) (DE.b (de_tup ((dd_cons (de_int) (dd_nil)))))) (dd_nil)))))) ((dd_cons (de_add (DE.b (de_slice (DE.b (de_var 1)) (do_none) (do_some (DE.b (de_neg (DE.b (de_int))))))) (DE.b (de_tup ((dd_cons (DL.e (l_list Y.n_list (DE.b (de_ix (DE.b (de_var 1)) (DE.b (de_neg (DE.b (de_int)))))))) (dd_nil)))))) ((dd_cons (de_ix (DE.b (de_var 1)) (DE.b (de_int))) (dd_nil)))))))))))))))))))
      (dss_cons (ds_set 2 S.nd (DE.n (DL.e (dl_add (DE.b (de_var 2)) (DL.b (dl_lst ((dd_cons (de_add (DE.b (de_slice (DE.b (de_var 1)) (do_none) (do_some (DE.b (de_neg (DE.b (de_int))))))) (DE.b (de_tup ((dd_cons (de_add (DE.b (de_slice (DE.b (de_ix (DE.b (de_var 1)) (DE.b (de_neg (DE.b (de_int)))))) (do_none) (do_some (DE.b (de_neg (DE.b (de_int))))))) (DE.b (de_tup ((dd_cons (de_int) (dd_nil)))))) (dd_nil)))))) ((dd_cons (de_add (DE.b (de_slice (DE.b (de_var 1)) (do_none) (do_some (DE.b (de_neg (DE.b (de_int))))))) (DE.b (de_tup ((dd_cons (de_add (DE.b (de_slice (DE.b (de_ix (DE.b (de_var 1)) (DE.b (de_neg (DE.b (de_int)))))) (do_none) (do_some (DE.b (de_neg (DE.b (de_int))))))) (DE.b (de_tup ((dd_cons (de_bl) (dd_nil)))))) (dd_nil)))))) ((dd_cons (de_mul (DE.b (de_tup ((dd_cons (de_ix (DE.b (de_var 1)) (DE.b (de_int))) (dd_nil))))) (DE.b (de_int))) (dd_nil)))))))))))))
      (dss_one (ds_ret (de_calX (c__law_some Y) hr (by decide) rfl (takes_of rfl rfl rfl rfl) ((da_hand 0 ((da_cons (DL.e (dl_add (DE.b (de_var 2)) (DL.b (dl_lst ((dd_cons (de_tup ((dd_cons (de_mul (DE.b (de_tup ((dd_cons (de_int) (dd_nil))))) (DE.b (de_int))) (dd_nil)))) ((dd_cons (de_add (DE.b (de_slice (DE.b (de_var 1)) (do_none) (do_some (DE.b (de_neg (DE.b (de_int))))))) (DE.b (de_tup ((dd_cons (de_add (DE.b (de_slice (DE.b (de_ix (DE.b (de_var 1)) (DE.b (de_neg (DE.b (de_int)))))) (do_none) (do_some (DE.b (de_neg (DE.b (de_int))))))) (DE.b (de_tup ((dd_cons (de_neg (DE.b (de_int))) (dd_nil)))))) (dd_nil)))))) ((dd_cons (de_add (DE.b (de_slice (DE.b (de_var 1)) (do_none) (do_some (DE.b (de_neg (DE.b (de_int))))))) (DE.b (de_tup ((dd_cons (de_non) (dd_nil)))))) (dd_nil))))))))))) (da_nil)))))))))
theorem s__law_later : FnScope ["weave", "r", "c", "row"] ["weave", "r", "c"] (defScope (top 28)) := C8.fnScope_by (by decide +kernel)
theorem c__law_later (Y : Tx P K mg a_NoWeave a_JewelError k__law_are_shifts_right q__law_are_shifts_right) : CalX P w K mg base (tabs q__law_are_shifts_right) (kap a_NoWeave a_JewelError) 2 3 "_law_later" F__law_later := by
  have S := s__law_later
  refine cal_mkX (k := 1) (m := 1) Y.d__law_later S rfl rfl (fun _ _ _ _ _ _ us hl => match us, hl with | [_, _, _], _ => rfl) fun f cdv A outer s H E hr => ?_
  exact dss_one (ds_ret (e_tuple Y.n_tuple (DL.b (dl_lc rfl S.nd (own := [("row", 3)]) (blk_by (by rfl)) (by decide) (dib_seq (DE.b (de_add (DE.b (de_slice (DE.b (de_var 0)) (do_some (DE.b (de_var 1))) (do_none))) (DE.b (de_slice (DE.b (de_var 0)) (do_none) (do_some (DE.b (de_var 1)))))))) (fun _ _ _ _ _ => pn 3 S.nd) (fun _ _ _ _ _ => dts_nil) (fun _ _ _ _ _ => de_add (DE.b (de_slice (DE.b (de_var 3)) (do_some (DE.b (de_var 2))) (do_none))) (DE.b (de_slice (DE.b (de_var 3)) (do_none) (do_some (DE.b (de_var 2))))))))))
theorem s__law_shift : FnScope ["one", "other", "r", "c"] ["one", "other"] (defScope (top 29)) := C8.fnScope_by (by decide +kernel)
theorem c__law_shift (Y : Tx P K mg a_NoWeave a_JewelError k__law_are_shifts_right q__law_are_shifts_right) : CalX P w K mg base (tabs q__law_are_shifts_right) (kap a_NoWeave a_JewelError) 4 2 "_law_shift" F__law_shift := by
  have S := s__law_shift
  refine cal_mkX (k := 3) (m := 2) Y.d__law_shift S rfl rfl (fun _ _ _ _ _ _ us hl => match us, hl with | [_, _], _ => rfl) fun f cdv A outer s H E hr => ?_
  exact dss_cons (ds_for (passes_of rfl) rfl ((di_rng1 Y.n_range rfl (DE.b (e_len Y.n_len (DE.b (de_var 0)))))) (pn 2 S.nd) (dss_end [2, 3] (dss_one (ds_un [3] (ds_for (passes_of rfl) rfl ((di_rng1 Y.n_range rfl (DE.b (e_len Y.n_len (DE.b (de_ix (DE.b (de_var 0)) (DE.b (de_int)))))))) (pn 3 S.nd) (dss_end [3] (dss_one (ds_if (dt_cmp (op_eqD (hu64 hr)) p_eq (nomark _) (DE.b (de_calX (c__law_later Y) hr (by decide) rfl (takes_of rfl rfl rfl rfl) ((da_cons (de_var 0) ((da_cons (de_var 2) ((da_cons (de_var 3) (da_nil))))))))) (DE.b (de_var 1))) (dss_one (ds_ret (de_tup ((dd_cons (de_str) ((dd_cons (de_var 2) ((dd_cons (de_var 3) (dd_nil)))))))))) (dss_nil)))))))))
      (dss_one (ds_ret (de_tup ((dd_cons (de_str) (dd_nil))))))
theorem s__law_layers : FnScope ["weave", "rows", "columns", "found", "lifts", "some", "r", "c"] ["weave"] (defScope (top 30)) := C8.fnScope_by (by decide +kernel)
theorem c__law_layers (Y : Tx P K mg a_NoWeave a_JewelError k__law_are_shifts_right q__law_are_shifts_right) : CalX P w K mg base (tabs q__law_are_shifts_right) (kap a_NoWeave a_JewelError) 6 1 "_law_layers" F__law_layers := by
  have S := s__law_layers
  refine cal_mkX (k := 5) (m := 7) Y.d__law_layers S rfl rfl (fun _ _ _ _ _ _ us hl => match us, hl with | [_], _ => rfl) fun f cdv A outer s H E hr => ?_
  exact dss_cons (ds_par3 1 2 3 rfl S.nd (dx_cons (DE.n (DL.e (dl_listRg1 rfl Y.n_list Y.n_range (DE.b (e_len Y.n_len (DE.b (de_var 0))))))) (dx_cons (DE.n (DL.e (dl_listRg1 rfl Y.n_list Y.n_range (DE.b (e_len Y.n_len (DE.b (de_ix (DE.b (de_var 0)) (DE.b (de_int))))))))) (dx_cons (DL.n (dl_lst (dd_nil))) dx_nil))))
      (dss_cons (ds_whileF (passes_of rfl) (dt_cmp op_gt p_gt (nomark _) (DE.b (de_add (DE.b (e_len Y.n_len (DE.b (de_var 1)))) (DE.b (e_len Y.n_len (DE.b (de_var 2)))))) (DE.b (de_int))) (dss_end [4, 5] (dss_cons (ds_set 4 S.nd (DE.n (de_calX (c__law_lifts Y) hr (by decide) rfl (takes_of rfl rfl rfl rfl) ((da_cons (de_var 0) ((da_cons (de_var 1) ((da_cons (de_var 2) (da_nil))))))))))
      (dss_cons (ds_set 5 S.nd (DE.n (de_if (dt_cmp (op_neD (hu64 hr)) p_ne (nomark _) (DE.b (de_var 4)) (DL.b (dl_lst (dd_nil)))) (de_ix (DE.b (de_var 4)) (DE.b (de_int))) (de_tup ((dd_cons (e_tuple Y.n_tuple (DE.b (de_var 1))) ((dd_cons (e_tuple Y.n_tuple (DE.b (de_var 2))) (dd_nil)))))))))
      (dss_cons (ds_append 3 (de_var 5))
      (dss_cons (ds_setLcD 1 rfl S.nd (own := [("r", 6)]) rfl (blk_by (by rfl)) (by decide) (dib_seq (DE.b (de_var 1))) (fun _ _ _ _ _ => pn 6 S.nd) (fun _ _ _ _ _ => dts_one (dt_nin (hu65 hr) (DE.b (de_var 6)) (DE.b (de_ix (DE.b (de_var 5)) (DE.b (de_int)))))) (fun _ _ _ _ _ => de_var 6))
      (dss_one (ds_setLcD 2 rfl S.nd (own := [("c", 7)]) rfl (blk_by (by rfl)) (by decide) (dib_seq (DE.b (de_var 2))) (fun _ _ _ _ _ => pn 7 S.nd) (fun _ _ _ _ _ => dts_one (dt_nin (hu65 hr) (DE.b (de_var 7)) (DE.b (de_ix (DE.b (de_var 5)) (DE.b (de_int)))))) (fun _ _ _ _ _ => de_var 7)))))))))
      (dss_one (ds_ret (e_tuple Y.n_tuple ((db_var 3))))))
theorem s__law_layered : FnScope ["hand", "rows", "columns", "many", "high", "low", "r", "c", "found", "row"] ["hand"] (defScope (top 31)) := C8.fnScope_by (by decide +kernel)
theorem c__law_layered (Y : Tx P K mg a_NoWeave a_JewelError k__law_are_shifts_right q__law_are_shifts_right) : CalX P w K mg base (tabs q__law_are_shifts_right) (kap a_NoWeave a_JewelError) 4 1 "_law_layered" F__law_layered := by
  have S := s__law_layered
  refine cal_mkX (k := 3) (m := 9) Y.d__law_layered S rfl rfl (fun _ _ _ _ _ _ us hl => match us, hl with | [_], _ => rfl) fun f cdv A outer s H E hr => ?_
  exact dss_cons (ds_par 1 2 rfl S.nd (DE.n (de_add (DE.b (de_int)) (DE.b (de_calX (c__law_draw Y) hr (by decide) rfl (takes_of rfl rfl rfl rfl) ((da_hand 0 ((da_cons (de_int) (da_nil))))))))) (DE.n (de_add (DE.b (de_int)) (DE.b (de_calX (c__law_draw Y) hr (by decide) rfl (takes_of rfl rfl rfl rfl) ((da_hand 0 ((da_cons (de_int) (da_nil))))))))))
      (dss_cons (ds_set 3 S.nd (DE.n (de_add (DE.b (de_int)) (DE.b (de_calX (c__law_draw Y) hr (by decide) rfl (takes_of rfl rfl rfl rfl) ((da_hand 0 ((da_cons (de_int) (da_nil))))))))))
      (dss_cons (ds_par 4 5 rfl S.nd (DE.n (DL.e (dl_lc rfl S.nd (own := [("r", 6)]) (blk_by (by rfl)) (by decide) (DI.b (di_rng1 Y.n_range rfl (DE.b (de_var 1)))) (fun _ _ _ _ _ => pn 6 S.nd) (fun _ _ _ _ _ => dts_nil) (fun _ _ _ _ _ => de_calN (c__law_draw Y) hr (by decide) rfl ((da_hand 0 ((da_cons (de_var 3) (da_nil))))))))) (DE.n (DL.e (dl_lc rfl S.nd (own := [("c", 7)]) (blk_by (by rfl)) (by decide) (DI.b (di_rng1 Y.n_range rfl (DE.b (de_var 2)))) (fun _ _ _ _ _ => pn 7 S.nd) (fun _ _ _ _ _ => dts_nil) (fun _ _ _ _ _ => de_calN (c__law_draw Y) hr (by decide) rfl ((da_hand 0 ((da_cons (de_var 3) (da_nil))))))))))
      (dss_cons (ds_set 8 S.nd (DL.n (dl_lst (dd_nil))))
      (dss_cons (ds_un [3] (ds_for (passes_of rfl) rfl ((di_rng1 Y.n_range rfl (DE.b (de_var 1)))) (pn 6 S.nd) (dss_end [6, 7, 9] (dss_cons (ds_set 9 S.nd (DL.n (dl_lst (dd_nil))))
      (dss_cons (ds_un [1, 3, 7] (ds_for (passes_of rfl) rfl ((di_rng1 Y.n_range rfl (DE.b (de_var 2)))) (pn 7 S.nd) (dss_end [7] (dss_one (ds_append 9 (de_if (dt_cmp (op_neD (hu64 hr)) p_ne (nomark _) (DE.b (de_ix (DE.b (de_var 4)) (DE.b (de_var 6)))) (DE.b (de_ix (DE.b (de_var 5)) (DE.b (de_var 7))))) (e_int Y.n_int (DE.b (de_lt (DE.b (de_ix (DE.b (de_var 4)) (DE.b (de_var 6)))) (DE.b (de_ix (DE.b (de_var 5)) (DE.b (de_var 7))))))) (e_int Y.n_int (DE.b (de_eq (hu64 hr) (DE.b (de_mod (DE.b (e_int Y.n_int (DE.b (de_add (DE.b (de_var 6)) (DE.b (de_var 7)))))) (DE.b (de_int)))) (DE.b (de_int)))))))))))
      (dss_one (ds_append 8 (e_tuple Y.n_tuple ((db_var 9))))))))))
      (dss_one (ds_ret (e_tuple Y.n_tuple ((db_var 8)))))))))
theorem s__law_word : FnScope ["call"] ["call"] (defScope (top 32)) := C8.fnScope_by (by decide +kernel)
theorem w__law_word (Y : Tx P K mg a_NoWeave a_JewelError k__law_are_shifts_right q__law_are_shifts_right) : WordD P w K mg base (kap a_NoWeave a_JewelError) ks__law_word "let" "_law_word" := by
  obtain ⟨f, fd, Fu, hm⟩ := Y.d__law_word.ex
  have kp := Fu.kp
  have bi := Fu.binds (ps := ["call"]) fun _ _ _ _ _ _ us hl => match us, hl with | [_], _ => rfl
  obtain ⟨oc, od, kV, doc, pm, an, cdv, ct, osl, rfl, lk, hcd⟩ := Fu.ex
  refine ⟨f, "call", ["call"], defArgs (top 32), defBody (top 32), defScope (top 32), .none, kV, doc, pm, cdv, ct, oc, an, od, osl, hm, kp, lk, hcd, bi, s__law_word, rfl, .inl rfl, by decide, by decide, ?_⟩
  rintro X rfl rfl rfl rfl rfl q
  refine word_givesC rfl (.cons "NoWeave" a_NoWeave "weave" _ _ _ _ _ Y.g_NoWeave rfl (by decide) (.cons "JewelError" a_JewelError "other" _ _ _ _ _ Y.g_JewelError rfl (by decide) (.nil))) ⟨?_⟩
  intro p hp
  exact (List.mem_cons.mp hp).elim (fun e => by subst e; exact (by show firstW _ (.ref a_NoWeave) _ = some _; simp [firstW, Y.x_NoWeave_NoWeave])) (fun hp => nomatch hp)
theorem s__law_are_shifts_right : FnScope ["hand", "weave", "r", "c", "other", "bent", "turned", "row", "one", "thing", "bad", "words"] ["hand", "weave"] (defScope (top 33)) := C8.fnScope_by (by decide +kernel)
theorem c__law_are_shifts_right (Y : Tx P K mg a_NoWeave a_JewelError k__law_are_shifts_right q__law_are_shifts_right) (hbase : ∀ p ∈ (codes k__law_are_shifts_right q__law_are_shifts_right), LamX.TabB base mg p.1 p.2) : CalG P w K mg base (tabs q__law_are_shifts_right) 12 2 "_law_are_shifts_right" F__law_are_shifts_right := by
  have S := s__law_are_shifts_right
  refine cal_mkGL (k := 11) (m := 10) Y.d__law_are_shifts_right S rfl rfl (fun _ _ _ _ _ _ us hl => match us, hl with | [_, _], _ => rfl) fun f A outer s H E gd0 hr => ?_
  have gd : (A.deeper (envOfC "_law_are_shifts_right" (defScope (top 33)) s.heap.objs.size f (.ref k__law_are_shifts_right))).guards = some [] := guards_deeper gd0
  exact dss_cons (ds_par 2 3 rfl S.nd (DE.n (de_calN (c__law_draw Y) hr (by decide) rfl ((da_hand 0 ((da_cons (e_len Y.n_len (DE.b (de_var 1))) (da_nil))))))) (DE.n (de_calN (c__law_draw Y) hr (by decide) rfl ((da_hand 0 ((da_cons (e_len Y.n_len (DE.b (de_ix (DE.b (de_var 1)) (DE.b (de_int))))) (da_nil))))))))
      (dss_cons (ds_set 4 S.nd (DE.n (de_calN (c__law_later Y) hr (by decide) rfl ((da_cons (de_var 1) ((da_cons (de_var 2) ((da_cons (de_var 3) (da_nil))))))))))
      (dss_cons (ds_set 5 S.nd (DE.n (de_add (DE.b (de_add (DE.b (de_slice (DE.b (de_var 4)) (do_none) (do_some (DE.b (de_var 2))))) (DE.b (de_tup ((dd_cons (de_add (DE.b (de_add (DE.b (de_slice (DE.b (de_ix (DE.b (de_var 4)) (DE.b (de_var 2)))) (do_none) (do_some (DE.b (de_var 3))))) (DE.b (de_tup ((dd_cons (de_sub (DE.b (de_int)) (DE.b (de_ix (DE.b (de_ix (DE.b (de_var 4)) (DE.b (de_var 2)))) (DE.b (de_var 3))))) (dd_nil))))))) (DE.b (de_slice (DE.b (de_ix (DE.b (de_var 4)) (DE.b (de_var 2)))) (do_some (DE.b (de_add (DE.b (de_var 3)) (DE.b (de_int))))) (do_none)))) (dd_nil))))))) (DE.b (de_slice (DE.b (de_var 4)) (do_some (DE.b (de_add (DE.b (de_var 2)) (DE.b (de_int))))) (do_none))))))
      (dss_cons (ds_set 6 S.nd (DE.n (e_tuple Y.n_tuple (DL.b (dl_lc rfl S.nd (own := [("row", 7)]) (blk_by (by rfl)) (by decide) (dib_seq (DE.b (de_var 1))) (fun _ _ _ _ _ => pn 7 S.nd) (fun _ _ _ _ _ => dts_nil) (fun _ _ _ _ _ => e_tuple Y.n_tuple (DL.b (dl_lc rfl S.nd (own := [("one", 8)]) (blk_by (by rfl)) (by decide) (dib_seq (DE.b (de_var 7))) (fun _ _ _ _ _ => pn 8 S.nd) (fun _ _ _ _ _ => dts_nil) (fun _ _ _ _ _ => de_sub (DE.b (de_int)) (DE.b (de_var 8)))))))))))
      (dss_cons (ds_un [2, 3] (ds_for PassesOwn.never rfl (di_seq (DL.e (dl_lst ((dd_cons (de_var 1) ((dd_cons (de_var 4) ((dd_cons (de_var 5) ((dd_cons (de_var 6) ((dd_cons (de_backT (DE.b (de_var 1))) ((dd_cons (e_tuple Y.n_tuple (DL.b (dl_lc rfl S.nd (own := [("row", 7)]) (blk_by (by rfl)) (by decide) (dib_seq (DE.b (de_var 4))) (fun _ _ _ _ _ => pn 7 S.nd) (fun _ _ _ _ _ => dts_nil) (fun _ _ _ _ _ => de_backT (DE.b (de_var 7)))))) (dd_nil)))))))))))))))) (pn 9 S.nd) (dss_end [9] (dss_one (ds_if (dt_not (dt_val (DE.b (de_calG (c__law_like Y hbase) gd hr (by decide) rfl ((da_cons (de_calN (c_same_weave Y) hr (by decide) rfl ((da_cons (de_var 1) ((da_cons (de_var 9) (da_nil)))))) ((da_cons (de_calN (c__law_shift Y) hr (by decide) rfl ((da_cons (de_var 1) ((da_cons (de_var 9) (da_nil)))))) (da_nil))))))))) (dss_one (ds_ret (de_bl))) (dss_nil))))))
      (dss_cons (ds_set 10 S.nd (DE.n (de_calN (c__law_bad_weave Y) hr (by decide) rfl ((da_hand 0 ((da_cons (de_var 1) (da_nil))))))))
      (dss_cons (ds_set 11 S.nd (DL.n (dl_lst ((dd_cons (de_word (w__law_word Y) rfl (hbase (k__law_are_shifts_right, q__law_are_shifts_right) List.mem_cons_self) rfl List.mem_cons_self (Jw.hu_of Y.nd List.mem_cons_self) (k := 9) (hr.mono (by decide)) (LamX.lamS_by (show LamX.lamSB (defScope (top 33)) _ = true from by decide +kernel)) rfl (fun _ _ _ _ _ => rfl) (fun _ _ _ _ _ _ _ hr => de_calX (c_same_weave Y) hr (by decide) rfl (takes_of rfl rfl rfl rfl) ((da_cons (de_var 10) ((da_cons (de_var 1) (da_nil))))))) (dd_nil))))))
      (dss_cons (ds_append 11 (de_word (w__law_word Y) rfl (hbase (k__law_are_shifts_right, q__law_are_shifts_right) List.mem_cons_self) rfl List.mem_cons_self (Jw.hu_of Y.nd List.mem_cons_self) (k := 9) (hr.mono (by decide)) (LamX.lamS_by (show LamX.lamSB (defScope (top 33)) _ = true from by decide +kernel)) rfl (fun _ _ _ _ _ => rfl) (fun _ _ _ _ _ _ _ hr => de_calX (c_same_weave Y) hr (by decide) rfl (takes_of rfl rfl rfl rfl) ((da_cons (de_var 1) ((da_cons (de_var 10) (da_nil))))))))
      (dss_cons (ds_append 11 (de_word (w__law_word Y) rfl (hbase (k__law_are_shifts_right, q__law_are_shifts_right) List.mem_cons_self) rfl List.mem_cons_self (Jw.hu_of Y.nd List.mem_cons_self) (k := 9) (hr.mono (by decide)) (LamX.lamS_by (show LamX.lamSB (defScope (top 33)) _ = true from by decide +kernel)) rfl (fun _ _ _ _ _ => rfl) (fun _ _ _ _ _ _ _ hr => de_calX (c_layers_of Y) hr (by decide) rfl (takes_of rfl rfl rfl rfl) ((da_cons (de_var 10) (da_nil))))))
      (dss_one (ds_ret (de_eq (hu64 hr) ((db_var 11)) (DL.b (dl_mul (DL.b (dl_lst ((dd_cons (de_str) (dd_nil))))) (DE.b (de_int)))))))))))))))
theorem s_law : FnScope ["script", "hand", "turn", "weave", "due"] ["script"] (defScope (top 34)) := C8.fnScope_by (by decide +kernel)
theorem c_law (Y : Tx P K mg a_NoWeave a_JewelError k__law_are_shifts_right q__law_are_shifts_right) (hbase : ∀ p ∈ (codes k__law_are_shifts_right q__law_are_shifts_right), LamX.TabB base mg p.1 p.2) {f : Addr} {fd : FuncData} (Fu : L2.Fun K "law" "law" (top 34) f fd) : FnG P w K mg base 14 f fd ["script"] (spL K (tabs q__law_are_shifts_right) (fcM 48) 9319 17 3 B_law) := by
  have S := s_law
  refine law_okG (k := 13) Fu S rfl ((c__law_hand Y).mono (by decide)) rfl (fun cdv A outer s H E te h => ps_set S.nd rfl (by first | exact Or.inl rfl | exact Or.inr rfl) h) (fun cdv A outer s H E f1 fd1 ps1 hr F1 m1 k1 b1 => pe_call F1 hr rfl m1 k1 b1 .nil pass0 (pa_cons (pv 0) pa_nil)) fun cdv A outer s H E gd0 hr => ?_
  have gd : (A.deeper (envOfC "law" (defScope (top 34)) s.heap.objs.size f cdv)).guards = some [] := guards_deeper gd0
  exact dss_cons (ds_if (dt_cmp (op_neD (hu64 hr)) p_ne (nomark _) (DE.b (de_calN (c_layers_of Y) hr (by decide) rfl ((da_cons (de_tup ((dd_cons (de_tup ((dd_cons (de_int) ((dd_cons (de_int) (dd_nil)))))) ((dd_cons (de_tup ((dd_cons (de_int) ((dd_cons (de_int) (dd_nil)))))) (dd_nil)))))) (da_nil))))) (DE.b (de_tup ((dd_cons (de_tup ((dd_cons (de_tup ((dd_cons (de_int) (dd_nil)))) ((dd_cons (de_tup (dd_nil)) (dd_nil)))))) ((dd_cons (de_tup ((dd_cons (de_tup (dd_nil)) ((dd_cons (de_tup ((dd_cons (de_int) (dd_nil)))) (dd_nil)))))) ((dd_cons (de_tup ((dd_cons (de_tup ((dd_cons (de_int) (dd_nil)))) ((dd_cons (de_tup (dd_nil)) (dd_nil)))))) ((dd_cons (de_tup ((dd_cons (de_tup (dd_nil)) ((dd_cons (de_tup ((dd_cons (de_int) (dd_nil)))) (dd_nil)))))) (dd_nil)))))))))))) (dss_one (ds_ret (de_bl))) (dss_nil))
      (dss_cons (ds_un [0] (ds_for PassesOwn.never rfl ((di_rng1 Y.n_range rfl (DE.b (de_int)))) (pn 2 S.nd) (dss_end [2, 3, 4] (dss_cons (ds_set 3 S.nd (DE.n (de_if (dt_cmp (op_eqD (hu64 hr)) p_eq (nomark _) (DE.b (de_var 2)) (DE.b (de_int))) (de_calN (c__law_weave Y) hr (by decide) rfl ((da_hand 1 (da_nil)))) (de_calN (c__law_layered Y) hr (by decide) rfl ((da_hand 1 (da_nil)))))))
      (dss_cons (ds_if (dt_not (dt_val (DE.b (de_calG (c__law_are_shifts_right Y hbase) gd hr (by decide) rfl ((da_hand 1 ((da_cons (de_var 3) (da_nil))))))))) (dss_one (ds_ret (de_bl))) (dss_nil))
      (dss_cons (ds_set 4 S.nd (DE.n (de_calN (c__law_layers Y) hr (by decide) rfl ((da_cons (de_var 3) (da_nil))))))
      (dss_one (ds_if (DW.t (dw_or (dt_not (dt_val (DE.b (de_calG (c__law_like Y hbase) gd hr (by decide) rfl ((da_cons (de_calN (c_layers_of Y) hr (by decide) rfl ((da_cons (de_var 3) (da_nil)))) ((da_cons (de_var 4) (da_nil))))))))) (dw_or1 (dt_cmp (op_neD (hu64 hr)) p_ne (nomark _) (DE.b (de_eq (hu64 hr) (DE.b (e_len Y.n_len (DE.b (de_var 4)))) (DE.b (de_int)))) (DE.b (de_eq (hu64 hr) (DE.b (de_calN (c_whole_or_lifts Y) hr (by decide) rfl ((da_cons (de_var 3) (da_nil))))) (DE.b (de_tup ((dd_cons (de_str) (dd_nil))))))))))) (dss_one (ds_ret (de_bl))) (dss_nil)))))))))
      (dss_one (ds_ret (de_bl))))
end
end Jw
namespace Jw
open PySem
theorem slice_wv (W : List (List Int)) (lo hi : Option Int) : dSlice (wv W) lo hi = some (wv (cut W lo hi)) := by
  show some (PyData.tuple (cut (W.map tI) lo hi)) = _
  rw [cut_map]
  rfl
theorem add_wv (A B : List (List Int)) (h : A.length ≤ 1000 ∧ B.length ≤ 1000) : dAdd (wv A) (wv B) = some (wv (A ++ B)) := by
  show (if _ then _ else _) = _
  rw [if_pos (by simp; omega)]
  simp [wv]
/-- rows from r on first, signs from c on first -/
def mv (W : List (List Int)) (r c : Nat) : List (List Int) := (W.drop r ++ W.take r).map fun q => q.drop c ++ q.take c
theorem E_moved {n k : Nat} {W : List (List Int)} (w : Wv n k W) (r c : Nat) : F_moved [.dat (wv W), .dat (.int r), .dat (.int c)] = pure (wv (mv W r c)) := by
  have hl := w.2.2.2.2.1
  have n6 := w.2.1
  have k6 := w.2.2.2.1
  have e1 : dAdd (wv (W.drop r)) (wv (W.take r)) = some (wv (W.drop r ++ W.take r)) := add_wv _ _ (by simp; omega)
  unfold F_moved
  simp [slice_wv, e1]
  rw [if_pos (by omega), ← List.map_drop, ← List.map_take, ← List.map_append, lcL_map tI (fun q => tI (q.drop c ++ q.take c)) _ fun q hq => ⟨_, by simp; try rfl, ?_⟩]
  · simp [wv, mv, List.map_map, Function.comp_def]
  · have hq2 : q ∈ W := by
      rcases List.mem_append.mp hq with h | h
      · exact List.mem_of_mem_drop h
      · exact List.mem_of_mem_take h
    have lq := (w.2.2.2.2.2 q hq2).1
    have e2 : dAdd (tI (q.drop c)) (tI (q.take c)) = some (tI (q.drop c ++ q.take c)) := add_tI _ _ (by simp; omega)
    unfold C_moved_1
    simp only [ap_f2, ap_fSlice, ap_rdat, gtS, gt0, sget_d, bnd_pure, ap_oSome, ap_oNone, dI_i, lift_some, slice_tI, cut_fromI, cut_toI, e2]
theorem E_later {n k : Nat} {W : List (List Int)} (w : Wv n k W) (r c : Nat) : F__law_later [.dat (wv W), .dat (.int r), .dat (.int c)] = pure (wv (mv W r c)) := by
  have hl := w.2.2.2.2.1
  have n6 := w.2.1
  have k6 := w.2.2.2.1
  have e1 : dAdd (wv (W.drop r)) (wv (W.take r)) = some (wv (W.drop r ++ W.take r)) := add_wv _ _ (by simp; omega)
  unfold F__law_later
  simp [slice_wv, e1]
  rw [if_pos (by omega), ← List.map_drop, ← List.map_take, ← List.map_append, lcL_map tI (fun q => tI (q.drop c ++ q.take c)) _ fun q hq => ⟨_, by simp; try rfl, ?_⟩]
  · simp [wv, mv, List.map_map, Function.comp_def]
  · have hq2 : q ∈ W := by
      rcases List.mem_append.mp hq with h | h
      · exact List.mem_of_mem_drop h
      · exact List.mem_of_mem_take h
    have lq := (w.2.2.2.2.2 q hq2).1
    have e2 : dAdd (tI (q.drop c)) (tI (q.take c)) = some (tI (q.drop c ++ q.take c)) := add_tI _ _ (by simp; omega)
    unfold C__law_later_1
    simp only [ap_f2, ap_fSlice, ap_rdat, gtS, gt0, sget_d, bnd_pure, ap_oSome, ap_oNone, dI_i, lift_some, slice_tI, cut_fromI, cut_toI, e2]
theorem sh_wv (W : List (List Int)) : sh 2 (wv W) := sh_tuple (shA_of fun d hd => by
  obtain ⟨r, _, rfl⟩ := List.mem_map.mp hd
  exact sh_tI 0 r)
theorem eqv_wv (A B : List (List Int)) : PyData.eqv (wv A) (wv B) = decide (A = B) := by
  have h := PySem.W.eqvAll_map (A.map PySem.W.Tup.mk) (B.map PySem.W.Tup.mk)
  have e : ∀ X : List (List Int), (X.map PySem.W.Tup.mk).map PySem.W.Datum.toD = X.map tI := fun X => by
    rw [List.map_map]
    rfl
  rw [e, e] at h
  show PyData.eqv (.tuple (A.map tI)) (.tuple (B.map tI)) = _
  simp only [PyData.eqv]
  rw [h]
  refine decide_eq_decide.mpr ⟨fun z => ?_, fun z => z ▸ rfl⟩
  have := congrArg (List.map PySem.W.Tup.items) z
  simpa [List.map_map, Function.comp_def] using this
theorem eq_wv (A B : List (List Int)) : dEq (wv A) (wv B) = some (.bool (decide (A = B))) := by
  rw [eq_of (sh_wv A) (sh_wv B) (by omega) (by omega), eqv_wv]
def shiftF (W X : List (List Int)) (k : Nat) (r : Nat) : Option D := (List.range k).findSome? fun c => if mv W r c = X then some (.tuple [.str "by", .int (r : Int), .int (c : Int)]) else none
def shiftD (W X : List (List Int)) (n k : Nat) : D := match (List.range n).findSome? (shiftF W X k) with | some d => d | none => .tuple [.str "unlike"]
theorem E_same {n k : Nat} {W X : List (List Int)} (w : Wv n k W) (v : Wv n k X) : F_same_weave [.dat (wv W), .dat (wv X)] = pure (shiftD W X n k) := by
  have hl := w.2.2.2.2.1
  have n1 := w.1
  have n6 := w.2.1
  have k6 := w.2.2.2.1
  have r0 := w.row (i := 0) (by omega)
  unfold F_same_weave
  simp (disch := omega) [E_weave w, E_weave v, hl]
  rw [rng0, forL_find (fun i : Nat => PyData.int (i : Int)) _ (shiftF W X k) _ fun r hr => ⟨_, by simp; try rfl, ?_⟩]
  · unfold shiftD
    cases (List.range n).findSome? (shiftF W X k) <;> simp
  · unfold B_same_weave_2
    simp (disch := omega) [ixW0, r0.1]
    rw [rng0, forL_find (fun i : Nat => PyData.int (i : Int)) _ (fun c => if mv W r c = X then some (.tuple [.str "by", .int (r : Int), .int (c : Int)]) else none) _ fun c hc => ⟨_, by simp; try rfl, ?_⟩]
    · show bnd (pure (match shiftF W X k r with | some d => _ | none => _)) _ = _
      cases shiftF W X k r <;> simp
    · unfold B_same_weave_1
      simp [E_moved w, eq_wv]
      split <;> simp
theorem E_shift {n k : Nat} {W X : List (List Int)} (w : Wv n k W) : F__law_shift [.dat (wv W), .dat (wv X)] = pure (shiftD W X n k) := by
  have hl := w.2.2.2.2.1
  have n1 := w.1
  have n6 := w.2.1
  have k6 := w.2.2.2.1
  have r0 := w.row (i := 0) (by omega)
  unfold F__law_shift
  simp (disch := omega) [hl]
  rw [rng0, forL_find (fun i : Nat => PyData.int (i : Int)) _ (shiftF W X k) _ fun r hr => ⟨_, by simp; try rfl, ?_⟩]
  · unfold shiftD
    cases (List.range n).findSome? (shiftF W X k) <;> simp
  · unfold B__law_shift_2
    simp (disch := omega) [ixW0, r0.1]
    rw [rng0, forL_find (fun i : Nat => PyData.int (i : Int)) _ (fun c => if mv W r c = X then some (.tuple [.str "by", .int (r : Int), .int (c : Int)]) else none) _ fun c hc => ⟨_, by simp; try rfl, ?_⟩]
    · show bnd (pure (match shiftF W X k r with | some d => _ | none => _)) _ = _
      cases shiftF W X k r <;> simp
    · unfold B__law_shift_1
      simp [E_later w, eq_wv]
      split <;> simp
end Jw
namespace Jw
open PySem
/-! layers -/
def without (xs ys : List Int) : List Int := xs.filter fun x => !decide (x ∈ ys)
def someD (W : List (List Int)) (rs cs : List Int) : D := match srt (finds W rs cs) with | [] => .none | p :: _ => .tuple [tI p.b.items, tI p.c.items]
/-- the layers that come off, and what is left -/
def lay (W : List (List Int)) : Nat → List Int → List Int → List (List Int × List Int) × (List Int × List Int)
  | 0, rs, cs => ([], (rs, cs))
  | f + 1, rs, cs => match srt (finds W rs cs) with
    | [] => ([], (rs, cs))
    | p :: _ => ((p.b.items, p.c.items) :: (lay W f (without rs p.b.items) (without cs p.c.items)).1, (lay W f (without rs p.b.items) (without cs p.c.items)).2)
def prD (p : List Int × List Int) : D := .tuple [tI p.1, tI p.2]
theorem without_len {xs L : List Int} (hn : xs.Nodup) (h : L.Sublist xs) : (without xs L).length + L.length = xs.length := by
  unfold without
  induction h with
  | slnil => rfl
  | @cons l1 l2 a h ih =>
    have hn2 := List.nodup_cons.mp hn
    have ha : a ∉ l1 := fun z => hn2.1 (h.subset z)
    rw [List.filter_cons]
    have := ih hn2.2
    simp [ha]
    try simp at this
    omega
  | @cons_cons l1 l2 a h ih =>
    have hn2 := List.nodup_cons.mp hn
    have e : (l2.filter fun x => !decide (x ∈ a :: l1)) = l2.filter fun x => !decide (x ∈ l1) := List.filter_congr fun x hx => by
      have : x ≠ a := fun z => hn2.1 (z ▸ hx)
      simp [this]
    rw [List.filter_cons]
    have := ih hn2.2
    rw [e]
    try simp at this
    simp
    omega
theorem mem_finds {W : List (List Int)} {rs cs : List Int} {p : Lf} : p ∈ finds W rs cs ↔ ∃ L O, L.Sublist rs ∧ O.Sublist cs ∧ okLf W rs cs L O = true ∧ p = mkLf L O := by
  unfold finds
  rw [List.mem_flatMap]
  constructor
  · rintro ⟨L, hL, h⟩
    obtain ⟨O, hO, rfl⟩ := List.mem_map.mp h
    obtain ⟨h1, h2⟩ := List.mem_filter.mp hO
    exact ⟨L, O, lots_sub _ L hL, lots_sub _ O h1, h2, rfl⟩
  · rintro ⟨L, O, h1, h2, h3, rfl⟩
    exact ⟨L, mem_lots _ _ h1, List.mem_map.mpr ⟨O, List.mem_filter.mpr ⟨mem_lots _ _ h2, h3⟩, rfl⟩⟩
/-- rows and columns that may be left -/
def Lv (n k : Nat) (rs cs : List Int) : Prop := rs.Sublist (rg n) ∧ cs.Sublist (rg k)
theorem rg_up (n : Nat) : (rg n).Pairwise (· < ·) := by
  unfold rg
  rw [List.pairwise_map]
  exact (List.pairwise_lt_range).imp fun h => by omega
theorem rg_nodup (n : Nat) : (rg n).Nodup := (rg_up n).imp fun h => by omega
theorem Lv.step {n k : Nat} {W : List (List Int)} {rs cs : List Int} (v : Lv n k rs cs) {p : Lf} {l : List Lf} (h : srt (finds W rs cs) = p :: l) :
    Lv n k (without rs p.b.items) (without cs p.c.items) ∧ p.b.items.Sublist rs ∧ p.c.items.Sublist cs ∧ (without rs p.b.items).length + (without cs p.c.items).length < rs.length + cs.length ∧ 0 < (without rs p.b.items).length + (without cs p.c.items).length := by
  have hp : p ∈ finds W rs cs := (mem_srt _ p).mp (by rw [h]; exact List.mem_cons_self)
  obtain ⟨L, O, h1, h2, h3, rfl⟩ := mem_finds.mp hp
  have a1 := without_len ((rg_nodup n).sublist v.1) h1
  have a2 := without_len ((rg_nodup k).sublist v.2) h2
  unfold okLf at h3
  simp only [Bool.and_eq_true, decide_eq_true_eq] at h3
  refine ⟨⟨List.filter_sublist.trans v.1, List.filter_sublist.trans v.2⟩, h1, h2, ?_, ?_⟩
  · show (without rs L).length + (without cs O).length < _
    omega
  · show 0 < (without rs L).length + (without cs O).length
    omega
theorem Lv.le {n k : Nat} {rs cs : List Int} (v : Lv n k rs cs) : rs.length ≤ n ∧ cs.length ≤ k := by
  have a := v.1.length_le
  have b := v.2.length_le
  rw [rg_len] at a b
  exact ⟨a, b⟩
theorem E_some {n k : Nat} {W : List (List Int)} (w : Wv n k W) {rs cs : List Int} (v : Lv n k rs cs) : F_lifts_of [.dat (wv W), .dat (tI rs), .dat (tI cs)] = pure (someD W rs cs) := by
  have l := v.le
  have := w.2.1
  have := w.2.2.2.1
  exact E_lifts w rs cs (fun r h => mem_rg.mp (v.1.subset h)) (fun c h => mem_rg.mp (v.2.subset h)) (by omega) (by omega)
theorem while_step {t : Rho → M Bool} {body : Rho → M Ctl} {N : Nat} {ρ ρ2 : Rho} (h1 : t ρ = pure true) (h2 : body ρ = pure (.nx ρ2)) : whileL t body (N + 1) ρ = whileL t body N ρ2 := by
  conv => lhs; unfold whileL
  rw [h1, pure_bind, if_pos rfl, h2, pure_bind]
theorem while_stop {t : Rho → M Bool} {body : Rho → M Ctl} {N : Nat} {ρ : Rho} (h1 : t ρ = pure false) : whileL t body (N + 1) ρ = pure (.nx ρ) := by
  conv => lhs; unfold whileL
  rw [h1, pure_bind, if_neg (by simp)]
theorem S_layer {n k : Nat} {W : List (List Int)} (w : Wv n k W) {rs cs : List Int} (v : Lv n k rs cs) {p : Lf} {l : List Lf} (h : srt (finds W rs cs) = p :: l) (acc : List D) (ha : acc.length ≤ 1000) :
    B_layers_of_1 [.dat (wv W), .dat (tI rs), .dat (tI cs), .own acc, .dat (someD W rs cs), .un, .un] = pure (.nx [.dat (wv W), .dat (tI (without rs p.b.items)), .dat (tI (without cs p.c.items)), .own (acc ++ [prD (p.b.items, p.c.items)]), .dat (someD W (without rs p.b.items) (without cs p.c.items)), .un, .un]) := by
  have hs := v.step h
  have l1 := v.le
  have := w.2.1
  have := w.2.2.2.1
  have e0 : someD W rs cs = .tuple [tI p.b.items, tI p.c.items] := by unfold someD; rw [h]
  have es := E_some w hs.1
  unfold B_layers_of_1
  rw [e0]
  simp (disch := omega)
  rw [lcL_ok .int (fun x => !decide (x ∈ p.b.items)) .int _ fun x hx => ⟨_, by simp; try rfl, by unfold Q_layers_of_1; simp [nin_tI], fun _ => by simp⟩]
  have e1 : ∀ xs ys : List Int, PyData.tuple ((xs.filter fun x => !decide (x ∈ ys)).map .int) = tI (without xs ys) := fun _ _ => rfl
  simp only [bnd_pure, lift_some, tuple_l, e1]
  simp (disch := omega)
  rw [lcL_ok .int (fun x => !decide (x ∈ p.c.items)) .int _ fun x hx => ⟨_, by simp; try rfl, by unfold Q_layers_of_2; simp [nin_tI], fun _ => by simp⟩]
  simp only [bnd_pure, lift_some, tuple_l, e1]
  simp [es, prD]
theorem E_while {n k : Nat} {W : List (List Int)} (w : Wv n k W) : ∀ (f N : Nat) (rs cs : List Int) (acc : List D), Lv n k rs cs → rs.length + cs.length ≤ f → f < N → acc.length + f ≤ 1000 →
    whileL (fTest (f2 dIsNot (rdat 4) (fun _ => pure .none))) B_layers_of_1 N [.dat (wv W), .dat (tI rs), .dat (tI cs), .own acc, .dat (someD W rs cs), .un, .un] = pure (.nx [.dat (wv W), .dat (tI (lay W f rs cs).2.1), .dat (tI (lay W f rs cs).2.2), .own (acc ++ (lay W f rs cs).1.map prD), .dat .none, .un, .un])
  | f, 0, _, _, _, _, _, h, _ => by omega
  | f, N + 1, rs, cs, acc, v, hf, hN, ha => by
    cases h : srt (finds W rs cs) with
    | nil =>
      have e0 : someD W rs cs = .none := by unfold someD; rw [h]
      have el : lay W f rs cs = ([], (rs, cs)) := by
        cases f with
        | zero => rfl
        | succ f => unfold lay; rw [h]
      rw [e0, el, while_stop (by simp)]
      simp
    | cons p l =>
      have hs := v.step h
      cases f with
      | zero => omega
      | succ f =>
        have e0 : someD W rs cs = .tuple [tI p.b.items, tI p.c.items] := by unfold someD; rw [h]
        have el : lay W (f + 1) rs cs = ((p.b.items, p.c.items) :: (lay W f (without rs p.b.items) (without cs p.c.items)).1, (lay W f (without rs p.b.items) (without cs p.c.items)).2) := by
          conv => lhs; unfold lay
          rw [h]
        rw [while_step (by rw [e0]; simp) (S_layer w v h acc (by omega)), E_while w f N _ _ _ hs.1 (by omega) (by omega) (by simp; omega), el]
        simp
end Jw
namespace Jw
open PySem
def layers (W : List (List Int)) (n k : Nat) : List (List Int × List Int) := (lay W 12 (rg n) (rg k)).1 ++ [(lay W 12 (rg n) (rg k)).2]
theorem sz_some (W : List (List Int)) (rs cs : List Int) : szD (someD W rs cs) = 0 := by
  unfold someD
  cases srt (finds W rs cs) <;> rfl
theorem lv_all (n k : Nat) : Lv n k (rg n) (rg k) := ⟨List.Sublist.refl _, List.Sublist.refl _⟩
theorem lay_len (W : List (List Int)) : ∀ (f : Nat) (rs cs : List Int), (lay W f rs cs).1.length ≤ f
  | 0, _, _ => by simp [lay]
  | f + 1, rs, cs => by
    unfold lay
    split
    · simp
    · have := lay_len W f
      simp
      exact this _ _
theorem E_layers {n k : Nat} {W : List (List Int)} (w : Wv n k W) : F_layers_of [.dat (wv W)] = pure (.tuple ((layers W n k).map prD)) := by
  have n6 := w.2.1
  have k6 := w.2.2.2.1
  have hl := lay_len W 12 (rg n) (rg k)
  have ew := E_while w 12 1000 (rg n) (rg k) [] (lv_all n k) (by simp; omega) (by omega) (by simp)
  unfold F_layers_of
  simp [E_weave w, E_rows w, E_some w (lv_all n k)]
  have ef : fWhile (fTest (f2 dIsNot (rdat 4) fun x => pure .none)) B_layers_of_1 [.dat (wv W), .dat (tI (rg n)), .dat (tI (rg k)), .own [], .dat (someD W (rg n) (rg k)), .un, .un] = pure (.nx [.dat (wv W), .dat (tI (lay W 12 (rg n) (rg k)).2.1), .dat (tI (lay W 12 (rg n) (rg k)).2.2), .own ((lay W 12 (rg n) (rg k)).1.map prD), .dat .none, .un, .un]) := by
    rw [List.nil_append] at ew
    rw [← ew]
    show whileL _ _ (fuelR [.dat (wv W), .dat (tI (rg n)), .dat (tI (rg k)), .own [], .dat (someD W (rg n) (rg k)), .un, .un]) _ = _
    have : fuelR [.dat (wv W), .dat (tI (rg n)), .dat (tI (rg k)), .own [], .dat (someD W (rg n) (rg k)), .un, .un] = 1000 := by
      show szD (wv W) + (szD (tI (rg n)) + (szD (tI (rg k)) + (szD (someD W (rg n) (rg k)) + 1000))) = 1000
      rw [sz_some]
      rfl
    rw [this]
  rw [ef]
  simp (disch := first | omega | (simp; omega)) [layers, prD]
/-! the law's own layers -/
theorem E_lsome {n k : Nat} {W : List (List Int)} (w : Wv n k W) {rs cs : List Int} (v : Lv n k rs cs) : F__law_lifts [.dat (wv W), .dat (.list (rs.map .int)), .dat (.list (cs.map .int))] = pure (.list (tails (srt (finds W rs cs)))) := by
  have l := v.le
  have := w.2.1
  have := w.2.2.2.1
  exact E_llifts w rs cs (fun r h => mem_rg.mp (v.1.subset h)) (fun c h => mem_rg.mp (v.2.subset h)) (by omega) (by omega)
theorem ne_nil2 {xs : List Lf} : dNe (.list (tails xs)) (.list []) = some (.bool (!xs.isEmpty)) := by
  have hs : sh 3 (.list (tails xs)) := sh_list (shA_of fun d hd => by
    obtain ⟨p, _, rfl⟩ := List.mem_map.mp hd
    exact sh_tuple (shA_cons (sh_tI 0 _) (shA_cons (sh_tI 0 _) (shA_nil 1))))
  rw [ne_of hs (sh_list (shA_nil 0)) (by omega) (by omega)]
  cases xs <;> simp [tails, PyData.eqv, PyData.eqvAll]
/-- what comes off this time: the first lift, or all -/
def top1 (W : List (List Int)) (rs cs : List Int) : List Int × List Int := match srt (finds W rs cs) with | [] => (rs, cs) | p :: _ => (p.b.items, p.c.items)
theorem S_llayer {n k : Nat} {W : List (List Int)} (w : Wv n k W) {rs cs : List Int} (v : Lv n k rs cs) (acc : List D) (ha : acc.length ≤ 1000) (x y : Sl) :
    B__law_layers_1 [.dat (wv W), .dat (.list (rs.map .int)), .dat (.list (cs.map .int)), .own acc, x, y, .un, .un] = pure (.nx [.dat (wv W), .dat (.list ((without rs (top1 W rs cs).1).map .int)), .dat (.list ((without cs (top1 W rs cs).2).map .int)), .own (acc ++ [prD (top1 W rs cs)]), .un, .un, .un, .un]) := by
  have l1 := v.le
  have := w.2.1
  have := w.2.2.2.1
  have es := E_lsome w v
  have key : ∀ q : List Int × List Int, bnd (fSeq (fAppend 3 (rdat 5)) (fSeq (fSet 1 (nDat (fList (fLc [6] (fItems (rdat 1)) ((Pat.nm 6)).bind Q__law_layers_1 (rdat 6))))) (fSet 2 (nDat (fList (fLc [7] (fItems (rdat 2)) ((Pat.nm 7)).bind Q__law_layers_2 (rdat 7)))))) [.dat (wv W), .dat (.list (rs.map .int)), .dat (.list (cs.map .int)), .own acc, .dat (.list (tails (srt (finds W rs cs)))), .dat (prD q), .un, .un]) (fun c => pure (Ctl.un [4, 5] c)) =
      pure (.nx [.dat (wv W), .dat (.list ((without rs q.1).map .int)), .dat (.list ((without cs q.2).map .int)), .own (acc ++ [prD q]), .un, .un, .un, .un]) := fun q => by
    simp (disch := omega)
    rw [lcL_ok .int (fun x => !decide (x ∈ q.1)) .int _ fun x hx => ⟨_, by simp; try rfl, by unfold Q__law_layers_1; simp [prD, nin_tI], fun _ => by simp⟩]
    simp (disch := omega)
    rw [lcL_ok .int (fun x => !decide (x ∈ q.2)) .int _ fun x hx => ⟨_, by simp; try rfl, by unfold Q__law_layers_2; simp [prD, nin_tI], fun _ => by simp⟩]
    simp [without]
  change bnd (fSeq _ (fSeq _ (fSeq (fAppend 3 (rdat 5)) (fSeq (fSet 1 (nDat (fList (fLc [6] (fItems (rdat 1)) ((Pat.nm 6)).bind Q__law_layers_1 (rdat 6))))) (fSet 2 (nDat (fList (fLc [7] (fItems (rdat 2)) ((Pat.nm 7)).bind Q__law_layers_2 (rdat 7)))))))) _) _ = _
  generalize hS : fSeq (fAppend 3 (rdat 5)) (fSeq (fSet 1 (nDat (fList (fLc [6] (fItems (rdat 1)) ((Pat.nm 6)).bind Q__law_layers_1 (rdat 6))))) (fSet 2 (nDat (fList (fLc [7] (fItems (rdat 2)) ((Pat.nm 7)).bind Q__law_layers_2 (rdat 7)))))) = S at key
  rw [← key (top1 W rs cs)]
  unfold top1
  cases h : srt (finds W rs cs) with
  | nil =>
    rw [h] at es
    simp [es, ne_nil2, prD, tI]
  | cons p l =>
    rw [h] at es
    have hix : dIx (.list (tails (p :: l))) (.int 0) = some (.tuple [tI p.b.items, tI p.c.items]) := by simp [tails]
    simp [es, ne_nil2, hix, prD]
theorem without_self (xs : List Int) : without xs xs = [] := by
  unfold without
  refine List.filter_eq_nil_iff.mpr fun x hx => ?_
  simp [hx]
theorem Q3 (W : List (List Int)) (rs cs : List Int) (a b c d e : Sl) : Q__law_layers_3 [.dat (wv W), .dat (.list (rs.map .int)), .dat (.list (cs.map .int)), a, b, c, d, e] = pure (decide (0 < rs.length + cs.length)) := by
  unfold Q__law_layers_3
  simp
  have : ((0 : Int) < (rs.length : Int) + cs.length) ↔ 0 < rs.length + cs.length := by omega
  simp only [this]
theorem E_wlaw {n k : Nat} {W : List (List Int)} (w : Wv n k W) : ∀ (f N : Nat) (rs cs : List Int) (acc : List D) (x y : Sl), Lv n k rs cs → 0 < rs.length + cs.length → rs.length + cs.length ≤ f → f + 1 < N → acc.length + f ≤ 1000 →
    ∃ x' y', whileL Q__law_layers_3 B__law_layers_1 N [.dat (wv W), .dat (.list (rs.map .int)), .dat (.list (cs.map .int)), .own acc, x, y, .un, .un] = pure (.nx [.dat (wv W), .dat (.list []), .dat (.list []), .own (acc ++ ((lay W f rs cs).1 ++ [(lay W f rs cs).2]).map prD), x', y', .un, .un])
  | f, 0, _, _, _, _, _, _, _, _, h, _ => by omega
  | 0, _, rs, cs, _, _, _, _, h0, hf, _, _ => by omega
  | f + 1, N + 1, rs, cs, acc, x, y, v, h0, hf, hN, ha => by
    have st := S_llayer w v acc (by omega) x y
    have q : Q__law_layers_3 [.dat (wv W), .dat (.list (rs.map .int)), .dat (.list (cs.map .int)), .own acc, x, y, .un, .un] = pure true := by
      rw [Q3, decide_eq_true h0]
    rw [while_step q st]
    cases h : srt (finds W rs cs) with
    | nil =>
      have e1 : top1 W rs cs = (rs, cs) := by unfold top1; rw [h]
      have el : lay W (f + 1) rs cs = ([], (rs, cs)) := by unfold lay; rw [h]
      rw [e1, el, without_self, without_self]
      cases N with
      | zero => omega
      | succ N =>
        have q2 := Q3 W [] [] (.own (acc ++ [prD (rs, cs)])) .un .un .un .un
        refine ⟨.un, .un, ?_⟩
        rw [while_stop (by simpa using q2)]
        simp
    | cons p l =>
      have hs := v.step h
      have e1 : top1 W rs cs = (p.b.items, p.c.items) := by unfold top1; rw [h]
      have el : lay W (f + 1) rs cs = ((p.b.items, p.c.items) :: (lay W f (without rs p.b.items) (without cs p.c.items)).1, (lay W f (without rs p.b.items) (without cs p.c.items)).2) := by
        conv => lhs; unfold lay
        rw [h]
      rw [e1, el]
      obtain ⟨x', y', e⟩ := E_wlaw w f N _ _ (acc ++ [prD (p.b.items, p.c.items)]) .un .un hs.1 hs.2.2.2.2 (by omega) (by omega) (by simp; omega)
      refine ⟨x', y', ?_⟩
      rw [e]
      simp
theorem E_llayers {n k : Nat} {W : List (List Int)} (w : Wv n k W) : F__law_layers [.dat (wv W)] = pure (.tuple ((layers W n k).map prD)) := by
  have hl := w.2.2.2.2.1
  have n1 := w.1
  have n6 := w.2.1
  have k6 := w.2.2.2.1
  have r0 := w.row (i := 0) (by omega)
  obtain ⟨x', y', ew⟩ := E_wlaw w 12 1000 (rg n) (rg k) [] .un .un (lv_all n k) (by simp; omega) (by simp; omega) (by omega) (by simp)
  rw [List.nil_append] at ew
  have ef : fWhile Q__law_layers_3 B__law_layers_1 [.dat (wv W), .dat (.list ((rg n).map .int)), .dat (.list ((rg k).map .int)), .own [], .un, .un, .un, .un] = pure (.nx [.dat (wv W), .dat (.list []), .dat (.list []), .own (((lay W 12 (rg n) (rg k)).1 ++ [(lay W 12 (rg n) (rg k)).2]).map prD), x', y', .un, .un]) := by
    rw [← ew]
    rfl
  unfold F__law_layers
  simp (disch := omega) [ixW0, hl, r0.1, ef]
  simp [layers]
end Jw
namespace Jw
open PySem
def vAt (H L : List Int) (r c : Nat) : Int := if gd 0 H r ≠ gd 0 L c then (if gd 0 H r < gd 0 L c then 1 else 0) else (if ((r : Int) + c) % 2 = 0 then 1 else 0)
theorem vAt01 (H L : List Int) (r c : Nat) : vAt H L r c = 0 ∨ vAt H L r c = 1 := by
  unfold vAt
  split <;> split <;> simp
theorem S_layered {n k : Nat} {H L : List Int} (hn : 1 ≤ n ∧ n ≤ 6) (hk : 1 ≤ k ∧ k ≤ 6) (hH : H.length = n) (hL : L.length = k) (acc : List D) (ha : acc.length ≤ 100) (r : Nat) (hr : r < n) (a x y : Sl) :
    B__law_layered_2 [.hand, a, .dat (.int k), .un, .dat (.list (H.map .int)), .dat (.list (L.map .int)), .dat (.int r), x, .own acc, y] = pure (.nx [.hand, .un, .dat (.int k), .un, .dat (.list (H.map .int)), .dat (.list (L.map .int)), .un, .un, .own (acc ++ [tI ((List.range k).map fun c => vAt H L r c)]), .un]) := by
  unfold B__law_layered_2
  simp (disch := omega)
  rw [rng0, forL_extM 1000 (fun i : Nat => PyData.int (i : Int)) (fun row => [.hand, .un, .dat (.int k), .un, .dat (.list (H.map .int)), .dat (.list (L.map .int)), .dat (.int r), .un, .own acc, .own row]) (fun c => [.int (vAt H L r c)]) 1 _ _ (by simp; omega) (fun c _ => by simp) fun c hc row hrow => ⟨_, by simp; try rfl, ?_⟩]
  · have e : ((List.range k).flatMap fun c => [PyData.int (vAt H L r c)]) = ((List.range k).map fun c => vAt H L r c).map .int := by
      rw [List.map_map]
      induction List.range k with
      | nil => rfl
      | cons c l ih =>
        rw [List.flatMap_cons, ih]
        rfl
    rw [e]
    simp (disch := omega) [tI]
  · have hc := List.mem_range.mp hc
    have e1 : dIx (.list (H.map .int)) (.int (r : Int)) = some (.int (gd 0 H r)) := ixLn .int 0 H r (by omega)
    have e2 : dIx (.list (L.map .int)) (.int (c : Int)) = some (.int (gd 0 L c)) := ixLn .int 0 L c (by omega)
    simp at hrow
    unfold B__law_layered_1 vAt
    simp (disch := omega) [e1, e2]
    by_cases h1 : gd 0 H r = gd 0 L c <;> simp (disch := omega) [h1]
theorem ints_lc {elt : Rho → M D} {ρ : Rho} {bp : D → Rho → Option Rho} (k : Nat) (h : ∀ i : Nat, i < k → ∃ ρ1, bp (.int i) ρ = some ρ1 ∧ Dr 1 (elt ρ1) fun d => ∃ v, d = .int v) :
    Dr k (lcL bp (fun _ => pure true) elt ρ (rng 0 k)) fun ds => ∃ r : List Int, ds = r.map .int ∧ r.length = k := by
  rw [rng0]
  refine Dr.imp ((Dr.lc (k := 1) (fun i : Nat => PyData.int i) (P := fun d => ∃ v, d = .int v ∧ True) (List.range k) fun i hi => ?_).le (by simp)) ?_
  · obtain ⟨ρ1, h1, h2⟩ := h i (List.mem_range.mp hi)
    exact ⟨ρ1, h1, rfl, h2.imp fun d ⟨v, e⟩ => ⟨v, e, trivial⟩⟩
  · rintro ds ⟨hl, hd⟩
    obtain ⟨r, rfl, _⟩ := ints_of hd
    exact ⟨r, rfl, by simpa using hl⟩
theorem layered_ok : Dr 20 (F__law_layered [.hand]) fun d => ∃ n k W, Wv n k W ∧ d = wv W := by
  unfold F__law_layered
  simp
  refine Dr.step (draw_ok 5 (by omega) (by omega)) fun d hd => ?_
  obtain ⟨n', rfl, n0, n1⟩ := hd
  simp
  refine Dr.step (draw_ok 5 (by omega) (by omega)) fun d hd => ?_
  obtain ⟨k', rfl, k0, k1⟩ := hd
  simp
  refine Dr.step (draw_ok 4 (by omega) (by omega)) fun d hd => ?_
  obtain ⟨m', rfl, m0, m1⟩ := hd
  obtain ⟨n, hn⟩ := Int.eq_ofNat_of_zero_le (a := 1 + n') (by omega)
  obtain ⟨k, hk⟩ := Int.eq_ofNat_of_zero_le (a := 1 + k') (by omega)
  rw [hn, hk]
  simp (disch := omega)
  refine Dr.step (j := 6) ((ints_lc n fun i hi => ⟨_, by simp; try rfl, ?_⟩).le (by omega)) fun ds hds => ?_
  · simp
    exact (draw_ok (1 + m') (by omega) (by omega)).imp fun d ⟨v, e, _⟩ => ⟨v, e⟩
  obtain ⟨H, rfl, lH⟩ := hds
  simp (disch := omega)
  refine Dr.step (j := 6) ((ints_lc k fun i hi => ⟨_, by simp; try rfl, ?_⟩).le (by omega)) fun ds hds => ?_
  · simp
    exact (draw_ok (1 + m') (by omega) (by omega)).imp fun d ⟨v, e, _⟩ => ⟨v, e⟩
  obtain ⟨L, rfl, lL⟩ := hds
  simp (disch := omega)
  rw [rng0]
  obtain ⟨ρ2, h1, h2⟩ := forL_inv (bp := (Pat.nm 6).bind) (body := B__law_layered_2) (fun i : Nat => PyData.int (i : Int)) (fun xs ρ => (∀ i ∈ xs, i < n) ∧ ∃ (rows : List (List Int)) (a : Sl), ρ = [.hand, a, .dat (.int k), .un, .dat (.list (H.map .int)), .dat (.list (L.map .int)), .un, .un, .own (rows.map tI), .un] ∧ rows.length + xs.length = n ∧ ∀ r ∈ rows, Vr k r) (List.range n)
    [.hand, .dat (.int n), .dat (.int k), .un, .dat (.list (H.map .int)), .dat (.list (L.map .int)), .un, .un, .own [], .un] ⟨by simp, [], .dat (.int n), rfl, by simp, by simp⟩ (by
      rintro i xs ρ ⟨h0, rows, a, rfl, hl, hr⟩
      simp only [List.length_cons] at hl
      refine ⟨[.hand, a, .dat (.int k), .un, .dat (.list (H.map .int)), .dat (.list (L.map .int)), .dat (.int (i : Int)), .un, .own (rows.map tI), .un], by simp, _, S_layered (n := n) (k := k) (by omega) (by omega) lH lL (rows.map tI) (by simp; omega) i (h0 i List.mem_cons_self) a .un .un, fun j hj => h0 j (List.mem_cons_of_mem _ hj), rows ++ [(List.range k).map fun c => vAt H L i c], .un, by simp, by simp; omega, fun q hq => ?_⟩
      rcases List.mem_append.mp hq with hq | hq
      · exact hr q hq
      · rw [List.mem_singleton.mp hq]
        refine ⟨by simp, fun x hx => ?_⟩
        obtain ⟨c, _, rfl⟩ := List.mem_map.mp hx
        exact vAt01 H L i c)
  obtain ⟨_, rows, a, rfl, hl, hr⟩ := h2
  rw [h1]
  simp
  exact Dr.ret ⟨n, k, rows, ⟨by omega, by omega, by omega, by omega, by simpa using hl, hr⟩, rfl⟩
end Jw
namespace Jw
open PySem
theorem shiftD_sh (W X : List (List Int)) (n k : Nat) : sh 1 (shiftD W X n k) ∧ ((∃ r c : Nat, r < n ∧ c < k ∧ shiftD W X n k = .tuple [.str "by", .int r, .int c]) ∨ shiftD W X n k = .tuple [.str "unlike"]) := by
  have key : (∃ r c : Nat, r < n ∧ c < k ∧ shiftD W X n k = .tuple [.str "by", .int r, .int c]) ∨ shiftD W X n k = .tuple [.str "unlike"] := by
    unfold shiftD
    cases h : (List.range n).findSome? (shiftF W X k) with
    | none => exact .inr rfl
    | some d =>
      obtain ⟨r, hr, h1⟩ := List.exists_of_findSome?_eq_some h
      unfold shiftF at h1
      obtain ⟨c, hc, h2⟩ := List.exists_of_findSome?_eq_some h1
      split at h2
      · cases h2
        exact .inl ⟨r, c, List.mem_range.mp hr, List.mem_range.mp hc, rfl⟩
      · cases h2
  refine ⟨?_, key⟩
  rcases key with ⟨r, c, _, _, e⟩ | e
  · rw [e]
    exact sh_tuple (shA_cons (sh_lit 0 _) (shA_cons (sh_int 0 _) (shA_cons (sh_int 0 _) (shA_nil 0))))
  · rw [e]
    exact sh_tuple (shA_cons (sh_lit 0 _) (shA_nil 0))
theorem shiftD_rs {W X : List (List Int)} {n k : Nat} (hn : n ≤ 6) (hk : k ≤ 6) : Rs 200 (shiftD W X n k) := by
  have s1 : Rs 10 (.str "by") := rs_str 10 _ (by decide +kernel) (by decide +kernel)
  have s2 : Rs 10 (.str "unlike") := rs_str 10 _ (by decide +kernel) (by decide +kernel)
  rcases (shiftD_sh W X n k).2 with ⟨r, c, hr, hc, e⟩ | e
  · rw [e]
    exact (rs_tuple (rsA_cons s1 (rsA_cons (rs_int (i := (r : Int)) (by omega)) (rsA_cons (rs_int (i := (c : Int)) (by omega)) rsA_nil)))).mono (by omega)
  · rw [e]
    exact (rs_tuple (rsA_cons s2 rsA_nil)).mono (by omega)
theorem E_like {j n : Nat} {a b : D} (ha : sh j a) (hb : sh j b) (hj : j ≤ 64) (ra : Rs n a) (rb : Rs n b) (hn : n ≤ 16000000) : F__law_like [.dat a, .dat b] = pure (.bool (decide (a.shown = b.shown))) := by
  unfold F__law_like
  simp [repr_of ha hj ra hn, repr_of hb hj rb hn, like_of ha hb hj ra rb hn]
theorem S_sh1 {n k : Nat} {W X : List (List Int)} (w : Wv n k W) (v : Wv n k X) (a b c d e f g h i j : Sl) :
    B__law_are_shifts_right_1 [a, .dat (wv W), b, c, d, e, f, g, h, .dat (wv X), i, j] = pure (.nx [a, .dat (wv W), b, c, d, e, f, g, h, .un, i, j]) := by
  have hs := (shiftD_sh W X n k).1
  have r := shiftD_rs (W := W) (X := X) w.2.1 w.2.2.2.1
  have el := E_like hs hs (by omega) r r (by omega)
  rw [decide_eq_true rfl] at el
  unfold B__law_are_shifts_right_1
  simp [E_same w v, E_shift w, el]
end Jw
namespace Jw
open PySem
theorem wv_of {n k : Nat} {W X : List (List Int)} (w : Wv n k W) (h1 : X.length = n) (h2 : ∀ r ∈ X, Vr k r) : Wv n k X := ⟨w.1, w.2.1, w.2.2.1, w.2.2.2.1, h1, h2⟩
theorem wv_mv {n k : Nat} {W : List (List Int)} (w : Wv n k W) {r c : Nat} (hr : r < n) (hc : c < k) : Wv n k (mv W r c) := by
  have hl := w.2.2.2.2.1
  refine wv_of w (by simp [mv]; omega) fun q hq => ?_
  obtain ⟨p, hp, rfl⟩ := List.mem_map.mp hq
  have hp2 : p ∈ W := by
    rcases List.mem_append.mp hp with h | h
    · exact List.mem_of_mem_drop h
    · exact List.mem_of_mem_take h
  obtain ⟨l, v⟩ := w.2.2.2.2.2 p hp2
  refine ⟨by simp; omega, fun x hx => ?_⟩
  rcases List.mem_append.mp hx with h | h
  · exact v x (List.mem_of_mem_drop h)
  · exact v x (List.mem_of_mem_take h)
/-- one sign turned -/
def flipRow (q : List Int) (c : Nat) : List Int := q.take c ++ [1 - gd 0 q c] ++ q.drop (c + 1)
def flipAt (W : List (List Int)) (r c : Nat) : List (List Int) := W.take r ++ [flipRow (gd [] W r) c] ++ W.drop (r + 1)
theorem wv_flip {n k : Nat} {W : List (List Int)} (w : Wv n k W) {r c : Nat} (hr : r < n) (hc : c < k) : Wv n k (flipAt W r c) := by
  have hl := w.2.2.2.2.1
  have hrow := w.row hr
  refine wv_of w (by simp [flipAt]; omega) fun q hq => ?_
  simp only [flipAt, List.mem_append, List.mem_singleton] at hq
  rcases hq with (hq | rfl) | hq
  · exact w.2.2.2.2.2 q (List.mem_of_mem_take hq)
  · refine ⟨by simp [flipRow]; omega, fun v hv => ?_⟩
    simp only [flipRow, List.mem_append, List.mem_singleton] at hv
    rcases hv with (hv | rfl) | hv
    · exact hrow.2 v (List.mem_of_mem_take hv)
    · rcases hrow.2 _ (gd_mem 0 (gd [] W r) (i := c) (by omega)) with h | h <;> rw [h] <;> simp
    · exact hrow.2 v (List.mem_of_mem_drop hv)
  · exact w.2.2.2.2.2 q (List.mem_of_mem_drop hq)
def neg1 (W : List (List Int)) : List (List Int) := W.map fun r => r.map fun x => 1 - x
theorem wv_neg {n k : Nat} {W : List (List Int)} (w : Wv n k W) : Wv n k (neg1 W) := by
  refine wv_of w (by simp [neg1]; exact w.2.2.2.2.1) fun q hq => ?_
  obtain ⟨p, hp, rfl⟩ := List.mem_map.mp hq
  obtain ⟨l, v⟩ := w.2.2.2.2.2 p hp
  refine ⟨by simp [l], fun x hx => ?_⟩
  obtain ⟨y, hy, rfl⟩ := List.mem_map.mp hx
  rcases v y hy with rfl | rfl <;> simp
theorem wv_rev {n k : Nat} {W : List (List Int)} (w : Wv n k W) : Wv n k W.reverse :=
  wv_of w (by simp; exact w.2.2.2.2.1) fun q hq => w.2.2.2.2.2 q (List.mem_reverse.mp hq)
theorem wv_revs {n k : Nat} {W : List (List Int)} (w : Wv n k W) : Wv n k (W.map List.reverse) := by
  refine wv_of w (by simp; exact w.2.2.2.2.1) fun q hq => ?_
  obtain ⟨p, hp, rfl⟩ := List.mem_map.mp hq
  obtain ⟨l, v⟩ := w.2.2.2.2.2 p hp
  exact ⟨by simp [l], fun x hx => v x (List.mem_reverse.mp hx)⟩
theorem back_wv (W : List (List Int)) : dBackT (wv W) = some (wv W.reverse) := by
  show some (PyData.tuple (W.map tI).reverse) = _
  rw [← List.map_reverse]
  rfl
theorem back_tI (L : List Int) : dBackT (tI L) = some (tI L.reverse) := by
  show some (PyData.tuple (L.map .int).reverse) = _
  rw [← List.map_reverse]
  rfl
theorem add_wv1 (A : List (List Int)) (q : List Int) (h : A.length ≤ 1000) : dAdd (wv A) (.tuple [tI q]) = some (wv (A ++ [q])) := add_wv A [q] (by simp; omega)
theorem shifts_ok {n k : Nat} {W : List (List Int)} (w : Wv n k W) : Dr 10 (F__law_are_shifts_right [.hand, .dat (wv W)]) fun d => d = .bool true := by
  have hl := w.2.2.2.2.1
  have n1 := w.1
  have n6 := w.2.1
  have k1 := w.2.2.1
  have k6 := w.2.2.2.1
  have r0 := w.row (i := 0) (by omega)
  unfold F__law_are_shifts_right
  simp (disch := omega) [hl, ixW0, r0.1]
  refine Dr.step (draw_ok n (by omega) (by omega)) fun d hd => ?_
  obtain ⟨r, rfl, hr0, hr1⟩ := hd
  simp (disch := omega) [ixW0, r0.1]
  refine Dr.step (draw_ok k (by omega) (by omega)) fun d hd => ?_
  obtain ⟨c, rfl, hc0, hc1⟩ := hd
  obtain ⟨r, rfl⟩ := Int.eq_ofNat_of_zero_le hr0
  obtain ⟨c, rfl⟩ := Int.eq_ofNat_of_zero_le hc0
  have wm := wv_mv w (r := r) (c := c) (by omega) (by omega)
  have lm := wm.2.2.2.2.1
  have rm := wm.row (i := r) (by omega)
  have i1 : dIx (wv (mv W r c)) (.int (r : Int)) = some (tI (gd [] (mv W r c) r)) := ixW _ r (by omega)
  have i2 : dIx (tI (gd [] (mv W r c) r)) (.int (c : Int)) = some (.int (gd 0 (gd [] (mv W r c) r) c)) := ixI _ c (by omega)
  have a1 : dAdd (tI ((gd [] (mv W r c) r).take c)) (.tuple [.int (1 - gd 0 (gd [] (mv W r c) r) c)]) = some (tI ((gd [] (mv W r c) r).take c ++ [1 - gd 0 (gd [] (mv W r c) r) c])) := add_tI1 _ _ (by rw [List.length_take]; omega)
  have a2 : dAdd (tI ((gd [] (mv W r c) r).take c ++ [1 - gd 0 (gd [] (mv W r c) r) c])) (tI ((gd [] (mv W r c) r).drop (c + 1))) = some (tI (flipRow (gd [] (mv W r c) r) c)) := add_tI _ _ (by rw [List.length_append, List.length_take, List.length_drop]; simp; omega)
  have a3 : dAdd (wv ((mv W r c).take r)) (.tuple [tI (flipRow (gd [] (mv W r c) r) c)]) = some (wv ((mv W r c).take r ++ [flipRow (gd [] (mv W r c) r) c])) := add_wv1 _ _ (by rw [List.length_take]; omega)
  have a4 : dAdd (wv ((mv W r c).take r ++ [flipRow (gd [] (mv W r c) r) c])) (wv ((mv W r c).drop (r + 1))) = some (wv (flipAt (mv W r c) r c)) := add_wv _ _ (by rw [List.length_append, List.length_take, List.length_drop]; simp; omega)
  have wB := wv_flip wm (r := r) (c := c) (by omega) (by omega)
  have wN := wv_neg w
  have wR := wv_rev w
  have wS := wv_revs wm
  have em := E_later w r c
  generalize flipAt (mv W r c) r c = B at a4 wB
  generalize mv W r c = Z at *
  simp only [bnd_pure, ap_nDat, putSl_ap, List.length_cons, List.length_nil]
  simp (disch := omega) [em, slice_wv, i1, i2, slice_tI, a1, a2, a3, a4]
  rw [lcL_map tI (fun q => tI (q.map fun x => 1 - x)) _ fun q hq => ⟨_, by simp; try rfl, ?_⟩]
  · have eN : PyData.tuple (W.map fun q => tI (q.map fun x => 1 - x)) = wv (neg1 W) := by simp [wv, neg1, List.map_map, Function.comp_def]
    have lZ := wm.2.2.2.2.1
    simp only [bnd_pure, lift_some, tuple_l, eN]
    simp (disch := omega) [back_wv]
    rw [lcL_map tI (fun q => tI q.reverse) _ fun q hq => ⟨_, by simp; try rfl, by simp [back_tI]⟩]
    have eS : PyData.tuple (Z.map fun q => tI q.reverse) = wv (Z.map List.reverse) := by simp [wv, List.map_map, Function.comp_def]
    simp only [bnd_pure, lift_some, tuple_l, eS]
    simp [S_sh1 w w, S_sh1 w wm, S_sh1 w wB, S_sh1 w wN, S_sh1 w wR, S_sh1 w wS]
    refine Dr.step (bad_ok w) fun d hd => ?_
    have ew := E_weave w
    simp
    refine Dr.step (j := 0) (Dr.word (c := "NoWeave") (w := "weave") ?_ rfl) fun z hz => ?_
    · unfold K__law_are_shifts_right_1
      simp
      unfold F_same_weave
      simp [hd]
      exact Xr.raise
    subst hz
    simp
    refine Dr.step (j := 0) (Dr.word (c := "NoWeave") (w := "weave") ?_ rfl) fun z hz => ?_
    · unfold K__law_are_shifts_right_2
      simp
      unfold F_same_weave
      simp [hd, ew]
      exact Xr.raise
    subst hz
    simp
    refine Dr.step (j := 0) (Dr.word (c := "NoWeave") (w := "weave") ?_ rfl) fun z hz => ?_
    · simp
      unfold F_layers_of
      simp [hd]
      exact Xr.raise
    subst hz
    have e3 : dMulL (.list [.str "weave"]) (.int 3) = some [.str "weave", .str "weave", .str "weave"] := rfl
    have hs : sh 1 (.list [.str "weave", .str "weave", .str "weave"]) := sh_list (shA_cons (sh_lit 0 _) (shA_cons (sh_lit 0 _) (shA_cons (sh_lit 0 _) (shA_nil 0))))
    have e4 : dEq (.list [.str "weave", .str "weave", .str "weave"]) (.list [.str "weave", .str "weave", .str "weave"]) = some (.bool true) := by
      rw [eq_of hs hs (by omega) (by omega), SeqAt.eqv_refl _ hs.1]
    simp [e3, e4]
    exact Dr.ret rfl
  · have lq := (w.2.2.2.2.2 q hq).1
    unfold C__law_are_shifts_right_1
    simp (disch := omega)
    rw [lcL_map .int (fun x => .int (1 - x)) _ fun x hx => ⟨_, by simp; try rfl, by simp⟩]
    simp [tI]
    try rfl
end Jw
namespace Jw
open PySem
def Gp (n k : Nat) (p : List Int × List Int) : Prop := p.1.Sublist (rg n) ∧ p.2.Sublist (rg k)
theorem lay_gp {n k : Nat} {W : List (List Int)} : ∀ (f : Nat) (rs cs : List Int), Lv n k rs cs → (∀ p ∈ (lay W f rs cs).1, Gp n k p) ∧ Gp n k (lay W f rs cs).2
  | 0, rs, cs, v => ⟨(fun _ h => nomatch h), v⟩
  | f + 1, rs, cs, v => by
    cases h : srt (finds W rs cs) with
    | nil =>
      have el : lay W (f + 1) rs cs = ([], (rs, cs)) := by unfold lay; rw [h]
      rw [el]
      exact ⟨fun _ h => (by cases h), v⟩
    | cons p l =>
      have hs := v.step h
      have el : lay W (f + 1) rs cs = ((p.b.items, p.c.items) :: (lay W f (without rs p.b.items) (without cs p.c.items)).1, (lay W f (without rs p.b.items) (without cs p.c.items)).2) := by
        conv => lhs; unfold lay
        rw [h]
      obtain ⟨i1, i2⟩ := lay_gp (W := W) f _ _ hs.1
      rw [el]
      refine ⟨fun q hq => ?_, i2⟩
      rcases List.mem_cons.mp hq with rfl | hq
      · exact ⟨hs.2.1.trans v.1, hs.2.2.1.trans v.2⟩
      · exact i1 q hq
theorem layers_gp (W : List (List Int)) (n k : Nat) : ∀ p ∈ layers W n k, Gp n k p := by
  intro p hp
  obtain ⟨h1, h2⟩ := lay_gp (W := W) 12 (rg n) (rg k) (lv_all n k)
  unfold layers at hp
  rcases List.mem_append.mp hp with h | h
  · exact h1 p h
  · rw [List.mem_singleton.mp h]
    exact h2
theorem layers_len (W : List (List Int)) (n k : Nat) : (layers W n k).length ≤ 13 := by
  have := lay_len W 12 (rg n) (rg k)
  unfold layers
  simp
  exact this
theorem sh_layers (W : List (List Int)) (n k : Nat) : sh 3 (.tuple ((layers W n k).map prD)) := sh_tuple (shA_of fun d hd => by
  obtain ⟨p, _, rfl⟩ := List.mem_map.mp hd
  exact sh_tuple (shA_cons (sh_tI 0 _) (shA_cons (sh_tI 0 _) (shA_nil 1))))
theorem rs_tI {n : Nat} {L : List Int} (hn : n ≤ 6) (h : L.Sublist (rg n)) : Rs 135 (tI L) := by
  have l1 := h.length_le
  rw [rg_len] at l1
  exact (rs_tuple (rsA_ints fun x hx => by
    have := mem_rg.mp (h.subset hx)
    omega)).mono (by omega)
theorem rs_layers {n k : Nat} {W : List (List Int)} (w : Wv n k W) : Rs 10000 (.tuple ((layers W n k).map prD)) := by
  have hl := layers_len W n k
  have h := rsA_of (n := 300) (ds := (layers W n k).map prD) fun d hd => by
    obtain ⟨p, hp, rfl⟩ := List.mem_map.mp hd
    have hg := layers_gp W n k p hp
    exact (rs_tuple (rsA_cons (rs_tI w.2.1 hg.1) (rsA_cons (rs_tI w.2.2.2.1 hg.2) rsA_nil))).mono (by omega)
  rw [List.length_map] at h
  exact (rs_tuple h).mono (by omega)
theorem one_layer {n k : Nat} {W : List (List Int)} : (layers W n k).length = 1 ↔ bigs W n k = [] := by
  unfold layers bigs
  cases h : srt (finds W (rg n) (rg k)) with
  | nil =>
    have el : lay W 12 (rg n) (rg k) = ([], (rg n, rg k)) := by unfold lay; rw [h]
    rw [el]
    simp
  | cons p l =>
    have el : lay W 12 (rg n) (rg k) = ((p.b.items, p.c.items) :: (lay W 11 (without (rg n) p.b.items) (without (rg k) p.c.items)).1, (lay W 11 (without (rg n) p.b.items) (without (rg k) p.c.items)).2) := by
      conv => lhs; unfold lay
      rw [h]
    rw [el]
    simp
theorem eq_whole {n k : Nat} {W : List (List Int)} (w : Wv n k W) : ∃ d, F_whole_or_lifts [.dat (wv W)] = pure d ∧ dEq d (.tuple [.str "whole"]) = some (.bool (decide (bigs W n k = []))) := by
  have e := E_whole w
  have hw : sh 1 (.tuple [.str "whole"]) := sh_tuple (shA_cons (sh_lit 0 _) (shA_nil 0))
  cases h : bigs W n k with
  | nil =>
    rw [h] at e
    refine ⟨_, e, ?_⟩
    rw [eq_of hw hw (by omega) (by omega), SeqAt.eqv_refl _ hw.1]
    simp
  | cons p l =>
    rw [h] at e
    refine ⟨_, e, ?_⟩
    rw [eq_of (sh_tuple (shA_cons (sh_lit 1 _) (shA_cons (sh_tI 0 _) (shA_cons (sh_tI 0 _) (shA_nil 1))))) hw (by omega) (by omega)]
    simp [PyData.eqv, PyData.eqvAll]
theorem S_law {n k : Nat} {W : List (List Int)} (w : Wv n k W) : True := trivial
def WL : Rho → M Ctl := (fSeq (fIfS (fNotT (fTest (fCall F__law_are_shifts_right (aHand 1 (aCons (rdat 3) aNil))))) (fRet (fun _ => pure (.bool false))) fSkip)
  (fSeq (fSet 4 (nDat (fCall F__law_layers (aCons (rdat 3) aNil))))
  (fIfS (fOrT (fNotT (fTest (fCall F__law_like (aCons (fCall F_layers_of (aCons (rdat 3) aNil)) (aCons (rdat 4) aNil))))) (fTest (f2 dNe (f2 dEq (f1 dLen (rdat 4)) (fun _ => pure (.int 1))) (f2 dEq (fCall F_whole_or_lifts (aCons (rdat 3) aNil)) (fTup (dCons (fun _ => pure (.str "whole")) dNil)))))) (fRet (fun _ => pure (.bool false))) fSkip)))
theorem WL_ok {n k : Nat} {W : List (List Int)} (w : Wv n k W) (x : Sl) : Dr 10 (WL [.un, .hand, x, .dat (wv W), .un]) fun c => ∃ d, c = .nx [.un, .hand, x, .dat (wv W), .dat d] := by
  have el := E_like (sh_layers W n k) (sh_layers W n k) (by omega) (rs_layers w) (rs_layers w) (by omega)
  rw [decide_eq_true rfl] at el
  obtain ⟨d, e1, e2⟩ := eq_whole w
  unfold WL
  simp
  refine Dr.step (shifts_ok w) fun z hz => ?_
  subst hz
  simp [E_llayers w, E_layers w, el, e1, e2]
  have h1 := one_layer (W := W) (n := n) (k := k)
  have h2 : ((layers W n k).length : Int) = 1 ↔ bigs W n k = [] := by rw [← h1]; omega
  simp only [h2]
  by_cases hb : bigs W n k = [] <;> simp [hb]
  all_goals exact Dr.ret ⟨_, rfl⟩
end Jw
namespace Jw
open PySem
/-- the same, reckoned without sorting -/
def lay' (W : List (List Int)) : Nat → List Int → List Int → List (List Int × List Int) × (List Int × List Int)
  | 0, rs, cs => ([], (rs, cs))
  | f + 1, rs, cs => match finds W rs cs with
    | [] => ([], (rs, cs))
    | q :: l => (((PySem.W.minOf q l).b.items, (PySem.W.minOf q l).c.items) :: (lay' W f (without rs (PySem.W.minOf q l).b.items) (without cs (PySem.W.minOf q l).c.items)).1, (lay' W f (without rs (PySem.W.minOf q l).b.items) (without cs (PySem.W.minOf q l).c.items)).2)
theorem lay_eq (W : List (List Int)) : ∀ (f : Nat) (rs cs : List Int), lay W f rs cs = lay' W f rs cs
  | 0, _, _ => rfl
  | f + 1, rs, cs => by
    unfold lay lay'
    cases h : finds W rs cs with
    | nil =>
      have : srt ([] : List Lf) = [] := by unfold srt; simp
      rw [this]
    | cons q l =>
      obtain ⟨l', e⟩ := srt_head q l
      rw [e]
      simp only [lay_eq W f]
theorem first : F_layers_of [.dat (.tuple [.tuple [.int 1, .int 1], .tuple [.int 0, .int 1]])] = pure (.tuple [.tuple [.tuple [.int 0], .tuple []], .tuple [.tuple [], .tuple [.int 0]], .tuple [.tuple [.int 1], .tuple []], .tuple [.tuple [], .tuple [.int 1]]]) := by
  have w : Wv 2 2 [[1, 1], [0, 1]] := ⟨by decide, by decide, by decide, by decide, rfl, by decide⟩
  have e := E_layers w
  have h : layers [[1, 1], [0, 1]] 2 2 = [([0], []), ([], [0]), ([1], []), ([], [1])] := by
    unfold layers
    rw [lay_eq]
    decide +kernel
  rw [h] at e
  exact e
theorem S_law1 (i : Int) : Dr 100 (B_law_1 [.un, .hand, .dat (.int i), .un, .un]) fun c => c = .nx [.un, .hand, .un, .un, .un] := by
  change Dr 100 (fEnd _ (fSeq _ WL) _) _
  simp
  have fin : ∀ {n k : Nat} {W : List (List Int)} (w : Wv n k W), Dr 10 (bnd (WL [.un, .hand, .dat (.int i), .dat (wv W), .un]) fun c => pure (Ctl.un [2, 3, 4] c)) fun c => c = .nx [.un, .hand, .un, .un, .un] := fun {n k W} w => by
    refine Dr.step (j := 10) (WL_ok w (.dat (.int i))) fun c hc => ?_
    obtain ⟨d, rfl⟩ := hc
    simp
    exact Dr.ret rfl
  refine Dr.ite (fun h => ?_) fun h => ?_
  · refine Dr.step weave_ok fun d hd => ?_
    obtain ⟨n, k, W, w, rfl⟩ := hd
    simp
    exact (fin w).le (by omega)
  · refine Dr.step layered_ok fun d hd => ?_
    obtain ⟨n, k, W, w, rfl⟩ := hd
    simp
    exact (fin w).le (by omega)
theorem law_dr : Dr 1000 (fDef 3 B_law [.un, .hand]) fun d => d = .bool true := by
  have n1 : dNe (.tuple [.tuple [.tuple [.int 0], .tuple []], .tuple [.tuple [], .tuple [.int 0]], .tuple [.tuple [.int 1], .tuple []], .tuple [.tuple [], .tuple [.int 1]]]) (.tuple [.tuple [.tuple [.int 0], .tuple []], .tuple [.tuple [], .tuple [.int 0]], .tuple [.tuple [.int 1], .tuple []], .tuple [.tuple [], .tuple [.int 1]]]) = some (.bool false) := by
    have hs := sh_layers [[1, 1], [0, 1]] 2 2
    have h : layers [[1, 1], [0, 1]] 2 2 = [([0], []), ([], [0]), ([1], []), ([], [1])] := by
      unfold layers
      rw [lay_eq]
      decide +kernel
    rw [h] at hs
    have hs2 : sh 3 (.tuple [.tuple [.tuple [.int 0], .tuple []], .tuple [.tuple [], .tuple [.int 0]], .tuple [.tuple [.int 1], .tuple []], .tuple [.tuple [], .tuple [.int 1]]]) := hs
    rw [ne_of hs2 hs2 (by omega) (by omega), SeqAt.eqv_refl _ hs2.1]
    rfl
  unfold B_law
  simp [first, n1]
  have e3 : rng 0 4 = [0, 1, 2, 3].map fun i : Nat => PyData.int (i : Int) := rng0 4
  rw [e3]
  refine Dr.step (j := 400) ((Dr.forN (k := 100) (fun i : Nat => PyData.int (i : Int)) (fun _ ρ => ρ = [.un, .hand, .un, .un, .un]) [0, 1, 2, 3] _ rfl ?_).le (by simp)) fun c hc => ?_
  · rintro i xs ρ rfl
    refine ⟨_, by simp; try rfl, Dr.imp (S_law1 (i : Int)) ?_⟩
    rintro c rfl
    exact ⟨_, rfl, rfl⟩
  · obtain ⟨ρ, rfl, rfl⟩ := hc
    simp
    exact Dr.ret rfl
theorem law_true (ns : List Int) (hl : ns.length ≤ 63) (hb : ∀ z ∈ ns, Builtin.Int.intBits z ≤ 1048576) : Post (fDef 3 B_law [.un, .hand] ⟨ns.map (fcM 48), 0, 0, 9319 + 17 * (ns.length : Int), 0⟩) (fun d _ => d = .bool true) (fun _ _ => False) :=
  law_dr.law (by omega) (wf_start (fcM 48) 9319 17 ns (fun n _ => fcM_ok 48 n (by decide)) hl (by omega) (by omega))
end Jw
namespace Jw
open PySem PySem.Spec PyProof.Rows L2
theorem const_mk {K : PySem.W.Frag} {mg : Str → Option Value} {h : Heap} {x : Str} {v : Value} {i : Int} (Y : K.In h) (G : h.Ns mainGlobals mg) (a : PySem.W.nsIn K mainGlobals x = some (some v)) (e : ∃ u, v = .int i u) : ∃ u, mg x = some (.int i u) := by
  obtain ⟨u, rfl⟩ := e
  exact ⟨u, PySem.W.mg_of Y G a⟩
theorem walk_all {l : PySem.W.OpenLaw} {q : Program} {loose : List Str} {XP : (Str → Option Value) → Heap → Prop} {YP : World → Heap → Prop} {d : DefRec} {K : Params → PySem.W.Frag} (hn : l.most = some 63) (hdf : d.params.defaults = []) (hd : d.name = "law")
    (hY : ∀ (w : World) (h : Heap), YP w h → (K w.params).In h) (F : ∀ (w : World) (mg : Str → Option Value) (h : Heap), YP w h → (K w.params).In h → h.Ns mainGlobals mg → ∃ a_NoWeave a_JewelError k__law_are_shifts_right q__law_are_shifts_right : Addr, Tx l.prog (K w.params) mg a_NoWeave a_JewelError k__law_are_shifts_right q__law_are_shifts_right ∧ ∀ p ∈ (codes k__law_are_shifts_right q__law_are_shifts_right), h.get? p.2 = some Jw.tabO) :
    PySem.W.WalkO q loose XP YP l.row.toRowW d [] (fun f vs => PySem.call f vs) := by
  refine Jw.walk_G (n := 63) (k := 14) (x := "script") hn (by decide) hdf ⟨rfl, by decide, by decide⟩ hY fun w mg fa h y KX G hmg => ?_
  obtain ⟨a_NoWeave, a_JewelError, k__law_are_shifts_right, q__law_are_shifts_right, Y, hT⟩ := F w mg h y KX G
  rw [hd] at hmg
  obtain ⟨f, fd, Fu, hm⟩ := Y.d_law.ex
  rw [hm] at hmg
  cases hmg
  refine ⟨_, (codes k__law_are_shifts_right q__law_are_shifts_right), spL (K w.params) (tabs q__law_are_shifts_right) (fcM 48) 9319 17 3 B_law, ⟨hT, fun p hp => (List.mem_cons.mp hp).elim (fun e => by subst e; exact Y.d__law_are_shifts_right.no) (fun hp => nomatch hp), fun p hp => (List.mem_cons.mp hp).elim (fun e => by subst e; exact PySem.W.codeHd_of_K KX Y.d__law_are_shifts_right.hd) (fun hp => nomatch hp)⟩, fun s u => ?_, fun H a ns hl hb ht hS => ⟨a, ns, rfl, hS, hl, fun p hp => (List.mem_cons.mp hp).elim (fun e => by subst e; exact LamX.TabS.nil (ht (k__law_are_shifts_right, q__law_are_shifts_right) List.mem_cons_self)) (fun hp => nomatch hp), law_true ns hl hb, fun _ => rfl⟩, fun base _ _ hbase => c_law Y hbase Fu⟩
  obtain ⟨oc, od, kV, doc, pm, an, cdv, ct, osl, rfl, _, _⟩ := Fu.ex
  exact .of_eq rfl
end Jw
open PySem PySem.W PyProof.Rows
theorem PySem.Challenge.cw_fewjewels_k32_whole_weaves_alike_and_the_holds : PySem.Challenge.rw_fewjewels_k32_whole_weaves_alike_and_the.Holds := by
  w_on; o_law; k_head; (case hw => w_witness2)
  k_fill
  refine Jw.walk_all (l := PySem.Challenge.rw_fewjewels_k32_whole_weaves_alike_and_the) rfl rfl rfl (fun w h Y => PySem.W.km_in_of Y) ?F
  case F =>
    intro w mg h YY KX G
    refine' ⟨_, _, _, _, ⟨Jw.df_mk KX G ?a0 ?l0 ?c0 ?k0, Jw.df_mk KX G ?a1 ?l1 ?c1 ?k1, Jw.df_mk KX G ?a2 ?l2 ?c2 ?k2, Jw.df_mk KX G ?a3 ?l3 ?c3 ?k3, Jw.df_mk KX G ?a4 ?l4 ?c4 ?k4, Jw.df_mk KX G ?a5 ?l5 ?c5 ?k5, Jw.df_mk KX G ?a6 ?l6 ?c6 ?k6, Jw.df_mk KX G ?a7 ?l7 ?c7 ?k7, Jw.df_mk KX G ?a8 ?l8 ?c8 ?k8, Jw.df_mk KX G ?a9 ?l9 ?c9 ?k9, Jw.df_mk KX G ?a10 ?l10 ?c10 ?k10, Jw.df_mk KX G ?a11 ?l11 ?c11 ?k11, Jw.df_mk KX G ?a12 ?l12 ?c12 ?k12, Jw.df_mk KX G ?a13 ?l13 ?c13 ?k13, Jw.df_mk KX G ?a14 ?l14 ?c14 ?k14, Jw.df_mk KX G ?a15 ?l15 ?c15 ?k15, Jw.df_mk KX G ?a16 ?l16 ?c16 ?k16, Jw.df_mk KX G ?a17 ?l17 ?c17 ?k17, Jw.df_mk KX G ?a18 ?l18 ?c18 ?k18, Jw.df_mk KX G ?a19 ?l19 ?c19 ?k19, Jw.df_mk KX G ?a20 ?l20 ?c20 ?k20, Jw.df_mk KX G ?a21 ?l21 ?c21 ?k21, Jw.df_mk KX G ?a22 ?l22 ?c22 ?k22, Jw.df_mk KX G ?a23 ?l23 ?c23 ?k23, Jw.df_mk KX G ?a24 ?l24 ?c24 ?k24, Jw.df_mk KX G ?a25 ?l25 ?c25 ?k25, Jw.dfc_mk KX G ?a26 ?l26 ?c26 ?k26 ?m26 ?e26 ?h26 ?o26, Jw.df_mk KX G ?a27 ?l27 ?c27 ?k27, PySem.W.mg_none_of KX G ?z28, PySem.W.mg_none_of KX G ?z29, PySem.W.mg_none_of KX G ?z30, PySem.W.mg_none_of KX G ?z31, PySem.W.mg_none_of KX G ?z32, PySem.W.mg_none_of KX G ?z33, PySem.W.mg_none_of KX G ?z34, PySem.W.mg_none_of KX G ?z35, PySem.W.mg_none_of KX G ?z36, PySem.W.mg_none_of KX G ?z37, PySem.W.mg_none_of KX G ?z38, PySem.W.mg_none_of KX G ?z39, PySem.W.mg_none_of KX G ?z40, Jw.const_mk KX G ?m41 ?e41, Jw.errc_mk (st := Jw.top 6) KX G ?a42 ?oa42 ?ob42 ?oc42 ?od42 ?oe42 ?of42 ?ia42 ?ib42 ?sa42 ?sb42 ?sc42 ?sd42 ?se42 ?sf42 ?sg42 ?sh42 ?si42 ?sj42 ?sk42 ?sl42 rfl rfl rfl rfl (by decide +kernel) rfl rfl rfl (by decide +kernel) ?ta42 ?tb42, PySem.W.mg_of KX G ?g43, PySem.W.mg_of KX G ?g44, ?i45, ?n46⟩, ?tabs⟩
    (case a0 => k_is); (case l0 => k_is); (case c0 => k_is); (case k0 => k_is);
    (case a1 => k_is); (case l1 => k_is); (case c1 => k_is); (case k1 => k_is);
    (case a2 => k_is); (case l2 => k_is); (case c2 => k_is); (case k2 => k_is);
    (case a3 => k_is); (case l3 => k_is); (case c3 => k_is); (case k3 => k_is);
    (case a4 => k_is); (case l4 => k_is); (case c4 => k_is); (case k4 => k_is);
    (case a5 => k_is); (case l5 => k_is); (case c5 => k_is); (case k5 => k_is);
    (case a6 => k_is); (case l6 => k_is); (case c6 => k_is); (case k6 => k_is);
    (case a7 => k_is); (case l7 => k_is); (case c7 => k_is); (case k7 => k_is);
    (case a8 => k_is); (case l8 => k_is); (case c8 => k_is); (case k8 => k_is);
    (case a9 => k_is); (case l9 => k_is); (case c9 => k_is); (case k9 => k_is);
    (case a10 => k_is); (case l10 => k_is); (case c10 => k_is); (case k10 => k_is);
    (case a11 => k_is); (case l11 => k_is); (case c11 => k_is); (case k11 => k_is);
    (case a12 => k_is); (case l12 => k_is); (case c12 => k_is); (case k12 => k_is);
    (case a13 => k_is); (case l13 => k_is); (case c13 => k_is); (case k13 => k_is);
    (case a14 => k_is); (case l14 => k_is); (case c14 => k_is); (case k14 => k_is);
    (case a15 => k_is); (case l15 => k_is); (case c15 => k_is); (case k15 => k_is);
    (case a16 => k_is); (case l16 => k_is); (case c16 => k_is); (case k16 => k_is);
    (case a17 => k_is); (case l17 => k_is); (case c17 => k_is); (case k17 => k_is);
    (case a18 => k_is); (case l18 => k_is); (case c18 => k_is); (case k18 => k_is);
    (case a19 => k_is); (case l19 => k_is); (case c19 => k_is); (case k19 => k_is);
    (case a20 => k_is); (case l20 => k_is); (case c20 => k_is); (case k20 => k_is);
    (case a21 => k_is); (case l21 => k_is); (case c21 => k_is); (case k21 => k_is);
    (case a22 => k_is); (case l22 => k_is); (case c22 => k_is); (case k22 => k_is);
    (case a23 => k_is); (case l23 => k_is); (case c23 => k_is); (case k23 => k_is);
    (case a24 => k_is); (case l24 => k_is); (case c24 => k_is); (case k24 => k_is);
    (case a25 => k_is); (case l25 => k_is); (case c25 => k_is); (case k25 => k_is);
    (case a26 => k_is); (case l26 => k_is); (case c26 => k_is); (case k26 => k_is); (case m26 => k_is); (case e26 => rfl); (case h26 => kernel_rfl); (case o26 => kernel_rfl);
    (case a27 => k_is); (case l27 => k_is); (case c27 => k_is); (case k27 => k_is);
    (case z28 => k_is);
    (case z29 => k_is);
    (case z30 => k_is);
    (case z31 => k_is);
    (case z32 => k_is);
    (case z33 => k_is);
    (case z34 => k_is);
    (case z35 => k_is);
    (case z36 => k_is);
    (case z37 => k_is);
    (case z38 => k_is);
    (case z39 => k_is);
    (case z40 => k_is);
    (case m41 => k_is); (case e41 => exact ⟨_, rfl⟩);
    (case a42 => k_is); (case oa42 => k_is); (case ob42 => first | rfl | k_is); (case oc42 => k_is); (case od42 => k_is); (case oe42 => k_is); (case of42 => k_is); (case ia42 => k_is); (case ib42 => k_is); (case sa42 => k_is); (case sb42 => k_is); (case sc42 => k_is); (case sd42 => rfl); (case se42 => first | rfl | decide +kernel); (case sf42 => k_is); (case sg42 => k_is); (case sh42 => first | k_is | rfl | kernel_rfl); (case si42 => first | rfl | kernel_rfl | decide +kernel); (case sj42 => first | k_is | rfl | kernel_rfl); (case sk42 => first | k_is | rfl | kernel_rfl); (case sl42 => first | k_is | rfl | kernel_rfl); (case ta42 => exact fun _ => rfl); (case tb42 => exact fun _ _ _ _ _ _ _ _ => rfl);
    (case g43 => k_is);
    (case g44 => k_is);
    (case i45 => first | k_is | kernel_rfl | rfl);
    (case n46 => decide);
    (case tabs => exact List.forall_mem_cons.mpr ⟨PySem.W.km_tabs_of YY _ (by k_mem), fun p hp => nomatch hp⟩)
