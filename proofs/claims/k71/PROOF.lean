import PyProof.Rows.All
import HandS.ForMost
import HandS.Wide
import HandS.Deep
import HandS.IsInst
import HandS.SortInts
import HandS.TryOnly
import HandS.Strs
import HandS.SetFor
import HandS.Flow
import HandS.ForExc
import PySem.Challenge.RW_keystuned_k71_neighbouring_modes
set_option Elab.async false
set_option linter.all false
set_option maxRecDepth 100000
set_option maxHeartbeats 4000000
/-! the pure layer, 1: data by value, what is stable, what is owned; the canonical readings -/
namespace Pu
open PySem PySem.Spec PyProof.Rows L2
abbrev D := PyData

/-! ### data at a value: lists tracked, tuples tracked or written -/
mutual
inductive Rp (K : PySem.W.Frag) (H : Hp) : V → D → Prop
  | non : Rp K H .non .none
  | bl (b : Bool) : Rp K H (.bl b) (.bool b)
  | int (i : Int) : Rp K H (.int i) (.int i)
  | str (x : Str) : Rp K H (.str x) (.str x)
  | lst {a : Addr} {xs : List V} {ds : List D} : H a = some (.lst xs) → RpAll K H xs ds → Rp K H (.ref a) (.list ds)
  | tup {a : Addr} {xs : List V} {ds : List D} : SqT K H a xs → RpAll K H xs ds → Rp K H (.ref a) (.tuple ds)
inductive RpAll (K : PySem.W.Frag) (H : Hp) : List V → List D → Prop
  | nil : RpAll K H [] []
  | cons {v : V} {vs : List V} {d : D} {ds : List D} : Rp K H v d → RpAll K H vs ds → RpAll K H (v :: vs) (d :: ds)
end
theorem seqT {K : PySem.W.Frag} {H H' : Hp} {a : Addr} {xs : List V} (e : Same H H') (h : SqT K H a xs) : SqT K H' a xs := by
  rcases h with (h | ⟨o, h⟩) | h
  · exact .inl (.inl (e _ _ h))
  · exact .inl (.inr ⟨o, e _ _ h⟩)
  · exact .inr h
section
variable {K : PySem.W.Frag} {H H' : Hp}
mutual
theorem Rp.mono (s : Same H H') : ∀ {v : V} {d : D}, Rp K H v d → Rp K H' v d
  | _, _, .non => .non
  | _, _, .bl b => .bl b
  | _, _, .int i => .int i
  | _, _, .str x => .str x
  | _, _, .lst h k => .lst (s _ _ h) (RpAll.mono s k)
  | _, _, .tup h k => .tup (seqT s h) (RpAll.mono s k)
theorem RpAll.mono (s : Same H H') : ∀ {vs : List V} {ds : List D}, RpAll K H vs ds → RpAll K H' vs ds
  | _, _, .nil => .nil
  | _, _, .cons h k => .cons (Rp.mono s h) (RpAll.mono s k)
end
mutual
theorem Rp.dp : ∀ {v : V} {d : D}, Rp K H v d → Dp K H v d
  | _, _, .non => .non
  | _, _, .bl b => .bl b
  | _, _, .int i => .int i
  | _, _, .str x => .str x
  | _, _, .lst h k => .lst (SqL.of h) (RpAll.dp k)
  | _, _, .tup h k => .tup h (RpAll.dp k)
theorem RpAll.dp : ∀ {vs : List V} {ds : List D}, RpAll K H vs ds → DpAll K H vs ds
  | _, _, .nil => .nil
  | _, _, .cons h k => .cons (Rp.dp h) (RpAll.dp k)
end
theorem RpAll.length : ∀ {vs : List V} {ds : List D}, RpAll K H vs ds → vs.length = ds.length
  | _, _, .nil => rfl
  | _, _, .cons _ k => congrArg (· + 1) k.length
theorem RpAll.get : ∀ {vs : List V} {ds : List D} {i : Nat} {d : D}, RpAll K H vs ds → ds[i]? = some d → ∃ v, vs[i]? = some v ∧ Rp K H v d
  | _, _, _, _, .nil, e => by simp at e
  | _, _, 0, _, .cons r _, e => by simp at e; subst e; exact ⟨_, rfl, r⟩
  | _, _, i + 1, d, .cons _ t, e => by
    obtain ⟨u, h1, h2⟩ := RpAll.get (i := i) (d := d) t (by simpa using e)
    exact ⟨u, by simpa using h1, h2⟩
theorem RpAll.get' : ∀ {vs : List V} {ds : List D} {i : Nat} {v : V}, RpAll K H vs ds → vs[i]? = some v → ∃ d, ds[i]? = some d ∧ Rp K H v d
  | _, _, _, _, .nil, e => by simp at e
  | _, _, 0, _, .cons r _, e => by simp at e; subst e; exact ⟨_, rfl, r⟩
  | _, _, i + 1, d, .cons _ t, e => by
    obtain ⟨u, h1, h2⟩ := RpAll.get' (i := i) t (by simpa using e)
    exact ⟨u, by simpa using h1, h2⟩
theorem RpAll.append : ∀ {xs ys : List V} {us ws : List D}, RpAll K H xs us → RpAll K H ys ws → RpAll K H (xs ++ ys) (us ++ ws)
  | _, _, _, _, .nil, s => s
  | _, _, _, _, .cons r t, s => .cons r (RpAll.append t s)
theorem RpAll.take : ∀ {xs : List V} {us : List D} (n : Nat), RpAll K H xs us → RpAll K H (xs.take n) (us.take n)
  | _, _, 0, _ => .nil
  | _, _, _ + 1, .nil => .nil
  | _, _, n + 1, .cons r t => .cons r (RpAll.take n t)
theorem RpAll.drop : ∀ {xs : List V} {us : List D} (n : Nat), RpAll K H xs us → RpAll K H (xs.drop n) (us.drop n)
  | _, _, 0, r => r
  | _, _, _ + 1, .nil => .nil
  | _, _, n + 1, .cons _ t => RpAll.drop n t
theorem RpAll.set {x : V} {u : D} (r : Rp K H x u) : ∀ {xs : List V} {us : List D} (i : Nat), RpAll K H xs us → RpAll K H (xs.set i x) (us.set i u)
  | _, _, _, .nil => .nil
  | _, _, 0, .cons _ t => .cons r t
  | _, _, i + 1, .cons q t => .cons q (RpAll.set r i t)
theorem RpAll.rep {xs : List V} {us : List D} (h : RpAll K H xs us) : ∀ k : Nat, RpAll K H (List.replicate k xs).flatten (List.replicate k us).flatten
  | 0 => .nil
  | k + 1 => by
    rw [List.replicate_succ, List.replicate_succ, List.flatten_cons, List.flatten_cons]
    exact h.append (RpAll.rep h k)
theorem RpAll.reverse : ∀ {xs : List V} {us : List D}, RpAll K H xs us → RpAll K H xs.reverse us.reverse
  | _, _, .nil => .nil
  | _, _, .cons r t => by
    rw [List.reverse_cons, List.reverse_cons]
    exact (RpAll.reverse t).append (.cons r .nil)
theorem RpAll.eraseIdx : ∀ {xs : List V} {us : List D} (i : Nat), RpAll K H xs us → RpAll K H (xs.eraseIdx i) (us.eraseIdx i)
  | _, _, _, .nil => .nil
  | _, _, 0, .cons _ t => t
  | _, _, i + 1, .cons q t => .cons q (RpAll.eraseIdx i t)
theorem RpAll.ints : ∀ {ns : List Int}, RpAll K H (ns.map V.int) (ns.map PyData.int)
  | [] => .nil
  | n :: ns => .cons (.int n) RpAll.ints
theorem RpAll.ints' : ∀ {vs : List V} {ns : List Int}, RpAll K H vs (ns.map PyData.int) → vs = ns.map V.int
  | _, [], h => by cases h; rfl
  | _, n :: ns, h => by
    cases h with
    | cons h k => cases h; rw [List.map_cons, RpAll.ints' k]
end

/-! ### results -/
inductive Rs (α : Type) where
  | ok (a : α) | ex (c : Str) (fs : List (Str × D)) | bad
@[reducible] def Rs.bind {α β : Type} : Rs α → (α → Rs β) → Rs β
  | .ok a, f => f a
  | .ex c fs, _ => .ex c fs
  | .bad, _ => .bad
instance : Monad Rs where
  pure := .ok
  bind := Rs.bind
theorem Rs.ok_bind {α β : Type} (a : α) (f : α → Rs β) : (Rs.ok a >>= f) = f a := rfl
theorem Rs.pure_eq {α : Type} (a : α) : (pure a : Rs α) = .ok a := rfl
/-- what stands in a slot -/
inductive En where
  | no | sh (d : D) | ow (ds : List D) | se (S : Int → Bool) (n : Nat) | sq (ns : List Int)
abbrev Ev := List En
/-- a statement's end -/
inductive Sr where
  | nx (ρ : Ev) | bk (ρ : Ev) | ct (ρ : Ev) | rt (d : D) | rf (ds : List D) | ex (c : Str) (fs : List (Str × D)) (ρ : Ev) | bad
/-- a def's end -/
inductive Ans where
  | ok (d : D) | fr (ds : List D) | ex (c : Str) (fs : List (Str × D)) | bad

def isTup : HO → Bool
  | .tup _ => true
  | .frz _ (.tup _) => true
  | _ => false
/-- the heap and its stable part have grown -/
structure Step (G H G' H' : Hp) : Prop where
  hh : Same H H'
  gg : Same G G'
  gh : Same G' H'
  new : ∀ b o, G' b = some o → G b = some o ∨ H b = none ∨ isTup o = true
theorem Step.refl {G H : Hp} (s : Same G H) : Step G H G H := ⟨Same.refl _, Same.refl _, s, fun _ _ h => .inl h⟩
theorem Step.trans {G H G1 H1 G2 H2 : Hp} (a : Step G H G1 H1) (b : Step G1 H1 G2 H2) : Step G H G2 H2 :=
  ⟨a.hh.trans b.hh, a.gg.trans b.gg, b.gh, fun c o h => by
    rcases b.new c o h with q | q | q
    · exact a.new c o q
    · exact .inr (.inl (a.hh.free q))
    · exact .inr (.inr q)⟩
theorem same_upd {H : Hp} {p : Addr} {o : HO} (h : H p = none) : Same H (upd H p o) := fun b x e => by
  rw [upd_ne (ne_of_none e h)]
  exact e
theorem same_upd2 {G H : Hp} {p : Addr} {o : HO} (s : Same G H) : Same (upd G p o) (upd H p o) := fun b x e => by
  by_cases hb : b = p
  · subst hb; rw [upd_same] at e ⊢; exact e
  · rw [upd_ne hb] at e ⊢; exact s _ _ e
/-- a new object, stable at once -/
theorem Step.laid {G H : Hp} {p : Addr} {o : HO} (s : Same G H) (h : H p = none) : Step G H (upd G p o) (upd H p o) :=
  ⟨same_upd h, same_upd (s.free h), same_upd2 s, fun b x e => by
    by_cases hb : b = p
    · subst hb; exact .inr (.inl h)
    · rw [upd_ne hb] at e; exact .inl e⟩
/-- a new object, not stable -/
theorem Step.fresh {G H : Hp} {p : Addr} {o : HO} (s : Same G H) (h : H p = none) : Step G H G (upd H p o) :=
  ⟨same_upd h, Same.refl _, s.trans (same_upd h), fun _ _ e => .inl e⟩

def EnOk (K : PySem.W.Frag) (w : World) (H0 G H : Hp) : En → Option V → Prop
  | .no, _ => True
  | .sh d, x => ∃ v, x = some v ∧ Rp K G v d
  | .ow ds, x => ∃ p vs, x = some (.ref p) ∧ G p = none ∧ H0 p = none ∧ H p = some (.lst vs) ∧ RpAll K G vs ds
  | .se S n, x => ∃ p, x = some (.ref p) ∧ G p = none ∧ H0 p = none ∧ H p = some (SetO w p S n)
  | .sq ns, x => ∃ a, x = some (.ref a) ∧ SqL K H0 a (ns.map V.int)
def isOw : En → Bool
  | .ow _ => true
  | .se _ _ => true
  | _ => false
/-- the slots hold the environment: G the stable part of H, the entry's G0 and H0 -/
structure Rel (K : PySem.W.Frag) (w : World) (G0 H0 G H : Hp) (σ : L2.St) (ρ : Ev) : Prop where
  gh : Same G H
  hh : Same H0 H
  gg : Same G0 G
  new : ∀ b o, G b = some o → G0 b = some o ∨ H0 b = none ∨ isTup o = true
  len : σ.length = ρ.length
  ent : ∀ (i : Nat) (e : En), ρ[i]? = some e → EnOk K w H0 G H e (σ[i]?.getD none)
  dis : ∀ (i j : Nat) (e e' : En) (p : Addr), i ≠ j → ρ[i]? = some e → ρ[j]? = some e' → isOw e = true → isOw e' = true → σ[i]? = some (some (.ref p)) → σ[j]? = some (some (.ref p)) → False
section
variable {K : PySem.W.Frag} {w : World} {G0 H0 G H G' H' : Hp} {σ : L2.St} {ρ : Ev}
theorem tup_ne {H : Hp} {p : Addr} {o u : HO} (h : H p = some o) (h' : H p = some u) (t : isTup o = true) (n : isTup u = false) : False := by
  rw [h] at h'; cases h'; rw [t] at n; cases n
theorem EnOk.step {e : En} {x : Option V} (s : Step G H G' H') (h : EnOk K w H0 G H e x) : EnOk K w H0 G' H' e x := by
  have key : ∀ {p : Addr} {o : HO}, H p = some o → isTup o = false → G p = none → G' p = none := fun {p o} hp ht hg => by
    cases q : G' p with
    | none => rfl
    | some u =>
      rcases s.new p u q with z | z | z
      · rw [hg] at z; cases z
      · rw [hp] at z; cases z
      · exact (tup_ne (s.gh _ _ q) (s.hh _ _ hp) z ht).elim
  cases e with
  | no => trivial
  | sh d => obtain ⟨v, e, r⟩ := h; exact ⟨v, e, r.mono s.gg⟩
  | ow ds =>
    obtain ⟨p, vs, e, g, h0, hp, r⟩ := h
    exact ⟨p, vs, e, key hp rfl g, h0, s.hh _ _ hp, r.mono s.gg⟩
  | se S n =>
    obtain ⟨p, e, g, h0, hp⟩ := h
    exact ⟨p, e, key hp rfl g, h0, s.hh _ _ hp⟩
  | sq ns => exact h
theorem Rel.step (R : Rel K w G0 H0 G H σ ρ) (s : Step G H G' H') : Rel K w G0 H0 G' H' σ ρ :=
  ⟨s.gh, R.hh.trans s.hh, R.gg.trans s.gg, fun b o h => by
    rcases s.new b o h with z | z | z
    · exact R.new b o z
    · exact .inr (.inl (R.hh.free z))
    · exact .inr (.inr z), R.len, fun i e h => (R.ent i e h).step s, R.dis⟩
theorem Rel.fin (R : Rel K w G0 H0 G H σ ρ) : Step G0 H0 G H := ⟨R.hh, R.gg, R.gh, R.new⟩
theorem Rel.lt (R : Rel K w G0 H0 G H σ ρ) {i : Nat} {e : En} (h : ρ[i]? = some e) : i < σ.length := by
  rw [R.len]; exact (List.getElem?_eq_some_iff.mp h).1
theorem Rel.at (R : Rel K w G0 H0 G H σ ρ) {i : Nat} {e : En} (h : ρ[i]? = some e) {v : V} (hv : σ[i]?.getD none = some v) : σ[i]? = some (some v) := by
  have hl := R.lt h
  rw [List.getElem?_eq_getElem hl] at hv ⊢
  exact congrArg some hv
theorem Rel.sh (R : Rel K w G0 H0 G H σ ρ) {i : Nat} {d : D} (h : ρ[i]? = some (.sh d)) : ∃ v, σ[i]? = some (some v) ∧ Rp K G v d := by
  obtain ⟨v, e, r⟩ := R.ent i _ h
  exact ⟨v, R.at h e, r⟩
theorem Rel.ow (R : Rel K w G0 H0 G H σ ρ) {i : Nat} {ds : List D} (h : ρ[i]? = some (.ow ds)) : ∃ p vs, σ[i]? = some (some (.ref p)) ∧ G p = none ∧ H0 p = none ∧ H p = some (.lst vs) ∧ RpAll K G vs ds := by
  obtain ⟨p, vs, e, r⟩ := R.ent i _ h
  exact ⟨p, vs, R.at h e, r⟩
theorem Rel.se (R : Rel K w G0 H0 G H σ ρ) {i : Nat} {S : Int → Bool} {n : Nat} (h : ρ[i]? = some (.se S n)) : ∃ p, σ[i]? = some (some (.ref p)) ∧ G p = none ∧ H0 p = none ∧ H p = some (SetO w p S n) := by
  obtain ⟨p, e, r⟩ := R.ent i _ h
  exact ⟨p, R.at h e, r⟩
theorem Rel.sq (R : Rel K w G0 H0 G H σ ρ) {i : Nat} {ns : List Int} (h : ρ[i]? = some (.sq ns)) : ∃ a, σ[i]? = some (some (.ref a)) ∧ SqL K H a (ns.map V.int) := by
  obtain ⟨a, e, r⟩ := R.ent i _ h
  exact ⟨a, R.at h e, R.hh.seq r⟩
/-- a slot is stored with a stable value -/
theorem Rel.set (R : Rel K w G0 H0 G H σ ρ) (i : Nat) {v : V} {d : D} (r : Rp K G v d) : Rel K w G0 H0 G H (σ.set i (some v)) (ρ.set i (.sh d)) := by
  refine ⟨R.gh, R.hh, R.gg, R.new, by simp [R.len], fun j e h => ?_, fun j k e e' p hjk hj hk o o' hp hp' => ?_⟩
  · by_cases hj : i = j
    · subst hj
      by_cases hl : i < ρ.length
      · rw [List.getElem?_set_self hl] at h; cases h
        rw [List.getElem?_set_self (by rw [R.len]; exact hl)]
        exact ⟨v, rfl, r⟩
      · rw [List.getElem?_eq_none (by simpa using hl)] at h; cases h
    · rw [List.getElem?_set_ne hj] at h ⊢
      exact R.ent j e h
  · by_cases h1 : i = j
    · subst h1
      have hl : i < ρ.length := by have := (List.getElem?_eq_some_iff.mp hj).1; simpa using this
      rw [List.getElem?_set_self hl] at hj; cases hj; cases o
    · by_cases h2 : i = k
      · subst h2
        have hl : i < ρ.length := by have := (List.getElem?_eq_some_iff.mp hk).1; simpa using this
        rw [List.getElem?_set_self hl] at hk; cases hk; cases o'
      · rw [List.getElem?_set_ne h1] at hj hp
        rw [List.getElem?_set_ne h2] at hk hp'
        exact R.dis j k e e' p hjk hj hk o o' hp hp'
/-- a slot is stored with a fresh object -/
theorem Rel.setOw (R : Rel K w G0 H0 G H σ ρ) (i : Nat) {p : Addr} {o : HO} {en : En} (hn : H p = none) (ho : EnOk K w H0 G (upd H p o) en (some (.ref p))) (hen : isOw en = true) :
    Rel K w G0 H0 G (upd H p o) (σ.set i (some (.ref p))) (ρ.set i en) := by
  have S : Step G H G (upd H p o) := Step.fresh R.gh hn
  have R1 := R.step S
  have old : ∀ {j : Nat} {e : En}, ρ[j]? = some e → isOw e = true → σ[j]? = some (some (.ref p)) → False := fun {j e} hj he hp => by
    cases e with
    | no => cases he
    | sh d => cases he
    | sq ns => cases he
    | ow ds =>
      obtain ⟨q, vs, e1, _, _, e2, _⟩ := R.ow hj
      rw [hp] at e1; cases e1; rw [hn] at e2; cases e2
    | se T n =>
      obtain ⟨q, e1, _, _, e2⟩ := R.se hj
      rw [hp] at e1; cases e1; rw [hn] at e2; cases e2
  refine ⟨R1.gh, R1.hh, R1.gg, R1.new, by simp [R.len], fun j e h => ?_, fun j k e e' q hjk hj hk x x' hp hp' => ?_⟩
  · by_cases hj : i = j
    · subst hj
      by_cases hl : i < ρ.length
      · rw [List.getElem?_set_self hl] at h; cases h
        rw [List.getElem?_set_self (by rw [R.len]; exact hl)]
        exact ho
      · rw [List.getElem?_eq_none (by simpa using hl)] at h; cases h
    · rw [List.getElem?_set_ne hj] at h ⊢
      exact R1.ent j e h
  · by_cases h1 : i = j
    · subst h1
      have h2 : i ≠ k := hjk
      have hl : i < σ.length := by have := (List.getElem?_eq_some_iff.mp hp).1; simpa using this
      rw [List.getElem?_set_self hl] at hp; cases hp
      rw [List.getElem?_set_ne h2] at hk hp'
      exact old hk x' hp'
    · by_cases h2 : i = k
      · subst h2
        have hl : i < σ.length := by have := (List.getElem?_eq_some_iff.mp hp').1; simpa using this
        rw [List.getElem?_set_self hl] at hp'; cases hp'
        rw [List.getElem?_set_ne h1] at hj hp
        exact old hj x hp
      · rw [List.getElem?_set_ne h1] at hj hp
        rw [List.getElem?_set_ne h2] at hk hp'
        exact R.dis j k e e' q hjk hj hk x x' hp hp'
/-- an owned object is changed -/
theorem Rel.mutd (R : Rel K w G0 H0 G H σ ρ) {i : Nat} {p : Addr} {o : HO} {en0 en : En} (h0 : ρ[i]? = some en0) (ow0 : isOw en0 = true) (hp : σ[i]? = some (some (.ref p))) (hg : G p = none) (hh : H0 p = none)
    (ho : EnOk K w H0 G (upd H p o) en (some (.ref p))) (hen : isOw en = true) : Rel K w G0 H0 G (upd H p o) σ (ρ.set i en) := by
  refine ⟨fun b x e => by rw [upd_ne (ne_of_none e hg)]; exact R.gh _ _ e, fun b x e => by rw [upd_ne (ne_of_none e hh)]; exact R.hh _ _ e, R.gg, R.new, by simp [R.len], fun j e h => ?_, fun j k e e' q hjk hj hk x x' hq hq' => ?_⟩
  · by_cases hj : i = j
    · subst hj
      have hl : i < ρ.length := (List.getElem?_eq_some_iff.mp h0).1
      rw [List.getElem?_set_self hl] at h; cases h
      rw [hp]; exact ho
    · rw [List.getElem?_set_ne hj] at h
      have E := R.ent j e h
      cases e with
      | no => trivial
      | sh d => exact E
      | sq ns => exact E
      | ow ds =>
        obtain ⟨q, vs, e1, e2, e3, e4, e5⟩ := E
        have ne : q ≠ p := fun z => by
          subst z
          exact R.dis i j _ _ q hj h0 h ow0 rfl hp (R.at h e1)
        exact ⟨q, vs, e1, e2, e3, by rw [upd_ne ne]; exact e4, e5⟩
      | se T n =>
        obtain ⟨q, e1, e2, e3, e4⟩ := E
        have ne : q ≠ p := fun z => by
          subst z
          exact R.dis i j _ _ q hj h0 h ow0 rfl hp (R.at h e1)
        exact ⟨q, e1, e2, e3, by rw [upd_ne ne]; exact e4⟩
  · have back : ∀ {m : Nat} {e : En}, (ρ.set i en)[m]? = some e → isOw e = true → ∃ e0, ρ[m]? = some e0 ∧ isOw e0 = true := fun {m e} hm he => by
      by_cases h1 : i = m
      · subst h1; exact ⟨en0, h0, ow0⟩
      · rw [List.getElem?_set_ne h1] at hm; exact ⟨e, hm, he⟩
    obtain ⟨e1, hj1, x1⟩ := back hj x
    obtain ⟨e2, hk1, x2⟩ := back hk x'
    exact R.dis j k e1 e2 q hjk hj1 hk1 x1 x2 hq hq'
/-- an owned list becomes stable -/
theorem Rel.freeze (R : Rel K w G0 H0 G H σ ρ) {i : Nat} {ds : List D} (h : ρ[i]? = some (.ow ds)) : ∃ p vs, Rel K w G0 H0 (upd G p (.lst vs)) H σ (ρ.set i (.sh (.list ds))) ∧ Same G (upd G p (.lst vs)) := by
  obtain ⟨p, vs, hp, hg, h0, hH, r⟩ := R.ow h
  have sG : Same G (upd G p (.lst vs)) := same_upd hg
  refine ⟨p, vs, ⟨fun b x e => ?_, R.hh, R.gg.trans sG, fun b x e => ?_, by simp [R.len], fun j e hj => ?_, fun j k e e' q hjk hj hk x x' hq hq' => ?_⟩, sG⟩
  · by_cases hb : b = p
    · subst hb; rw [upd_same] at e; cases e; exact hH
    · rw [upd_ne hb] at e; exact R.gh _ _ e
  · by_cases hb : b = p
    · subst hb; exact .inr (.inl h0)
    · rw [upd_ne hb] at e; exact R.new _ _ e
  · by_cases hij : i = j
    · subst hij
      have hl : i < ρ.length := (List.getElem?_eq_some_iff.mp h).1
      rw [List.getElem?_set_self hl] at hj; cases hj
      rw [hp]
      exact ⟨_, rfl, .lst upd_same (r.mono sG)⟩
    · rw [List.getElem?_set_ne hij] at hj
      have E := R.ent j e hj
      cases e with
      | no => trivial
      | sh d => obtain ⟨v, e1, e2⟩ := E; exact ⟨v, e1, e2.mono sG⟩
      | sq ns => exact E
      | ow ds' =>
        obtain ⟨q, vs', e1, e2, e3, e4, e5⟩ := E
        have ne : q ≠ p := fun z => by
          subst z
          exact R.dis i j _ _ q hij h hj rfl rfl hp (R.at hj e1)
        exact ⟨q, vs', e1, by rw [upd_ne ne]; exact e2, e3, e4, e5.mono sG⟩
      | se T n =>
        obtain ⟨q, e1, e2, e3, e4⟩ := E
        have ne : q ≠ p := fun z => by
          subst z
          exact R.dis i j _ _ q hij h hj rfl rfl hp (R.at hj e1)
        exact ⟨q, e1, by rw [upd_ne ne]; exact e2, e3, e4⟩
  · have back : ∀ {m : Nat} {e : En}, (ρ.set i (.sh (.list ds)))[m]? = some e → isOw e = true → ρ[m]? = some e := fun {m e} hm he => by
      by_cases h1 : i = m
      · subst h1
        have hl : i < ρ.length := (List.getElem?_eq_some_iff.mp h).1
        rw [List.getElem?_set_self hl] at hm; cases hm; cases he
      · rw [List.getElem?_set_ne h1] at hm; exact hm
    exact R.dis j k e e' q hjk (back hj x) (back hk x') x x' hq hq'
/-- slots forgotten -/
def wipeE (ρ : Ev) : List Nat → Ev
  | [] => ρ
  | v :: vs => (wipeE ρ vs).set v .no
theorem Rel.forget (R : Rel K w G0 H0 G H σ ρ) (i : Nat) (x : Option V) : Rel K w G0 H0 G H (σ.set i x) (ρ.set i .no) := by
  refine ⟨R.gh, R.hh, R.gg, R.new, by simp [R.len], fun j e h => ?_, fun j k e e' p hjk hj hk o o' hp hp' => ?_⟩
  · by_cases hj : i = j
    · subst hj
      by_cases hl : i < ρ.length
      · rw [List.getElem?_set_self hl] at h; cases h; trivial
      · rw [List.getElem?_eq_none (by simpa using hl)] at h; cases h
    · rw [List.getElem?_set_ne hj] at h ⊢
      exact R.ent j e h
  · by_cases h1 : i = j
    · subst h1
      have hl : i < ρ.length := by have := (List.getElem?_eq_some_iff.mp hj).1; simpa using this
      rw [List.getElem?_set_self hl] at hj; cases hj; cases o
    · by_cases h2 : i = k
      · subst h2
        have hl : i < ρ.length := by have := (List.getElem?_eq_some_iff.mp hk).1; simpa using this
        rw [List.getElem?_set_self hl] at hk; cases hk; cases o'
      · rw [List.getElem?_set_ne h1] at hj hp
        rw [List.getElem?_set_ne h2] at hk hp'
        exact R.dis j k e e' p hjk hj hk o o' hp hp'
theorem Rel.wipe (R : Rel K w G0 H0 G H σ ρ) : ∀ vs : List Nat, Rel K w G0 H0 G H (L2.wipe σ vs) (wipeE ρ vs)
  | [] => R
  | v :: vs => (Rel.wipe R vs).forget v none
end

/-! ### the canonical readings -/
inductive FsOk (K : PySem.W.Frag) (H : Hp) : List (Str × V) → List (Str × D) → Prop
  | nil : FsOk K H [] []
  | cons {n : Str} {v : V} {d : D} {vs : List (Str × V)} {ds : List (Str × D)} : Rp K H v d → FsOk K H vs ds → FsOk K H ((n, v) :: vs) ((n, d) :: ds)
/-- readable now: stable, or a list whose items are stable -/
def RpR (K : PySem.W.Frag) (G H : Hp) (v : V) (d : D) : Prop := Rp K G v d ∨ ∃ p vs ds, v = .ref p ∧ d = .list ds ∧ H p = some (.lst vs) ∧ RpAll K G vs ds
section
variable (K : PySem.W.Frag) (w : World) (mg : Str → Option Value) (W : WX)
/-- an exception that leaves an expression -/
def PostX (σ : L2.St) (G H : Hp) (c : Str) (fs : List (Str × D)) : Prop :=
  ∀ C dx vs G' H', mg c = some (.ref C) → Step G H G' H' → H' dx = some (.xd vs) → FsOk K G' vs fs → W (.ref C) (some dx) σ H'
def PostD (σ : L2.St) (G H : Hp) (r : Rs D) (Q : VK) : Prop :=
  match r with
  | .ok d => ∀ v G' H', Step G H G' H' → Rp K G' v d → Q v H'
  | .ex c fs => PostX K mg W σ G H c fs
  | .bad => False
def PostR (σ : L2.St) (G H : Hp) (r : Rs D) (Q : VK) : Prop :=
  match r with
  | .ok d => ∀ v G' H', Step G H G' H' → RpR K G' H' v d → Q v H'
  | .ex c fs => PostX K mg W σ G H c fs
  | .bad => False
def PostF (σ : L2.St) (G H : Hp) (r : Rs (List D)) (Q : VK) : Prop :=
  match r with
  | .ok ds => ∀ p vs G' H', Step G H G' H' → H p = none → G' p = none → H' p = some (.lst vs) → RpAll K G' vs ds → Q (.ref p) H'
  | .ex c fs => PostX K mg W σ G H c fs
  | .bad => False
def PostB (σ : L2.St) (G H : Hp) (r : Rs Bool) (Q : Bool → Hp → Prop) : Prop :=
  match r with
  | .ok b => ∀ G' H', Step G H G' H' → Q b H'
  | .ex c fs => PostX K mg W σ G H c fs
  | .bad => False
def tD (f : Ev → Rs D) : TE := fun σ H Q => ∃ G0 H0 G ρ, Rel K w G0 H0 G H σ ρ ∧ PostD K mg W σ G H (f ρ) Q
def tR (f : Ev → Rs D) : TE := fun σ H Q => ∃ G0 H0 G ρ, Rel K w G0 H0 G H σ ρ ∧ PostR K mg W σ G H (f ρ) Q
def tF (f : Ev → Rs (List D)) : TE := fun σ H Q => ∃ G0 H0 G ρ, Rel K w G0 H0 G H σ ρ ∧ PostF K mg W σ G H (f ρ) Q
def tT (f : Ev → Rs Bool) : TT := fun σ H Q => ∃ G0 H0 G ρ, Rel K w G0 H0 G H σ ρ ∧ PostB K mg W σ G H (f ρ) Q
/-- a statement -/
def PostS (G0 H0 G : Hp) (r : Sr) (Dn : Ends) : Prop :=
  match r with
  | .nx ρ => ∀ σ G' H', Rel K w G0 H0 G' H' σ ρ → Same G G' → Dn.nx σ H'
  | .bk ρ => ∀ σ G' H', Rel K w G0 H0 G' H' σ ρ → Same G G' → Dn.bk σ H'
  | .ct ρ => ∀ σ G' H', Rel K w G0 H0 G' H' σ ρ → Same G G' → Dn.ct σ H'
  | .rt d => ∀ v G' H', Step G0 H0 G' H' → Rp K G' v d → Dn.rt v H'
  | .rf ds => ∀ p vs G' H', Step G0 H0 G' H' → H0 p = none → G' p = none → H' p = some (.lst vs) → RpAll K G' vs ds → Dn.rt (.ref p) H'
  | .ex c fs ρ => ∀ σ C dx vs G' H', Rel K w G0 H0 G' H' σ ρ → Same G G' → mg c = some (.ref C) → H' dx = some (.xd vs) → FsOk K G' vs fs → W (.ref C) (some dx) σ H'
  | .bad => False
def tS (B : Ev → Sr) : TS := fun Dn σ H => ∃ G0 H0 G ρ, Rel K w G0 H0 G H σ ρ ∧ PostS K w mg W G0 H0 G (B ρ) Dn
end
abbrev DE (X : Cx) (W : WX) (e : Expr) (f : Ev → Rs D) : Prop := PE X e (tD X.K X.w X.mg W f)
abbrev DR (X : Cx) (W : WX) (e : Expr) (f : Ev → Rs D) : Prop := PE X e (tR X.K X.w X.mg W f)
abbrev DF (X : Cx) (W : WX) (e : Expr) (f : Ev → Rs (List D)) : Prop := PE X e (tF X.K X.w X.mg W f)
abbrev DT (X : Cx) (W : WX) (e : Expr) (f : Ev → Rs Bool) : Prop := PT X e (tT X.K X.w X.mg W f)
abbrev DW (X : Cx) (W : WX) (e : Expr) (f : Ev → Rs Bool) : Prop := PW X e (tT X.K X.w X.mg W f)
abbrev DS (X : Cx) (W : WX) (st : Stmt) (B : Ev → Sr) : Prop := PS X st (tS X.K X.w X.mg W B)
abbrev DSs (X : Cx) (W : WX) (st : List Stmt) (B : Ev → Sr) : Prop := PSs X st (tS X.K X.w X.mg W B)
theorem pe_mono {X : Cx} {e : Expr} {t t' : TE} (h : PE X e t) (m : ∀ σ H Q, t' σ H Q → t σ H Q) : PE X e t' := ⟨fun pins s σ H Q I q => h.run pins s σ H Q I (m σ H Q q)⟩
theorem pt_mono {X : Cx} {e : Expr} {t t' : TT} (h : PT X e t) (m : ∀ σ H Q, t' σ H Q → t σ H Q) : PT X e t' := ⟨fun pins s σ H Q I q => h.run pins s σ H Q I (m σ H Q q)⟩
theorem pw_mono {X : Cx} {e : Expr} {t t' : TT} (h : PW X e t) (m : ∀ σ H Q, t' σ H Q → t σ H Q) : PW X e t' := ⟨fun wh pins s σ H Q I q => h.run wh pins s σ H Q I (m σ H Q q)⟩
theorem ps_mono {X : Cx} {e : Stmt} {t t' : TS} (h : PS X e t) (m : ∀ Dn σ H, t' Dn σ H → t Dn σ H) : PS X e t' := ⟨fun pins s σ H Dn I q => h.run pins s σ H Dn I (m Dn σ H q)⟩
theorem pss_mono {X : Cx} {e : List Stmt} {t t' : TS} (h : PSs X e t) (m : ∀ Dn σ H, t' Dn σ H → t Dn σ H) : PSs X e t' := ⟨fun pins s σ H Dn I q => h.run pins s σ H Dn I (m Dn σ H q)⟩
section
variable {K : PySem.W.Frag} {w : World} {mg : Str → Option Value} {W : WX} {G0 H0 G H G1 H1 : Hp} {σ : L2.St} {ρ : Ev}
theorem PostX.step {c : Str} {fs : List (Str × D)} (p : PostX K mg W σ G H c fs) (s : Step G H G1 H1) : PostX K mg W σ G1 H1 c fs :=
  fun C dx vs G' H' h1 s' h2 h3 => p C dx vs G' H' h1 (s.trans s') h2 h3
theorem RpR.of {v : V} {d : D} (h : Rp K G v d) : RpR K G H v d := .inl h
theorem RpR.step {v : V} {d : D} (h : RpR K G H v d) (s : Step G H G1 H1) : RpR K G1 H1 v d := by
  rcases h with h | ⟨p, vs, ds, e1, e2, e3, e4⟩
  · exact .inl (h.mono s.gg)
  · exact .inr ⟨p, vs, ds, e1, e2, s.hh _ _ e3, e4.mono s.gg⟩
theorem RpR.rp {v : V} {d : D} (h : RpR K G H v d) (s : Same G H) : Rp K H v d := by
  rcases h with h | ⟨p, vs, ds, rfl, rfl, e3, e4⟩
  · exact h.mono s
  · exact .lst e3 (e4.mono s)
theorem RpR.lst {v : V} {ds : List D} (h : RpR K G H v (.list ds)) (s : Same G H) : ∃ p vs, v = .ref p ∧ H p = some (.lst vs) ∧ RpAll K G vs ds := by
  rcases h with h | ⟨p, vs, ds', e1, e2, e3, e4⟩
  · cases h with
    | lst h k => exact ⟨_, _, rfl, s _ _ h, k⟩
  · cases e2; exact ⟨p, vs, e1, e3, e4⟩
theorem RpR.tup {v : V} {ds : List D} (h : RpR K G H v (.tuple ds)) (s : Same G H) : ∃ p vs, v = .ref p ∧ SqT K H p vs ∧ RpAll K G vs ds := by
  rcases h with h | ⟨p, vs, ds', e1, e2, e3, e4⟩
  · cases h with
    | tup h k => exact ⟨_, _, rfl, seqT s h, k⟩
  · cases e2
theorem RpR.int {v : V} {i : Int} (h : RpR K G H v (.int i)) : v = .int i := by
  rcases h with h | ⟨p, vs, ds', e1, e2, e3, e4⟩
  · cases h; rfl
  · cases e2
theorem RpR.bl {v : V} {i : Bool} (h : RpR K G H v (.bool i)) : v = .bl i := by
  rcases h with h | ⟨p, vs, ds', e1, e2, e3, e4⟩
  · cases h; rfl
  · cases e2
theorem RpR.str {v : V} {i : Str} (h : RpR K G H v (.str i)) : v = .str i := by
  rcases h with h | ⟨p, vs, ds', e1, e2, e3, e4⟩
  · cases h; rfl
  · cases e2
theorem RpR.non {v : V} (h : RpR K G H v .none) : v = .non := by
  rcases h with h | ⟨p, vs, ds', e1, e2, e3, e4⟩
  · cases h; rfl
  · cases e2
end
end Pu

set_option Elab.async false
set_option linter.all false
set_option maxRecDepth 100000
set_option maxHeartbeats 4000000
/-! the pure layer, 2: expressions -/
namespace Pu
open PySem PySem.Spec PyProof.Rows L2

/-! ### one shape for all ends -/
section
variable (K : PySem.W.Frag) (mg : Str → Option Value) (W : WX)
def PostG {α : Type} (σ : L2.St) (G H : Hp) (r : Rs α) (k : α → Prop) : Prop :=
  match r with
  | .ok a => k a
  | .ex c fs => PostX K mg W σ G H c fs
  | .bad => False
def kD (Q : VK) (G H : Hp) (d : D) : Prop := ∀ v G' H', Step G H G' H' → Rp K G' v d → Q v H'
def kR (Q : VK) (G H : Hp) (d : D) : Prop := ∀ v G' H', Step G H G' H' → RpR K G' H' v d → Q v H'
def kF (Q : VK) (G H : Hp) (ds : List D) : Prop := ∀ p vs G' H', Step G H G' H' → H p = none → G' p = none → H' p = some (.lst vs) → RpAll K G' vs ds → Q (.ref p) H'
def kB (Q : Bool → Hp → Prop) (G H : Hp) (b : Bool) : Prop := ∀ G' H', Step G H G' H' → Q b H'
end
section
variable {K : PySem.W.Frag} {w : World} {mg : Str → Option Value} {W : WX} {G0 H0 G H G1 H1 : Hp} {σ : L2.St} {ρ : Ev} {Q : VK}
theorem postD_iff {r : Rs D} : PostD K mg W σ G H r Q ↔ PostG K mg W σ G H r (kD K Q G H) := by cases r <;> exact Iff.rfl
theorem postR_iff {r : Rs D} : PostR K mg W σ G H r Q ↔ PostG K mg W σ G H r (kR K Q G H) := by cases r <;> exact Iff.rfl
theorem postF_iff {r : Rs (List D)} : PostF K mg W σ G H r Q ↔ PostG K mg W σ G H r (kF K Q G H) := by cases r <;> exact Iff.rfl
theorem postB_iff {r : Rs Bool} {Q : Bool → Hp → Prop} : PostB K mg W σ G H r Q ↔ PostG K mg W σ G H r (kB Q G H) := by cases r <;> exact Iff.rfl
theorem kD.step {d : D} (k : kD K Q G H d) (s : Step G H G1 H1) : kD K Q G1 H1 d := fun v G' H' s' r => k v G' H' (s.trans s') r
theorem kR.step {d : D} (k : kR K Q G H d) (s : Step G H G1 H1) : kR K Q G1 H1 d := fun v G' H' s' r => k v G' H' (s.trans s') r
theorem kF.step {d : List D} (k : kF K Q G H d) (s : Step G H G1 H1) : kF K Q G1 H1 d := fun p vs G' H' s' n => k p vs G' H' (s.trans s') (s.hh.free n)
theorem kB.step {b : Bool} {Q : Bool → Hp → Prop} (k : kB Q G H b) (s : Step G H G1 H1) : kB Q G1 H1 b := fun G' H' s' => k G' H' (s.trans s')
theorem PostG.bind {α β : Type} {r : Rs α} {f : α → Rs β} {k : β → Prop} (p : PostG K mg W σ G H (r >>= f) k) : PostG K mg W σ G H r (fun a => PostG K mg W σ G H (f a) k) := by
  cases r <;> exact p
theorem PostG.step {α : Type} {r : Rs α} {k k' : α → Prop} (p : PostG K mg W σ G H r k) (s : Step G H G1 H1) (h : ∀ a, k a → k' a) : PostG K mg W σ G1 H1 r k' := by
  cases r with
  | ok a => exact h a p
  | ex c fs => exact PostX.step p s
  | bad => exact p
theorem PostG.imp {α : Type} {r : Rs α} {k k' : α → Prop} (p : PostG K mg W σ G H r k) (h : ∀ a, k a → k' a) : PostG K mg W σ G H r k' := by
  cases r with
  | ok a => exact h a p
  | ex c fs => exact p
  | bad => exact p
/-- a reading of r whose answer goes on -/
theorem tR_of {f : Ev → Rs D} {C : V → Hp → Prop} (R : Rel K w G0 H0 G H σ ρ) (p : PostG K mg W σ G H (f ρ) fun d => ∀ v G1 H1, Step G H G1 H1 → RpR K G1 H1 v d → C v H1) : tR K w mg W f σ H C :=
  ⟨G0, H0, G, ρ, R, postR_iff.mpr p⟩
theorem tD_of {f : Ev → Rs D} {C : V → Hp → Prop} (R : Rel K w G0 H0 G H σ ρ) (p : PostG K mg W σ G H (f ρ) fun d => ∀ v G1 H1, Step G H G1 H1 → Rp K G1 v d → C v H1) : tD K w mg W f σ H C :=
  ⟨G0, H0, G, ρ, R, postD_iff.mpr p⟩
theorem tF_of {f : Ev → Rs (List D)} {C : V → Hp → Prop} (R : Rel K w G0 H0 G H σ ρ) (p : PostG K mg W σ G H (f ρ) fun ds => ∀ p vs G1 H1, Step G H G1 H1 → H p = none → G1 p = none → H1 p = some (.lst vs) → RpAll K G1 vs ds → C (.ref p) H1) : tF K w mg W f σ H C :=
  ⟨G0, H0, G, ρ, R, postF_iff.mpr p⟩
theorem tT_of {f : Ev → Rs Bool} {C : Bool → Hp → Prop} (R : Rel K w G0 H0 G H σ ρ) (p : PostG K mg W σ G H (f ρ) fun b => ∀ G1 H1, Step G H G1 H1 → C b H1) : tT K w mg W f σ H C :=
  ⟨G0, H0, G, ρ, R, postB_iff.mpr p⟩
/-- two parts in a row -/
theorem bin_go {β : Type} {fa fb : Ev → Rs D} {g : D → D → Rs β} {k : Hp → Hp → β → Prop} {C : V → V → Hp → Prop} (R : Rel K w G0 H0 G H σ ρ) (hk : ∀ {G H G1 H1 b}, k G H b → Step G H G1 H1 → k G1 H1 b)
    (p : PostG K mg W σ G H (fa ρ >>= fun x => fb ρ >>= fun y => g x y) (k G H))
    (hC : ∀ x y G2 H2 d1 d2, Step G H G2 H2 → Same G2 H2 → RpR K G2 H2 x d1 → RpR K G2 H2 y d2 → PostG K mg W σ G2 H2 (g d1 d2) (k G2 H2) → C x y H2) :
    tR K w mg W fa σ H fun x H1 => tR K w mg W fb σ H1 fun y H2 => C x y H2 := by
  refine tR_of R (p.bind.imp fun d1 p1 v G1 H1 s1 r1 => ?_)
  refine tR_of (R.step s1) ((p1.bind.step s1 fun a h => h).imp fun d2 p2 u G2 H2 s2 r2 => ?_)
  exact hC v u G2 H2 d1 d2 (s1.trans s2) s2.gh (r1.step s2) r2 (p2.step (s1.trans s2) fun b q => hk q (s1.trans s2))
end

/-! ### names, constants -/
def lit (d : D) : Ev → Rs D := fun _ => .ok d
def vE (i : Nat) : Ev → Rs D := fun ρ => match ρ[i]? with
  | some (.sh d) => .ok d
  | _ => .bad
def vR (i : Nat) : Ev → Rs D := fun ρ => match ρ[i]? with
  | some (.sh d) => .ok d
  | some (.ow ds) => .ok (.list ds)
  | _ => .bad
section
variable {X : Cx} {W : WX} {pos : Pos}
theorem de_int {i j} : DE X W (.Constant (.int i) j pos) (lit (.int i)) := pe_mono pe_int fun σ H Q ⟨G0, H0, G, ρ, R, p⟩ => p _ G H (Step.refl R.gh) (.int i)
theorem de_bl {b j} : DE X W (.Constant (.bool b) j pos) (lit (.bool b)) := pe_mono pe_bl fun σ H Q ⟨G0, H0, G, ρ, R, p⟩ => p _ G H (Step.refl R.gh) (.bl b)
theorem de_non {j} : DE X W (.Constant .none j pos) (lit .none) := pe_mono pe_non fun σ H Q ⟨G0, H0, G, ρ, R, p⟩ => p _ G H (Step.refl R.gh) .non
theorem de_str {x j} : DE X W (.Constant (.str x) j pos) (lit (.str x)) := pe_mono pe_str fun σ H Q ⟨G0, H0, G, ρ, R, p⟩ => p _ G H (Step.refl R.gh) (.str x)
theorem de_v (i : Nat) {x : Str} (hN : X.N[i]? = some x := by rfl) (hv : Vis X.env.scope x := by first | exact Or.inl rfl | exact Or.inr (Or.inl rfl) | exact Or.inr (Or.inr rfl)) (hd : (x == ("__debug__" : Str)) = false := by decide)
    (hcd : (x == ("__classdict__" : Str)) = false := by decide) : DE X W (.Name x pos) (vE i) := by
  refine pe_mono (pe_var hN hv hd hcd) fun σ H Q ⟨G0, H0, G, ρ, R, p⟩ => ?_
  unfold vE at p
  split at p
  · rename_i d h
    obtain ⟨v, e, r⟩ := R.sh h
    exact ⟨v, e, p v G H (Step.refl R.gh) r⟩
  · exact p.elim
theorem dr_v (i : Nat) {x : Str} (hN : X.N[i]? = some x := by rfl) (hv : Vis X.env.scope x := by first | exact Or.inl rfl | exact Or.inr (Or.inl rfl) | exact Or.inr (Or.inr rfl)) (hd : (x == ("__debug__" : Str)) = false := by decide)
    (hcd : (x == ("__classdict__" : Str)) = false := by decide) : DR X W (.Name x pos) (vR i) := by
  refine pe_mono (pe_var hN hv hd hcd) fun σ H Q ⟨G0, H0, G, ρ, R, p⟩ => ?_
  unfold vR at p
  split at p
  · rename_i d h
    obtain ⟨v, e, r⟩ := R.sh h
    exact ⟨v, e, p v G H (Step.refl R.gh) (.inl r)⟩
  · rename_i ds h
    obtain ⟨q, vs, e, _, _, hH, r⟩ := R.ow h
    exact ⟨_, e, p _ G H (Step.refl R.gh) (.inr ⟨q, vs, ds, rfl, rfl, hH, r⟩)⟩
  · exact p.elim
/-- stable is readable -/
theorem dr {e : Expr} {f : Ev → Rs D} (h : DE X W e f) : DR X W e f := pe_mono h fun σ H Q ⟨G0, H0, G, ρ, R, p⟩ =>
  tD_of R ((postR_iff.mp p).imp fun d k v G1 H1 s r => k v G1 H1 s (.inl r))
def frz (f : Ev → Rs (List D)) : Ev → Rs D := fun ρ => f ρ >>= fun ds => .ok (.list ds)
/-- a fresh list is made stable -/
theorem Step.freeze {G H G1 H1 : Hp} {a : Addr} {o : HO} (s : Step G H G1 H1) (n1 : H a = none) (n2 : G1 a = none) (h1 : H1 a = some o) : Step G H (upd G1 a o) H1 := by
  refine ⟨s.hh, s.gg.trans (same_upd n2), fun b x e => ?_, fun b x e => ?_⟩
  · by_cases hb : b = a
    · subst hb; rw [upd_same] at e; cases e; exact h1
    · rw [upd_ne hb] at e; exact s.gh _ _ e
  · by_cases hb : b = a
    · subst hb; exact .inr (.inl n1)
    · rw [upd_ne hb] at e; exact s.new _ _ e
/-- fresh becomes stable -/
theorem de_f {e : Expr} {f : Ev → Rs (List D)} (h : DF X W e f) : DE X W e (frz f) := pe_mono h fun σ H Q ⟨G0, H0, G, ρ, R, p⟩ =>
  tF_of R ((postD_iff.mp p).bind.imp fun ds k a vs G1 H1 s n1 n2 h1 r => k (.ref a) (upd G1 a (.lst vs)) H1 (s.freeze n1 n2 h1) (.lst upd_same (r.mono (same_upd n2))))
/-- fresh is readable -/
theorem dr_f {e : Expr} {f : Ev → Rs (List D)} (h : DF X W e f) : DR X W e (frz f) := pe_mono h fun σ H Q ⟨G0, H0, G, ρ, R, p⟩ =>
  tF_of R ((postR_iff.mp p).bind.imp fun ds k a vs G1 H1 s n1 n2 h1 r => k (.ref a) G1 H1 s (.inr ⟨a, vs, ds, rfl, rfl, h1, r⟩))

/-! ### operators -/
def lift {α : Type} : Option α → Rs α
  | some a => .ok a
  | none => .bad
/-- an operator by values, as a function of data -/
def OpS (X : Cx) (f : Value → Value → Sem Value) (g : D → D → Option D) : Prop :=
  ∃ r : R2, OpR X f r ∧ ∀ G H x y d1 d2 d Q, Same G H → RpR X.K G H x d1 → RpR X.K G H y d2 → g d1 d2 = some d → kD X.K Q G H d → r x y H Q
def OpFS (X : Cx) (f : Value → Value → Sem Value) (g : D → D → Option (List D)) : Prop :=
  ∃ r : R2, OpR X f r ∧ ∀ G H x y d1 d2 ds Q, Same G H → RpR X.K G H x d1 → RpR X.K G H y d2 → g d1 d2 = some ds → kF X.K Q G H ds → r x y H Q
def bin2 {α : Type} (g : D → D → Option α) (fa fb : Ev → Rs D) : Ev → Rs α := fun ρ => fa ρ >>= fun x => fb ρ >>= fun y => lift (g x y)
theorem liftG {α : Type} {K : PySem.W.Frag} {mg : Str → Option Value} {W : WX} {σ : L2.St} {G H : Hp} {o : Option α} {k : α → Prop} (p : PostG K mg W σ G H (lift o) k) : ∃ a, o = some a ∧ k a := by
  cases o with
  | none => exact p.elim
  | some a => exact ⟨a, rfl, p⟩
variable {a b : Expr} {fa fb : Ev → Rs D}
theorem de_op {op : Operator} {g : D → D → Option D} (ho : OpS X (binaryOp op) g) (ha : DR X W a fa) (hb : DR X W b fb) : DE X W (.BinOp a op b pos) (bin2 g fa fb) := by
  obtain ⟨r, h1, h2⟩ := ho
  refine pe_mono (pe_op h1 ha hb) fun σ H Q ⟨G0, H0, G, ρ, R, p⟩ => ?_
  refine bin_go (k := kD X.K Q) R (fun k s => kD.step k s) (postD_iff.mp p) fun x y G2 H2 d1 d2 s sm r1 r2 q => ?_
  obtain ⟨d, e, k⟩ := liftG q
  exact h2 G2 H2 x y d1 d2 d Q sm r1 r2 e k
theorem df_op {op : Operator} {g : D → D → Option (List D)} (ho : OpFS X (binaryOp op) g) (ha : DR X W a fa) (hb : DR X W b fb) : DF X W (.BinOp a op b pos) (bin2 g fa fb) := by
  obtain ⟨r, h1, h2⟩ := ho
  refine pe_mono (pe_op h1 ha hb) fun σ H Q ⟨G0, H0, G, ρ, R, p⟩ => ?_
  refine bin_go (k := kF X.K Q) R (fun k s => kF.step k s) (postF_iff.mp p) fun x y G2 H2 d1 d2 s sm r1 r2 q => ?_
  obtain ⟨d, e, k⟩ := liftG q
  exact h2 G2 H2 x y d1 d2 d Q sm r1 r2 e k
theorem de_cmp {op : CmpOp} {g : D → D → Option D} (ho : OpS X (compareOp op) g) (ha : DR X W a fa) (hb : DR X W b fb) (hm : behindInMarks op b = false := by rfl) : DE X W (.Compare a [op] [b] pos) (bin2 g fa fb) := by
  obtain ⟨r, h1, h2⟩ := ho
  refine pe_mono (pe_cmpR h1 ha hb hm) fun σ H Q ⟨G0, H0, G, ρ, R, p⟩ => ?_
  refine bin_go (k := kD X.K Q) R (fun k s => kD.step k s) (postD_iff.mp p) fun x y G2 H2 d1 d2 s sm r1 r2 q => ?_
  obtain ⟨d, e, k⟩ := liftG q
  exact h2 G2 H2 x y d1 d2 d Q sm r1 r2 e k
/-- a truth value -/
def asB : D → Option Bool
  | .bool b => some b
  | _ => none
def tst (f : Ev → Rs D) : Ev → Rs Bool := fun ρ => f ρ >>= fun d => lift (asB d)
theorem asB_some {d : D} {b : Bool} (h : asB d = some b) : d = .bool b := by
  cases d <;> simp_all [asB]
theorem dt_cmp {op : CmpOp} {g : D → D → Option D} (ho : OpS X (compareOp op) g) (ha : DR X W a fa) (hb : DR X W b fb) (hm : behindInMarks op b = false := by rfl) : DT X W (.Compare a [op] [b] pos) (tst (bin2 g fa fb)) := by
  obtain ⟨r, h1, h2⟩ := ho
  refine pt_mono (pt_cmpR h1 ha hb hm) fun σ H Q ⟨G0, H0, G, ρ, R, p⟩ => ?_
  have p1 := (postB_iff.mp p).bind
  refine bin_go (k := fun G H d => PostG X.K X.mg W σ G H (lift (asB d)) (kB Q G H)) R (fun q s => PostG.step q s fun b k => kB.step k s) p1 fun x y G2 H2 d1 d2 s sm r1 r2 q => ?_
  obtain ⟨d, e, q⟩ := liftG q
  obtain ⟨c, e2, k⟩ := liftG q
  have e3 := asB_some e2
  subst e3
  exact h2 G2 H2 x y d1 d2 _ _ sm r1 r2 e fun v G' H' s' r' => by
    cases r'
    exact ⟨c, rfl, k G' H' s'⟩
/-- an expression's value, as a test -/
theorem dt_v {e : Expr} {f : Ev → Rs D} (h : DE X W e f) (he : ∀ whole, isTrue e X.env whole = (do let v ← whole; standAt e.pos; holding [v] (truthy v)) := by intro _; rfl) : DT X W e (tst f) := by
  refine pt_mono (pt_val h he) fun σ H Q ⟨G0, H0, G, ρ, R, p⟩ => ?_
  refine tD_of R ((postB_iff.mp p).bind.imp fun d q v G1 H1 s r => ?_)
  obtain ⟨c, e2, k⟩ := liftG q
  have e3 := asB_some e2
  subst e3
  cases r
  exact ⟨c, rfl, k G1 H1 s⟩
/-! and, or, not -/
def andT (f g : Ev → Rs Bool) : Ev → Rs Bool := fun ρ => f ρ >>= fun c => if c = true then g ρ else .ok false
def orT (f g : Ev → Rs Bool) : Ev → Rs Bool := fun ρ => f ρ >>= fun c => if c = true then .ok true else g ρ
def notT (f : Ev → Rs Bool) : Ev → Rs Bool := fun ρ => f ρ >>= fun c => .ok (!c)
variable {rest : List Expr} {ta tb : Ev → Rs Bool}
theorem dw_and1 (ha : DT X W a ta) : DW X W (.BoolOp .And [a] pos) ta := pw_and1 ha
theorem dw_or1 (ha : DT X W a ta) : DW X W (.BoolOp .Or [a] pos) ta := pw_or1 ha
theorem dw_and (ha : DT X W a ta) (hb : DW X W (.BoolOp .And (b :: rest) pos) tb) : DW X W (.BoolOp .And (a :: b :: rest) pos) (andT ta tb) := by
  refine pw_mono (pw_and ha hb) fun σ H Q ⟨G0, H0, G, ρ, R, p⟩ => ?_
  refine tT_of R ((postB_iff.mp p).bind.imp fun c q G1 H1 s => ?_)
  cases c with
  | true => exact tT_of (R.step s) (PostG.step q s fun b k G2 H2 s2 => k G2 H2 (s.trans s2))
  | false => exact q G1 H1 s
theorem dw_or (ha : DT X W a ta) (hb : DW X W (.BoolOp .Or (b :: rest) pos) tb) : DW X W (.BoolOp .Or (a :: b :: rest) pos) (orT ta tb) := by
  refine pw_mono (pw_or ha hb) fun σ H Q ⟨G0, H0, G, ρ, R, p⟩ => ?_
  refine tT_of R ((postB_iff.mp p).bind.imp fun c q G1 H1 s => ?_)
  cases c with
  | false => exact tT_of (R.step s) (PostG.step q s fun b k G2 H2 s2 => k G2 H2 (s.trans s2))
  | true => exact q G1 H1 s
theorem dt_w {e : Expr} (h : DW X W e ta) : DT X W e ta := h.pt
theorem dt_not (ha : DT X W a ta) : DT X W (.UnaryOp .Not a pos) (notT ta) := by
  refine pt_mono (pt_not ha) fun σ H Q ⟨G0, H0, G, ρ, R, p⟩ => ?_
  exact tT_of R ((postB_iff.mp p).bind.imp fun c q G1 H1 s => q G1 H1 s)
/-- .. as values -/
def bv (f : Ev → Rs Bool) : Ev → Rs D := fun ρ => f ρ >>= fun c => .ok (.bool c)
theorem de_one {op} {f : Ev → Rs D} (h : DE X W a f) : DE X W (.BoolOp op [a] pos) f := pe_one h
def andV (f g : Ev → Rs D) : Ev → Rs D := fun ρ => tst f ρ >>= fun c => if c = true then g ρ else .ok (.bool false)
def orV (f g : Ev → Rs D) : Ev → Rs D := fun ρ => tst f ρ >>= fun c => if c = true then .ok (.bool true) else g ρ
def notV (f : Ev → Rs D) : Ev → Rs D := fun ρ => tst f ρ >>= fun c => .ok (.bool (!c))
theorem de_and (ha : DE X W a fa) (hb : DE X W (.BoolOp .And (b :: rest) pos) fb) : DE X W (.BoolOp .And (a :: b :: rest) pos) (andV fa fb) := by
  refine pe_mono (pe_and ha hb) fun σ H Q ⟨G0, H0, G, ρ, R, p⟩ => ?_
  refine tD_of R ((postD_iff.mp p).bind.bind.imp fun d q v G1 H1 s r => ?_)
  obtain ⟨c, e2, k⟩ := liftG q
  have e3 := asB_some e2
  subst e3
  cases r
  refine ⟨c, rfl, ?_⟩
  cases c with
  | true => exact tD_of (R.step s) (PostG.step k s fun b k v G2 H2 s2 r2 => k v G2 H2 (s.trans s2) r2)
  | false => exact k _ G1 H1 s (.bl false)
theorem de_or (ha : DE X W a fa) (hb : DE X W (.BoolOp .Or (b :: rest) pos) fb) : DE X W (.BoolOp .Or (a :: b :: rest) pos) (orV fa fb) := by
  refine pe_mono (pe_or ha hb) fun σ H Q ⟨G0, H0, G, ρ, R, p⟩ => ?_
  refine tD_of R ((postD_iff.mp p).bind.bind.imp fun d q v G1 H1 s r => ?_)
  obtain ⟨c, e2, k⟩ := liftG q
  have e3 := asB_some e2
  subst e3
  cases r
  refine ⟨c, rfl, ?_⟩
  cases c with
  | false => exact tD_of (R.step s) (PostG.step k s fun b k v G2 H2 s2 r2 => k v G2 H2 (s.trans s2) r2)
  | true => exact k _ G1 H1 s (.bl true)
theorem de_not (ha : DE X W a fa) : DE X W (.UnaryOp .Not a pos) (notV fa) := by
  refine pe_mono (pe_not ha) fun σ H Q ⟨G0, H0, G, ρ, R, p⟩ => ?_
  refine tD_of R ((postD_iff.mp p).bind.bind.imp fun d q v G1 H1 s r => ?_)
  obtain ⟨c, e2, k⟩ := liftG q
  have e3 := asB_some e2
  subst e3
  cases r
  exact ⟨c, rfl, k _ G1 H1 s (.bl _)⟩
/-- -a -/
def negO : D → Option D
  | .int i => some (.int (-i))
  | _ => none
def un1 (g : D → Option D) (fa : Ev → Rs D) : Ev → Rs D := fun ρ => fa ρ >>= fun x => lift (g x)
theorem de_neg (ha : DE X W a fa) : DE X W (.UnaryOp .USub a pos) (un1 negO fa) := by
  refine pe_mono (pe_un un_neg ha) fun σ H Q ⟨G0, H0, G, ρ, R, p⟩ => ?_
  refine tD_of R ((postD_iff.mp p).bind.imp fun d q v G1 H1 s r => ?_)
  obtain ⟨c, e2, k⟩ := liftG q
  cases d <;> simp only [negO, Option.some.injEq, reduceCtorEq] at e2
  subst e2
  cases r
  exact ⟨_, rfl, k _ G1 H1 s (.int _)⟩
/-- a < b < c -/
def chn (g h : D → D → Option D) (fa fb fc : Ev → Rs D) : Ev → Rs D := fun ρ => fa ρ >>= fun x => fb ρ >>= fun y => lift (g x y) >>= fun z => lift (asB z) >>= fun k => if k = true then (fc ρ >>= fun u => lift (h y u)) else .ok (.bool false)
end
end Pu

set_option Elab.async false
set_option linter.all false
set_option maxRecDepth 100000
set_option maxHeartbeats 4000000
/-! the pure layer, 3: operators, subscripts, displays, arguments, calls of built-ins -/
namespace Pu
open PySem PySem.Spec PyProof.Rows L2
section
variable {X : Cx} {W : WX} {pos : Pos} {a b c : Expr} {fa fb fc : Ev → Rs D}
/-! ### chains -/
theorem de_chain {op op' : CmpOp} {g h : D → D → Option D} (ho : OpS X (compareOp op) g) (ho' : OpS X (compareOp op') h) (ha : DR X W a fa) (hb : DR X W b fb) (hc : DR X W c fc) (hm : lastMarks [op, op'] [b, c] = false := by with_unfolding_all rfl) : DE X W (.Compare a [op, op'] [b, c] pos) (chn g h fa fb fc) := by
  obtain ⟨r, h1, h2⟩ := ho
  obtain ⟨r', h1', h2'⟩ := ho'
  refine pe_mono (pe_chain h1 h1' ha hb hc (hm := hm)) fun σ H Q ⟨G0, H0, G, ρ, R, p⟩ => ?_
  refine bin_go (k := kD X.K Q) R (fun k s => kD.step k s) (postD_iff.mp p) fun x y G2 H2 d1 d2 s sm r1 r2 q => ?_
  obtain ⟨z, e, q⟩ := liftG q.bind
  obtain ⟨k, e2, q⟩ := liftG q.bind
  have e3 := asB_some e2
  subst e3
  refine h2 G2 H2 x y d1 d2 _ _ sm r1 r2 e fun v G3 H3 s3 r3 => ?_
  cases r3
  refine ⟨k, rfl, ?_⟩
  cases k with
  | true =>
    have q' : PostG X.K X.mg W σ G2 H2 (fc ρ >>= fun u => lift (h d2 u)) (kD X.K Q G2 H2) := q
    refine tR_of (R.step (s.trans s3)) ((q'.bind.step s3 fun a h => h).imp fun d3 p3 u G4 H4 s4 r4 => ?_)
    obtain ⟨d, e5, k5⟩ := liftG p3
    exact h2' G4 H4 y u d2 d3 d Q s4.gh ((r2.step s3).step s4) r4 e5 (k5.step (s3.trans s4))
  | false =>
    have q' : kD X.K Q G2 H2 (.bool false) := q
    exact q' _ G3 H3 s3 (.bl false)
theorem dt_chain {op op' : CmpOp} {g h : D → D → Option D} (ho : OpS X (compareOp op) g) (ho' : OpS X (compareOp op') h) (ha : DR X W a fa) (hb : DR X W b fb) (hc : DR X W c fc) (hm : lastMarks [op, op'] [b, c] = false := by with_unfolding_all rfl) : DT X W (.Compare a [op, op'] [b, c] pos) (tst (chn g h fa fb fc)) := by
  obtain ⟨r, h1, h2⟩ := ho
  obtain ⟨r', h1', h2'⟩ := ho'
  refine pt_mono (pt_chain h1 h1' ha hb hc (hm := hm)) fun σ H Q ⟨G0, H0, G, ρ, R, p⟩ => ?_
  have p1 := (postB_iff.mp p).bind
  refine bin_go (k := fun G H d => PostG X.K X.mg W σ G H (lift (asB d)) (kB Q G H)) R (fun q s => PostG.step q s fun b k => kB.step k s) p1 fun x y G2 H2 d1 d2 s sm r1 r2 q => ?_
  obtain ⟨z, e, q⟩ := liftG q.bind
  obtain ⟨k, e2, q⟩ := liftG q.bind
  have e3 := asB_some e2
  subst e3
  refine h2 G2 H2 x y d1 d2 _ _ sm r1 r2 e fun v G3 H3 s3 r3 => ?_
  cases r3
  refine ⟨k, rfl, ?_⟩
  cases k with
  | true =>
    have q' : PostG X.K X.mg W σ G2 H2 (fc ρ >>= fun u => lift (h d2 u)) (fun d => PostG X.K X.mg W σ G2 H2 (lift (asB d)) (kB Q G2 H2)) := q
    refine tR_of (R.step (s.trans s3)) ((q'.bind.step s3 fun a h => h).imp fun d3 p3 u G4 H4 s4 r4 => ?_)
    obtain ⟨d, e5, k5⟩ := liftG p3
    obtain ⟨cc, e6, k6⟩ := liftG k5
    have e7 := asB_some e6
    subst e7
    refine h2' G4 H4 y u d2 d3 _ _ s4.gh ((r2.step s3).step s4) r4 e5 fun v G5 H5 s5 r5 => ?_
    cases r5
    exact ⟨cc, rfl, k6 G5 H5 ((s3.trans s4).trans s5)⟩
  | false =>
    have q' : PostG X.K X.mg W σ G2 H2 (lift (asB (.bool false))) (kB Q G2 H2) := q
    exact ⟨false, rfl, q' G3 H3 s3⟩

/-! ### the operators' functions -/
def addO : D → D → Option D
  | .int i, .int j => some (.int (i + j))
  | .list xs, .list ys => if xs.length + ys.length ≤ sizeLine then some (.list (xs ++ ys)) else none
  | .str x, .str y => if x.length + y.length ≤ sizeLine then some (.str (x ++ y)) else none
  | .tuple xs, .tuple ys => if xs.length + ys.length ≤ sizeLine ∧ xs ≠ [] ∧ ys ≠ [] then some (.tuple (xs ++ ys)) else none
  | _, _ => none
def catO : D → D → Option (List D)
  | .list xs, .list ys => if xs.length + ys.length ≤ sizeLine then some (xs ++ ys) else none
  | _, _ => none
def subO : D → D → Option D
  | .int i, .int j => some (.int (i - j))
  | _, _ => none
def mulO : D → D → Option D
  | .int i, .int j => if i.natAbs < 2 ^ 64 ∨ j.natAbs < 2 ^ 64 ∨ i.natAbs.log2 + j.natAbs.log2 < 1000000 then some (.int (i * j)) else none
  | _, _ => none
def repO : D → D → Option (List D)
  | .list xs, .int k => if -(2 ^ 63) ≤ k ∧ k < 2 ^ 63 ∧ xs.length * k.toNat ≤ sizeLine then some (List.replicate k.toNat xs).flatten else none
  | _, _ => none
def divO : D → D → Option D
  | .int i, .int j => if 0 < j ∧ j.natAbs.log2 < 9000 then some (.int (i / j)) else if j ≠ 0 ∧ j.natAbs < 1073741824 then some (.int (i.fdiv j)) else none
  | _, _ => none
def modO : D → D → Option D
  | .int i, .int j => if 0 < j then some (.int (i % j)) else if j ≠ 0 then some (.int (i.fmod j)) else none
  | _, _ => none
def powO : D → D → Option D
  | .int i, .int j => if 0 ≤ j ∧ j ≤ 1000000 ∧ i.natAbs < 2 ^ 64 then some (.int (i ^ j.toNat)) else none
  | _, _ => none
def ltO : D → D → Option D
  | .int i, .int j => some (.bool (decide (i < j)))
  | _, _ => none
def leO : D → D → Option D
  | .int i, .int j => some (.bool (decide (i ≤ j)))
  | _, _ => none
def gtO : D → D → Option D
  | .int i, .int j => some (.bool (decide (j < i)))
  | _, _ => none
def geO : D → D → Option D
  | .int i, .int j => some (.bool (decide (j ≤ i)))
  | _, _ => none
def eqO : D → D → Option D := fun d e => if SeqAt.shaped d = true ∧ SeqAt.shaped e = true then some (.bool (PyData.eqv d e)) else none
def neO : D → D → Option D := fun d e => if SeqAt.shaped d = true ∧ SeqAt.shaped e = true then some (.bool (!PyData.eqv d e)) else none
def isN : D → Bool
  | .none => true
  | _ => false
def isO : D → D → Option D := fun d e => if isN e = true then some (.bool (isN d)) else none
def isnotO : D → D → Option D := fun d e => if isN e = true then some (.bool (!isN d)) else none
def inO : D → D → Option D
  | d, .list ds => if SeqAt.shaped d = true ∧ SeqAt.shaped (.list ds) = true then some (.bool (ds.any fun z => PyData.eqv z d)) else none
  | _, _ => none
def notinO : D → D → Option D
  | d, .list ds => if SeqAt.shaped d = true ∧ SeqAt.shaped (.list ds) = true then some (.bool (!(ds.any fun z => PyData.eqv z d))) else none
  | _, _ => none
theorem opsI {f : Value → Value → Sem Value} {C : Int → Int → Prop} {g : Int → Int → Int} (h : OpR X f (rI C fun i j => .int (g i j))) : ∀ {G H x y i j Q}, RpR X.K G H x (.int i) → RpR X.K G H y (.int j) → Same G H → C i j → kD X.K Q G H (.int (g i j)) → (rI C fun i j => V.int (g i j)) x y H Q :=
  fun {G H x y i j Q} r1 r2 s hc k => ⟨i, j, r1.int, r2.int, hc, k _ G H (Step.refl s) (.int _)⟩
theorem os_add : OpS X (binaryOp .Add) addO := by
  refine ⟨_, op_add.or (op_cat.or (op_add_str.or op_catT)), fun G H x y d1 d2 d Q s r1 r2 e k => ?_⟩
  unfold addO at e
  split at e
  · cases e
    exact .inl ⟨_, _, r1.int, r2.int, k _ G H (Step.refl s) (.int _)⟩
  · split at e
    · cases e
      rename_i hl
      obtain ⟨p, vs, rfl, h1, k1⟩ := r1.lst s
      obtain ⟨q, us, rfl, h2, k2⟩ := r2.lst s
      refine .inr (.inl ⟨p, q, vs, us, rfl, rfl, h1, h2, by rw [k1.length, k2.length]; exact hl, fun z hz => ?_⟩)
      have S := Step.laid (o := .lst (vs ++ us)) s hz
      exact k _ _ _ S (.lst upd_same ((k1.append k2).mono S.gg))
    · cases e
  · split at e
    · cases e
      rename_i hl
      exact .inr (.inr (.inl ⟨_, _, r1.str, r2.str, hl, k _ G H (Step.refl s) (.str _)⟩))
    · cases e
  · split at e
    · cases e
      rename_i hl
      obtain ⟨p, vs, rfl, h1, k1⟩ := r1.tup s
      obtain ⟨q, us, rfl, h2, k2⟩ := r2.tup s
      refine .inr (.inr (.inr ⟨p, q, vs, us, rfl, rfl, h1, h2, fun z => ?_, by rw [k1.length, k2.length]; exact hl.1, fun z => ?_, fun _ z hz => ?_⟩))
      · subst z
        cases k1
        exact hl.2.1 rfl
      · subst z
        cases k2
        exact (hl.2.2 rfl).elim
      · have S := Step.laid (o := .tup (vs ++ us)) s hz
        exact k _ _ _ S (.tup (SqT.of upd_same) ((k1.append k2).mono S.gg))
    · cases e
  · cases e
theorem of_cat : OpFS X (binaryOp .Add) catO := by
  refine ⟨_, op_cat, fun G H x y d1 d2 d Q s r1 r2 e k => ?_⟩
  unfold catO at e
  split at e
  · split at e
    · cases e
      rename_i hl
      obtain ⟨p, vs, rfl, h1, k1⟩ := r1.lst s
      obtain ⟨q, us, rfl, h2, k2⟩ := r2.lst s
      refine ⟨p, q, vs, us, rfl, rfl, h1, h2, by rw [k1.length, k2.length]; exact hl, fun z hz => ?_⟩
      exact k z _ _ _ (Step.fresh s hz) hz (s.free hz) upd_same (k1.append k2)
    · cases e
  · cases e
theorem os_sub : OpS X (binaryOp .Sub) subO := by
  refine ⟨_, op_sub, fun G H x y d1 d2 d Q s r1 r2 e k => ?_⟩
  unfold subO at e
  split at e
  · cases e
    exact ⟨_, _, r1.int, r2.int, k _ G H (Step.refl s) (.int _)⟩
  · cases e
theorem bnd64 {i : Int} (h : i.natAbs < 2 ^ 64) : -(2 ^ 64) < i ∧ i < 2 ^ 64 := by omega
theorem os_mul : OpS X (binaryOp .Mult) mulO := by
  refine ⟨_, op_mul.or op_mulW, fun G H x y d1 d2 d Q s r1 r2 e k => ?_⟩
  unfold mulO at e
  split at e
  · split at e
    · cases e
      rename_i hl
      rcases hl with hl | hl | hl
      · exact .inl ⟨_, _, r1.int, r2.int, .inl (bnd64 hl), k _ G H (Step.refl s) (.int _)⟩
      · exact .inl ⟨_, _, r1.int, r2.int, .inr (bnd64 hl), k _ G H (Step.refl s) (.int _)⟩
      · exact .inr ⟨_, _, r1.int, r2.int, hl, k _ G H (Step.refl s) (.int _)⟩
    · cases e
  · cases e
theorem of_rep : OpFS X (binaryOp .Mult) repO := by
  refine ⟨_, op_rep, fun G H x y d1 d2 d Q s r1 r2 e k => ?_⟩
  unfold repO at e
  split at e
  · split at e
    · cases e
      rename_i hl
      obtain ⟨p, vs, rfl, h1, k1⟩ := r1.lst s
      refine ⟨p, _, vs, rfl, r2.int, h1, hl.1, hl.2.1, by rw [k1.length]; exact hl.2.2, fun z hz => ?_⟩
      exact k z _ _ _ (Step.fresh s hz) hz (s.free hz) upd_same (k1.rep _)
    · cases e
  · cases e
theorem os_div : OpS X (binaryOp .FloorDiv) divO := by
  refine ⟨_, op_fdivW.or op_fdivN, fun G H x y d1 d2 d Q s r1 r2 e k => ?_⟩
  unfold divO at e
  split at e
  · split at e
    · cases e
      rename_i hl
      exact .inl ⟨_, _, r1.int, r2.int, hl, k _ G H (Step.refl s) (.int _)⟩
    · split at e
      · cases e
        rename_i hl
        exact .inr ⟨_, _, r1.int, r2.int, hl, k _ G H (Step.refl s) (.int _)⟩
      · cases e
  · cases e
theorem os_mod : OpS X (binaryOp .Mod) modO := by
  refine ⟨_, op_mod.or op_modN, fun G H x y d1 d2 d Q s r1 r2 e k => ?_⟩
  unfold modO at e
  split at e
  · split at e
    · cases e
      rename_i hl
      exact .inl ⟨_, _, r1.int, r2.int, hl, k _ G H (Step.refl s) (.int _)⟩
    · split at e
      · cases e
        rename_i hl
        exact .inr ⟨_, _, r1.int, r2.int, hl, k _ G H (Step.refl s) (.int _)⟩
      · cases e
  · cases e
theorem os_pow : OpS X (binaryOp .Pow) powO := by
  refine ⟨_, op_pow, fun G H x y d1 d2 d Q s r1 r2 e k => ?_⟩
  unfold powO at e
  split at e
  · split at e
    · cases e
      rename_i hl
      exact ⟨_, _, r1.int, r2.int, hl, k _ G H (Step.refl s) (.int _)⟩
    · cases e
  · cases e
theorem os_lt : OpS X (compareOp .Lt) ltO := by
  refine ⟨_, op_lt, fun G H x y d1 d2 d Q s r1 r2 e k => ?_⟩
  unfold ltO at e
  split at e
  · cases e
    exact ⟨_, _, r1.int, r2.int, k _ G H (Step.refl s) (.bl _)⟩
  · cases e
theorem os_le : OpS X (compareOp .LtE) leO := by
  refine ⟨_, op_le, fun G H x y d1 d2 d Q s r1 r2 e k => ?_⟩
  unfold leO at e
  split at e
  · cases e
    exact ⟨_, _, r1.int, r2.int, k _ G H (Step.refl s) (.bl _)⟩
  · cases e
theorem os_gt : OpS X (compareOp .Gt) gtO := by
  refine ⟨_, op_gt, fun G H x y d1 d2 d Q s r1 r2 e k => ?_⟩
  unfold gtO at e
  split at e
  · cases e
    exact ⟨_, _, r1.int, r2.int, k _ G H (Step.refl s) (.bl _)⟩
  · cases e
theorem os_ge : OpS X (compareOp .GtE) geO := by
  refine ⟨_, op_ge, fun G H x y d1 d2 d Q s r1 r2 e k => ?_⟩
  unfold geO at e
  split at e
  · cases e
    exact ⟨_, _, r1.int, r2.int, k _ G H (Step.refl s) (.bl _)⟩
  · cases e
theorem os_eq {j : Nat} (hr : Room j X.A) : OpS X (compareOp .Eq) eqO := by
  refine ⟨_, op_eqD hr.units, fun G H x y d1 d2 d Q s r1 r2 e k => ?_⟩
  unfold eqO at e
  split at e
  · cases e
    rename_i hl
    exact ⟨_, _, (r1.rp s).dp, (r2.rp s).dp, hl.1, hl.2, k _ G H (Step.refl s) (.bl _)⟩
  · cases e
theorem os_ne {j : Nat} (hr : Room j X.A) : OpS X (compareOp .NotEq) neO := by
  refine ⟨_, op_neD hr.units, fun G H x y d1 d2 d Q s r1 r2 e k => ?_⟩
  unfold neO at e
  split at e
  · cases e
    rename_i hl
    exact ⟨_, _, (r1.rp s).dp, (r2.rp s).dp, hl.1, hl.2, k _ G H (Step.refl s) (.bl _)⟩
  · cases e
theorem isN_iff {d : D} : isN d = true → d = .none := by
  cases d <;> simp [isN]
theorem isN_dec {K : PySem.W.Frag} {G H : Hp} {v : V} {d : D} (r : RpR K G H v d) : decide (v = .non) = isN d := by
  rcases r with r | ⟨p, vs, ds, rfl, rfl, _, _⟩
  · cases r <;> simp [isN]
  · simp [isN]
theorem os_is : OpS X (compareOp .Is) isO := by
  refine ⟨_, op_isN, fun G H x y d1 d2 d Q s r1 r2 e k => ?_⟩
  unfold isO at e
  split at e
  · cases e
    rename_i hl
    have e2 := isN_iff hl
    subst e2
    refine ⟨r2.non, ?_⟩
    rw [isN_dec r1]
    exact k _ G H (Step.refl s) (.bl _)
  · cases e
theorem os_isnot : OpS X (compareOp .IsNot) isnotO := by
  refine ⟨_, op_notN, fun G H x y d1 d2 d Q s r1 r2 e k => ?_⟩
  unfold isnotO at e
  split at e
  · cases e
    rename_i hl
    have e2 := isN_iff hl
    subst e2
    refine ⟨r2.non, ?_⟩
    rw [isN_dec r1]
    exact k _ G H (Step.refl s) (.bl _)
  · cases e
theorem un65 {A : Around} {j : Nat} (hr : Room j A) : A.units + 65 < cLine := by have := hr.un; omega
theorem os_in {j : Nat} (hr : Room j X.A) : OpS X (compareOp .In) inO := by
  refine ⟨_, op_inD (un65 hr), fun G H x y d1 d2 d Q s r1 r2 e k => ?_⟩
  cases d2 <;> simp only [inO, reduceCtorEq] at e
  split at e
  · cases e
    rename_i hl
    exact ⟨_, _, (r1.rp s).dp, (r2.rp s).dp, hl.1, hl.2, k _ G H (Step.refl s) (.bl _)⟩
  · cases e
theorem os_notin {j : Nat} (hr : Room j X.A) : OpS X (compareOp .NotIn) notinO := by
  refine ⟨_, op_notInD (un65 hr), fun G H x y d1 d2 d Q s r1 r2 e k => ?_⟩
  cases d2 <;> simp only [notinO, reduceCtorEq] at e
  split at e
  · cases e
    rename_i hl
    exact ⟨_, _, (r1.rp s).dp, (r2.rp s).dp, hl.1, hl.2, k _ G H (Step.refl s) (.bl _)⟩
  · cases e

/-! ### subscripts -/
def ixO : D → D → Option D
  | .list xs, .int i => atI xs i
  | .tuple xs, .int i => atI xs i
  | _, _ => none
theorem atI_len {α β : Type} {xs : List α} {ys : List β} {i : Int} {v : β} (hl : xs.length = ys.length) (h : atI ys i = some v) : ∃ j, ixN xs.length i = some j ∧ ys[j]? = some v := by
  unfold atI at h
  rw [← hl] at h
  cases q : ixN xs.length i with
  | none => rw [q] at h; cases h
  | some j => rw [q] at h; exact ⟨j, rfl, h⟩
theorem atI_rp {K : PySem.W.Frag} {G : Hp} {xs : List V} {ds : List D} {i : Int} {d : D} (r : RpAll K G xs ds) (h : atI ds i = some d) : ∃ v, atI xs i = some v ∧ Rp K G v d := by
  obtain ⟨j, e, g⟩ := atI_len r.length h
  obtain ⟨v, g2, r2⟩ := r.get g
  refine ⟨v, ?_, r2⟩
  unfold atI
  rw [e]
  exact g2
theorem de_ix (ha : DR X W a fa) (hb : DR X W b fb) (hs : PlainIx b := by exact fun _ _ => rfl) : DE X W (.Subscript a b pos) (bin2 ixO fa fb) := by
  refine pe_mono (pe_ix (ix_list.or ix_tup) ha hb hs) fun σ H Q ⟨G0, H0, G, ρ, R, p⟩ => ?_
  refine bin_go (k := kD X.K Q) R (fun k s => kD.step k s) (postD_iff.mp p) fun x y G2 H2 d1 d2 s sm r1 r2 q => ?_
  obtain ⟨d, e, k⟩ := liftG q
  unfold ixO at e
  split at e
  · obtain ⟨p, vs, rfl, h1, k1⟩ := r1.lst sm
    obtain ⟨v, e2, r⟩ := atI_rp k1 e
    exact .inl ⟨p, vs, _, v, rfl, r2.int, SqL.of h1, e2, k v G2 H2 (Step.refl sm) r⟩
  · obtain ⟨p, vs, rfl, h1, k1⟩ := r1.tup sm
    obtain ⟨v, e2, r⟩ := atI_rp k1 e
    exact .inr ⟨p, vs, _, v, rfl, r2.int, h1, e2, k v G2 H2 (Step.refl sm) r⟩
  · cases e

/-! ### parts of slices -/
def kO (Q : Option Int → Hp → Prop) (G H : Hp) (o : Option Int) : Prop := ∀ G' H', Step G H G' H' → Q o H'
def tO (K : PySem.W.Frag) (w : World) (mg : Str → Option Value) (W : WX) (f : Ev → Rs (Option Int)) : TO := fun σ H Q => ∃ G0 H0 G ρ, Rel K w G0 H0 G H σ ρ ∧ PostG K mg W σ G H (f ρ) (kO Q G H)
abbrev DO (X : Cx) (W : WX) (e : Option Expr) (f : Ev → Rs (Option Int)) : Prop := PO X e (tO X.K X.w X.mg W f)
theorem po_mono {e : Option Expr} {t t' : TO} (h : PO X e t) (m : ∀ σ H Q, t' σ H Q → t σ H Q) : PO X e t' := ⟨fun pins s σ H Q I q => h.run pins s σ H Q I (m σ H Q q)⟩
def asI : D → Option (Option Int)
  | .int i => some (some i)
  | _ => none
def noPart : Ev → Rs (Option Int) := fun _ => .ok none
def part (f : Ev → Rs D) : Ev → Rs (Option Int) := fun ρ => f ρ >>= fun d => lift (asI d)
theorem do_none : DO X W none noPart := po_mono po_none fun σ H Q ⟨G0, H0, G, ρ, R, p⟩ => p G H (Step.refl R.gh)
theorem do_some (ha : DR X W a fa) : DO X W (some a) (part fa) := by
  refine po_mono (po_some ha) fun σ H Q ⟨G0, H0, G, ρ, R, p⟩ => ?_
  refine tR_of R (p.bind.imp fun d q v G1 H1 s r => ?_)
  obtain ⟨o, e, k⟩ := liftG q
  cases d <;> simp only [asI, reduceCtorEq, Option.some.injEq] at e
  subst e
  exact ⟨_, r.int, k G1 H1 s⟩
def cutL {α : Type} (xs : List α) (lo hi : Option Int) : List α := (xs.drop (HT.sIx xs.length 0 lo)).take (HT.sIx xs.length xs.length hi - HT.sIx xs.length 0 lo)
theorem cut_rp {K : PySem.W.Frag} {G : Hp} {xs : List V} {ds : List D} (r : RpAll K G xs ds) (lo hi : Option Int) : RpAll K G (cutV xs lo hi) (cutL ds lo hi) := by
  unfold cutV cutL
  rw [r.length]
  exact (r.drop _).take _
def slO : D → Option Int → Option Int → Option (List D)
  | .list xs, lo, hi => some (cutL xs lo hi)
  | _, _, _ => none
def sl3 {α : Type} (g : D → Option Int → Option Int → Option α) (fa : Ev → Rs D) (fl fh : Ev → Rs (Option Int)) : Ev → Rs α := fun ρ => fa ρ >>= fun x => fl ρ >>= fun l => fh ρ >>= fun h => lift (g x l h)
theorem df_slice {lo hi : Option Expr} {fl fh : Ev → Rs (Option Int)} {p2 : Pos} (ha : DR X W a fa) (hl : DO X W lo fl) (hh : DO X W hi fh) : DF X W (.Subscript a (.Slice lo hi none p2) pos) (sl3 slO fa fl fh) := by
  refine pe_mono (pe_slice sl_list ha hl hh) fun σ H Q ⟨G0, H0, G, ρ, R, p⟩ => ?_
  refine tR_of R ((postF_iff.mp p).bind.imp fun d p1 v G1 H1 s1 r1 => ?_)
  refine ⟨G0, H0, G1, ρ, R.step s1, (p1.bind.step s1 fun a h => h).imp fun l p2 G2 H2 s2 => ?_⟩
  refine ⟨G0, H0, G2, ρ, (R.step s1).step s2, (p2.bind.step (s1.trans s2) fun a h => h).imp fun h p3 G3 H3 s3 => ?_⟩
  obtain ⟨ds, e, k⟩ := liftG p3
  cases d <;> simp only [slO, reduceCtorEq, Option.some.injEq] at e
  subst e
  obtain ⟨q, vs, rfl, h1, k1⟩ := ((r1.step s2).step s3).lst s3.gh
  refine ⟨q, vs, rfl, SqL.of h1, fun z hz => ?_⟩
  have S := (s1.trans (s2.trans s3))
  exact k z _ _ _ (S.trans (Step.fresh s3.gh hz)) (S.hh.free hz) (s3.gh.free hz) upd_same (cut_rp k1 l h)

/-! ### arguments, displays -/
inductive RpRA (K : PySem.W.Frag) (G H : Hp) : List V → List D → Prop
  | nil : RpRA K G H [] []
  | cons {v : V} {vs : List V} {d : D} {ds : List D} : RpR K G H v d → RpRA K G H vs ds → RpRA K G H (v :: vs) (d :: ds)
theorem RpRA.step {K : PySem.W.Frag} {G H G1 H1 : Hp} : ∀ {vs : List V} {ds : List D}, RpRA K G H vs ds → Step G H G1 H1 → RpRA K G1 H1 vs ds
  | _, _, .nil, _ => .nil
  | _, _, .cons h k, s => .cons (h.step s) (RpRA.step k s)
theorem RpRA.of {K : PySem.W.Frag} {G H : Hp} : ∀ {vs : List V} {ds : List D}, RpAll K G vs ds → RpRA K G H vs ds
  | _, _, .nil => .nil
  | _, _, .cons h k => .cons (.inl h) (RpRA.of k)
theorem RpRA.rp {K : PySem.W.Frag} {G H : Hp} (s : Same G H) : ∀ {vs : List V} {ds : List D}, RpRA K G H vs ds → RpAll K H vs ds
  | _, _, .nil => .nil
  | _, _, .cons h k => .cons (h.rp s) (RpRA.rp s k)
def kA (K : PySem.W.Frag) (Q : List V → Hp → Prop) (G H : Hp) (ds : List D) : Prop := ∀ vs G' H', Step G H G' H' → RpAll K G' vs ds → Q vs H'
def kAR (K : PySem.W.Frag) (Q : List V → Hp → Prop) (G H : Hp) (ds : List D) : Prop := ∀ vs G' H', Step G H G' H' → RpRA K G' H' vs ds → Q vs H'
def tA (K : PySem.W.Frag) (w : World) (mg : Str → Option Value) (W : WX) (f : Ev → Rs (List D)) : TA := fun σ H Q => ∃ G0 H0 G ρ, Rel K w G0 H0 G H σ ρ ∧ PostG K mg W σ G H (f ρ) (kA K Q G H)
def tAR (K : PySem.W.Frag) (w : World) (mg : Str → Option Value) (W : WX) (f : Ev → Rs (List D)) : TA := fun σ H Q => ∃ G0 H0 G ρ, Rel K w G0 H0 G H σ ρ ∧ PostG K mg W σ G H (f ρ) (kAR K Q G H)
abbrev DA (X : Cx) (W : WX) (es : List Expr) (f : Ev → Rs (List D)) : Prop := PA X es (tA X.K X.w X.mg W f)
abbrev DAR (X : Cx) (W : WX) (es : List Expr) (f : Ev → Rs (List D)) : Prop := PA X es (tAR X.K X.w X.mg W f)
theorem pa_mono {es : List Expr} {t t' : TA} (h : PA X es t) (m : ∀ σ H Q, t' σ H Q → t σ H Q) : PA X es t' := ⟨fun ps pins s σ H Q I q => h.run ps pins s σ H Q I (m σ H Q q)⟩
def aNil : Ev → Rs (List D) := fun _ => .ok []
def aCons (f : Ev → Rs D) (g : Ev → Rs (List D)) : Ev → Rs (List D) := fun ρ => f ρ >>= fun d => g ρ >>= fun ds => .ok (d :: ds)
variable {es : List Expr} {fs : Ev → Rs (List D)}
theorem da_nil : DA X W [] aNil := pa_mono pa_nil fun σ H Q ⟨G0, H0, G, ρ, R, p⟩ => p [] G H (Step.refl R.gh) .nil
theorem da_cons (ha : DE X W a fa) (hr : DA X W es fs) (hs : starEach (a :: es) X.env = (false, eval a X.env) :: starEach es X.env := by rfl) : DA X W (a :: es) (aCons fa fs) := by
  refine pa_mono (pa_cons ha hr hs) fun σ H Q ⟨G0, H0, G, ρ, R, p⟩ => ?_
  refine tD_of R (p.bind.imp fun d p1 v G1 H1 s1 r1 => ?_)
  refine ⟨G0, H0, G1, ρ, R.step s1, (p1.bind.step s1 fun a h => h).imp fun ds p2 vs G2 H2 s2 r2 => ?_⟩
  exact p2 _ G2 H2 (s1.trans s2) (.cons (r1.mono s2.gg) r2)
theorem dar_nil : DAR X W [] aNil := pa_mono pa_nil fun σ H Q ⟨G0, H0, G, ρ, R, p⟩ => p [] G H (Step.refl R.gh) .nil
theorem dar_cons (ha : DR X W a fa) (hr : DAR X W es fs) (hs : starEach (a :: es) X.env = (false, eval a X.env) :: starEach es X.env := by rfl) : DAR X W (a :: es) (aCons fa fs) := by
  refine pa_mono (pa_cons ha hr hs) fun σ H Q ⟨G0, H0, G, ρ, R, p⟩ => ?_
  refine tR_of R (p.bind.imp fun d p1 v G1 H1 s1 r1 => ?_)
  refine ⟨G0, H0, G1, ρ, R.step s1, (p1.bind.step s1 fun a h => h).imp fun ds p2 vs G2 H2 s2 r2 => ?_⟩
  exact p2 _ G2 H2 (s1.trans s2) (.cons (r1.step s2) r2)
def small (ds : List D) : Option (List D) := if ds.length ≤ sizeLine then some ds else none
def tupE (f : Ev → Rs (List D)) : Ev → Rs D := fun ρ => f ρ >>= fun ds => lift (small ds) >>= fun ds => .ok (.tuple ds)
def lstE (f : Ev → Rs (List D)) : Ev → Rs (List D) := fun ρ => f ρ >>= fun ds => lift (small ds)
theorem de_tup {k} (h : DA X W es fs) : DE X W (.Tuple es k pos) (tupE fs) := by
  refine pe_mono (pe_tup h) fun σ H Q ⟨G0, H0, G, ρ, R, p⟩ => ?_
  refine ⟨G0, H0, G, ρ, R, (postD_iff.mp p).bind.imp fun ds p1 vs G1 H1 s r => ?_⟩
  obtain ⟨ds', e, k⟩ := liftG p1.bind
  unfold small at e
  split at e
  · cases e
    rename_i hl
    refine ⟨by rw [r.length]; exact hl, fun z hz => ?_⟩
    have S := Step.laid (o := .tup vs) s.gh hz
    exact k _ _ _ (s.trans S) (.tup (SqT.of upd_same) (r.mono S.gg))
  · cases e
theorem df_lst (h : DA X W es fs) : DF X W (.List es pos) (lstE fs) := by
  refine pe_mono (pe_lst h) fun σ H Q ⟨G0, H0, G, ρ, R, p⟩ => ?_
  refine ⟨G0, H0, G, ρ, R, (postF_iff.mp p).bind.imp fun ds p1 vs G1 H1 s r => ?_⟩
  obtain ⟨ds', e, k⟩ := liftG p1
  unfold small at e
  split at e
  · cases e
    rename_i hl
    refine ⟨by rw [r.length]; exact hl, fun z hz => ?_⟩
    exact k z _ _ _ (s.trans (Step.fresh s.gh hz)) (s.hh.free hz) (s.gh.free hz) upd_same r
  · cases e
end
end Pu

set_option Elab.async false
set_option linter.all false
set_option maxRecDepth 100000
set_option maxHeartbeats 4000000
/-! the pure layer, 4: calls of built-ins and of own defs -/
namespace Pu
open PySem PySem.Spec PyProof.Rows L2

/-! ### built-ins -/
def CallS (X : Cx) (v : Value) (g : List D → Option D) : Prop :=
  ∃ r, CallR X v r ∧ ∀ G H vs ds d Q, Same G H → RpRA X.K G H vs ds → g ds = some d → kD X.K Q G H d → r vs H Q
def CallFS (X : Cx) (v : Value) (g : List D → Option (List D)) : Prop :=
  ∃ r, CallR X v r ∧ ∀ G H vs ds d Q, Same G H → RpRA X.K G H vs ds → g ds = some d → kF X.K Q G H d → r vs H Q
def cal {α : Type} (g : List D → Option α) (fs : Ev → Rs (List D)) : Ev → Rs α := fun ρ => fs ρ >>= fun ds => lift (g ds)
section
variable {X : Cx} {W : WX} {pos p : Pos} {e : Expr} {es : List Expr} {fs : Ev → Rs (List D)} {x : Str} {id T : String}
theorem de_blt {g : List D → Option D} (hc : CallS X (.builtin id) g) (hm : X.mg x = none) (hv : bootBuiltins x = some (.builtin id)) (ha : DAR X W (e :: es) fs) (hg : Gl X x := by rfl) (hn : x ≠ "__name__" := by decide) (hdb : (x == ("__debug__" : Str)) = false := by decide)
    (hs : starEach (e :: es) X.env = (false, eval e X.env) :: starEach es X.env := by rfl) (hpl : (backTo pos (starEach es X.env)).any (·.1) = false := by rfl) : DE X W (.Call (.Name x p) (e :: es) [] pos) (cal g fs) := by
  obtain ⟨r, h1, h2⟩ := hc
  refine pe_mono (pe_callB h1 hg hm hv ha hn hdb hs hpl) fun σ H Q ⟨G0, H0, G, ρ, R, q⟩ => ?_
  refine ⟨G0, H0, G, ρ, R, (postD_iff.mp q).bind.imp fun ds p1 vs G1 H1 s r1 => ?_⟩
  obtain ⟨d, e2, k⟩ := liftG p1
  exact h2 G1 H1 vs ds d Q s.gh r1 e2 (k.step s)
theorem df_blt {g : List D → Option (List D)} (hc : CallFS X (.builtin id) g) (hm : X.mg x = none) (hv : bootBuiltins x = some (.builtin id)) (ha : DAR X W (e :: es) fs) (hg : Gl X x := by rfl) (hn : x ≠ "__name__" := by decide) (hdb : (x == ("__debug__" : Str)) = false := by decide)
    (hs : starEach (e :: es) X.env = (false, eval e X.env) :: starEach es X.env := by rfl) (hpl : (backTo pos (starEach es X.env)).any (·.1) = false := by rfl) : DF X W (.Call (.Name x p) (e :: es) [] pos) (cal g fs) := by
  obtain ⟨r, h1, h2⟩ := hc
  refine pe_mono (pe_callB h1 hg hm hv ha hn hdb hs hpl) fun σ H Q ⟨G0, H0, G, ρ, R, q⟩ => ?_
  refine ⟨G0, H0, G, ρ, R, (postF_iff.mp q).bind.imp fun ds p1 vs G1 H1 s r1 => ?_⟩
  obtain ⟨d, e2, k⟩ := liftG p1
  exact h2 G1 H1 vs ds d Q s.gh r1 e2 (k.step s)
theorem de_bty {g : List D → Option D} (hc : CallS X (.type T) g) (hm : X.mg x = none) (hv : bootBuiltins x = some (.type T)) (ha : DAR X W (e :: es) fs) (hg : Gl X x := by rfl) (hn : x ≠ "__name__" := by decide) (hdb : (x == ("__debug__" : Str)) = false := by decide)
    (hs : starEach (e :: es) X.env = (false, eval e X.env) :: starEach es X.env := by rfl) (hpl : (backTo pos (starEach es X.env)).any (·.1) = false := by rfl) : DE X W (.Call (.Name x p) (e :: es) [] pos) (cal g fs) := by
  obtain ⟨r, h1, h2⟩ := hc
  refine pe_mono (pe_callTy h1 hg hm hv ha hn hdb hs hpl) fun σ H Q ⟨G0, H0, G, ρ, R, q⟩ => ?_
  refine ⟨G0, H0, G, ρ, R, (postD_iff.mp q).bind.imp fun ds p1 vs G1 H1 s r1 => ?_⟩
  obtain ⟨d, e2, k⟩ := liftG p1
  exact h2 G1 H1 vs ds d Q s.gh r1 e2 (k.step s)
theorem df_bty {g : List D → Option (List D)} (hc : CallFS X (.type T) g) (hm : X.mg x = none) (hv : bootBuiltins x = some (.type T)) (ha : DAR X W (e :: es) fs) (hg : Gl X x := by rfl) (hn : x ≠ "__name__" := by decide) (hdb : (x == ("__debug__" : Str)) = false := by decide)
    (hs : starEach (e :: es) X.env = (false, eval e X.env) :: starEach es X.env := by rfl) (hpl : (backTo pos (starEach es X.env)).any (·.1) = false := by rfl) : DF X W (.Call (.Name x p) (e :: es) [] pos) (cal g fs) := by
  obtain ⟨r, h1, h2⟩ := hc
  refine pe_mono (pe_callTy h1 hg hm hv ha hn hdb hs hpl) fun σ H Q ⟨G0, H0, G, ρ, R, q⟩ => ?_
  refine ⟨G0, H0, G, ρ, R, (postF_iff.mp q).bind.imp fun ds p1 vs G1 H1 s r1 => ?_⟩
  obtain ⟨d, e2, k⟩ := liftG p1
  exact h2 G1 H1 vs ds d Q s.gh r1 e2 (k.step s)

theorem RpRA.one {K : PySem.W.Frag} {G H : Hp} {vs : List V} {d : D} (r : RpRA K G H vs [d]) : ∃ v, vs = [v] ∧ RpR K G H v d := by
  cases r with
  | cons h k => cases k; exact ⟨_, rfl, h⟩
theorem RpRA.two {K : PySem.W.Frag} {G H : Hp} {vs : List V} {d e : D} (r : RpRA K G H vs [d, e]) : ∃ v u, vs = [v, u] ∧ RpR K G H v d ∧ RpR K G H u e := by
  cases r with
  | cons h k => cases k with | cons h2 k2 => cases k2; exact ⟨_, _, rfl, h, h2⟩
def lenO : List D → Option D
  | [.list xs] => some (.int xs.length)
  | [.tuple xs] => some (.int xs.length)
  | [.str x] => if x.length ≤ sizeLine then some (.int x.length) else none
  | _ => none
theorem cs_len : CallS X (.builtin "len") lenO := by
  refine ⟨_, call_len_seq.or call_len_str, fun G H vs ds d Q s r e k => ?_⟩
  unfold lenO at e
  split at e
  · cases e
    obtain ⟨v, rfl, r1⟩ := r.one
    obtain ⟨p, us, rfl, h, k1⟩ := r1.lst s
    refine .inl ⟨p, us, rfl, .inl (SqL.of h), ?_⟩
    rw [k1.length]
    exact k _ G H (Step.refl s) (.int _)
  · cases e
    obtain ⟨v, rfl, r1⟩ := r.one
    obtain ⟨p, us, rfl, h, k1⟩ := r1.tup s
    refine .inl ⟨p, us, rfl, .inr h, ?_⟩
    rw [k1.length]
    exact k _ G H (Step.refl s) (.int _)
  · split at e
    · cases e
      rename_i hl
      obtain ⟨v, rfl, r1⟩ := r.one
      have e1 := r1.str
      subst e1
      exact .inr ⟨_, rfl, hl, k _ G H (Step.refl s) (.int _)⟩
    · cases e
  · cases e
def absO : List D → Option D
  | [.int i] => some (.int (if i < 0 then -i else i))
  | _ => none
theorem cs_abs : CallS X (.builtin "abs") absO := by
  refine ⟨_, call_abs, fun G H vs ds d Q s r e k => ?_⟩
  unfold absO at e
  split at e
  · cases e
    obtain ⟨v, rfl, r1⟩ := r.one
    have e1 := r1.int
    subst e1
    exact ⟨_, rfl, k _ G H (Step.refl s) (.int _)⟩
  · cases e
def max2O : List D → Option D
  | [.int i, .int j] => some (.int (if j > i then j else i))
  | _ => none
theorem cs_max2 (hc : X.calm = true) : CallS X (.builtin "max") max2O := by
  refine ⟨_, call_max2 hc, fun G H vs ds d Q s r e k => ?_⟩
  unfold max2O at e
  split at e
  · cases e
    obtain ⟨v, u, rfl, r1, r2⟩ := r.two
    have e1 := r1.int
    have e2 := r2.int
    subst e1 e2
    exact ⟨_, _, rfl, k _ G H (Step.refl s) (.int _)⟩
  · cases e
def min2O : List D → Option D
  | [.int i, .int j] => some (.int (if j < i then j else i))
  | _ => none
theorem cs_min2 (hc : X.calm = true) : CallS X (.builtin "min") min2O := by
  refine ⟨_, call_min2 hc, fun G H vs ds d Q s r e k => ?_⟩
  unfold min2O at e
  split at e
  · cases e
    obtain ⟨v, u, rfl, r1, r2⟩ := r.two
    have e1 := r1.int
    have e2 := r2.int
    subst e1 e2
    exact ⟨_, _, rfl, k _ G H (Step.refl s) (.int _)⟩
  · cases e
def intO : List D → Option D
  | [.int i] => some (.int i)
  | [.bool b] => some (.int (if b then 1 else 0))
  | _ => none
theorem cs_int : CallS X (.type "int") intO := by
  refine ⟨_, call_int1, fun G H vs ds d Q s r e k => ?_⟩
  unfold intO at e
  split at e
  · cases e
    obtain ⟨v, rfl, r1⟩ := r.one
    have e1 := r1.int
    subst e1
    exact .inl ⟨_, rfl, k _ G H (Step.refl s) (.int _)⟩
  · cases e
    obtain ⟨v, rfl, r1⟩ := r.one
    have e1 := r1.bl
    subst e1
    exact .inr ⟨_, rfl, k _ G H (Step.refl s) (.int _)⟩
  · cases e
def listO : List D → Option (List D)
  | [.list xs] => some xs
  | [.tuple xs] => some xs
  | _ => none
theorem cf_list : CallFS X (.type "list") listO := by
  refine ⟨_, call_list_of, fun G H vs ds d Q s r e k => ?_⟩
  unfold listO at e
  split at e
  · cases e
    obtain ⟨v, rfl, r1⟩ := r.one
    obtain ⟨p, us, rfl, h, k1⟩ := r1.lst s
    exact ⟨p, us, rfl, .inl (SqL.of h), fun l hl => k l us _ _ (Step.fresh s hl) hl (s.free hl) upd_same k1⟩
  · cases e
    obtain ⟨v, rfl, r1⟩ := r.one
    obtain ⟨p, us, rfl, h, k1⟩ := r1.tup s
    exact ⟨p, us, rfl, .inr h, fun l hl => k l us _ _ (Step.fresh s hl) hl (s.free hl) upd_same k1⟩
  · cases e
/-- the ints of a list -/
def intsOf : List D → Option (List Int)
  | [] => some []
  | .int i :: r => (intsOf r).map (i :: ·)
  | _ :: _ => none
theorem intsOf_some : ∀ {ds : List D} {ns : List Int}, intsOf ds = some ns → ds = ns.map PyData.int
  | [], ns, h => by cases h; rfl
  | d :: ds, ns, h => by
    cases d <;> simp only [intsOf, reduceCtorEq] at h
    rename_i i
    cases q : intsOf ds with
    | none => rw [q] at h; cases h
    | some ms =>
      rw [q] at h
      cases h
      rw [intsOf_some q]
      rfl
theorem intsOf_map : ∀ ns : List Int, intsOf (ns.map PyData.int) = some ns
  | [] => rfl
  | n :: ns => by
    show (intsOf (ns.map PyData.int)).map (n :: ·) = some (n :: ns)
    rw [intsOf_map ns]
    rfl
def sumO : List D → Option D
  | [.list xs] => (intsOf xs).map fun ns => .int ns.sum
  | _ => none
theorem cs_sum (hc : X.calm = true) : CallS X (.builtin "sum") sumO := by
  refine ⟨_, cr_sum hc, fun G H vs ds d Q s r e k => ?_⟩
  unfold sumO at e
  split at e
  · rename_i xs
    cases q : intsOf xs with
    | none => rw [q] at e; cases e
    | some ns =>
      rw [q] at e
      cases e
      have e1 := intsOf_some q
      subst e1
      obtain ⟨v, rfl, r1⟩ := r.one
      obtain ⟨p, us, rfl, h, k1⟩ := r1.lst s
      have e2 := k1.ints'
      subst e2
      exact ⟨p, ns, rfl, SqL.of h, k _ G H (Step.refl s) (.int _)⟩
  · cases e
/-- sorted, of ints -/
def insI (a : Int) : List Int → List Int
  | [] => [a]
  | b :: r => if a ≤ b then a :: b :: r else b :: insI a r
def sortI : List Int → List Int
  | [] => []
  | a :: r => insI a (sortI r)
theorem insI_perm (a : Int) : ∀ l : List Int, (insI a l).Perm (a :: l)
  | [] => .refl _
  | b :: r => by
    unfold insI
    split
    · exact .refl _
    · exact (List.Perm.cons b (insI_perm a r)).trans (List.Perm.swap a b r)
theorem sortI_perm : ∀ l : List Int, (sortI l).Perm l
  | [] => .refl _
  | a :: r => (insI_perm a _).trans (List.Perm.cons a (sortI_perm r))
theorem insI_sorted (a : Int) : ∀ l : List Int, l.Pairwise (· ≤ ·) → (insI a l).Pairwise (· ≤ ·)
  | [], _ => List.pairwise_singleton _ _
  | b :: r, h => by
    unfold insI
    have hb := List.pairwise_cons.mp h
    split
    · rename_i hab
      refine List.pairwise_cons.mpr ⟨fun c hc => ?_, h⟩
      rcases List.mem_cons.mp hc with rfl | hc
      · exact hab
      · exact Int.le_trans hab (hb.1 c hc)
    · rename_i hab
      refine List.pairwise_cons.mpr ⟨fun c hc => ?_, insI_sorted a r hb.2⟩
      rcases List.mem_cons.mp ((insI_perm a r).mem_iff.mp hc) with rfl | hc
      · omega
      · exact hb.1 c hc
theorem sortI_sorted : ∀ l : List Int, (sortI l).Pairwise (· ≤ ·)
  | [] => .nil
  | a :: r => insI_sorted a _ (sortI_sorted r)
theorem sorted_same : ∀ {l m : List Int}, l.Perm m → l.Pairwise (· ≤ ·) → m.Pairwise (· ≤ ·) → l = m
  | [], m, p, _, _ => (List.nil_perm.mp p).symm
  | a :: r, [], p, _, _ => (List.perm_nil.mp p)
  | a :: r, b :: t, p, h1, h2 => by
    have hab : a = b := by
      have x1 := p.mem_iff.mp (List.mem_cons_self (a := a) (l := r))
      have x2 := p.mem_iff.mpr (List.mem_cons_self (a := b) (l := t))
      have h1' := List.pairwise_cons.mp h1
      have h2' := List.pairwise_cons.mp h2
      rcases List.mem_cons.mp x1 with e | x1
      · exact e
      · rcases List.mem_cons.mp x2 with e | x2
        · exact e.symm
        · have := h1'.1 b x2; have := h2'.1 a x1; omega
    subst hab
    rw [sorted_same (List.Perm.cons_inv p) (List.pairwise_cons.mp h1).2 (List.pairwise_cons.mp h2).2]
def sortedO : List D → Option (List D)
  | [.list xs] => (intsOf xs).map fun ns => (sortI ns).map PyData.int
  | _ => none
theorem cf_sorted : CallFS X (.builtin "sorted") sortedO := by
  refine ⟨_, cr_sortedI, fun G H vs ds d Q s r e k => ?_⟩
  unfold sortedO at e
  split at e
  · rename_i xs
    cases q : intsOf xs with
    | none => rw [q] at e; cases e
    | some ns =>
      rw [q] at e
      cases e
      have e1 := intsOf_some q
      subst e1
      obtain ⟨v, rfl, r1⟩ := r.one
      obtain ⟨p, us, rfl, h, k1⟩ := r1.lst s
      have e2 := k1.ints'
      subst e2
      refine ⟨p, ns, rfl, SqL.of h, fun ns' l hp hs hl => ?_⟩
      have e3 : ns' = sortI ns := sorted_same (hp.trans (sortI_perm ns).symm) hs (sortI_sorted ns)
      subst e3
      exact k l _ _ _ (Step.fresh s hl) hl (s.free hl) upd_same RpAll.ints
  · cases e
/-- isinstance(x, T) -/
def tyN : D → String
  | .none => "NoneType"
  | .bool _ => "bool"
  | .int _ => "int"
  | .str _ => "str"
  | .list _ => "list"
  | .tuple _ => "tuple"
  | .dict _ => "dict"
def isiB (T : String) (d : D) : Bool := tyN d == T || (T == "int" && tyN d == "bool")
theorem tyx_of {K : PySem.W.Frag} {G H : Hp} {v : V} {d : D} (s : Same G H) (r : RpR K G H v d) : TyX K H v (.type (tyN d)) := by
  cases r.rp s with
  | non => exact .base .non
  | bl b => exact .base (.bl b)
  | int i => exact .base (.int i)
  | str x => exact .base (.str x)
  | lst h k => exact .base (.lst h)
  | tup h k =>
    rcases h with (h | ⟨o, h⟩) | ⟨o, its, n, h1, h2, _⟩
    · exact .base (.tup h)
    · exact .fTuple h
    · exact .kTuple h1 h2
def isiE (T : String) (fa : Ev → Rs D) : Ev → Rs D := fun ρ => fa ρ >>= fun d => .ok (.bool (isiB T d))
theorem kit_all {K : PySem.W.Frag} {d : D} (hd : ∀ kvs, d ≠ .dict kvs) {T : String} (hT : T = "int" ∨ T = "bool" ∨ T = "list" ∨ T = "tuple" ∨ T = "str") : PySem.W.kitOne K (.type (tyN d)) (.type T) = some (isiB T d) := by
  have h1 : ∀ S : String, (S = "NoneType" ∨ S = "bool" ∨ S = "int" ∨ S = "str" ∨ S = "list" ∨ S = "tuple") → PySem.W.kitOne K (.type S) (.type T) = some (S == T || (T == "int" && S == "bool")) := by
    intro S hS
    rcases hS with rfl | rfl | rfl | rfl | rfl | rfl <;> rcases hT with rfl | rfl | rfl | rfl | rfl <;> exact kit_ty (by decide +kernel)
  cases d with
  | none => exact h1 _ (by simp [tyN])
  | bool b => exact h1 _ (by simp [tyN])
  | int i => exact h1 _ (by simp [tyN])
  | str x => exact h1 _ (by simp [tyN])
  | list x => exact h1 _ (by simp [tyN])
  | tuple x => exact h1 _ (by simp [tyN])
  | dict kvs => exact absurd rfl (hd kvs)
theorem de_isi {a : Expr} {fa : Ev → Rs D} {T : String} {x2 : Str} {p1 p2 : Pos} (hT : T = "int" ∨ T = "bool" ∨ T = "list" ∨ T = "tuple" ∨ T = "str") (hm1 : X.mg "isinstance" = none) (hm2 : X.mg x2 = none) (hv2 : bootBuiltins x2 = some (.type T)) (ha : DR X W a fa)
    (hg1 : Gl X "isinstance" := by rfl) (hg2 : Gl X x2 := by rfl) (hn2 : x2 ≠ "__name__" := by decide) (hd2 : (x2 == ("__debug__" : Str)) = false := by decide)
    (hs0 : starEach [.Name x2 p2] X.env = (false, eval (.Name x2 p2) X.env) :: starEach [] X.env := by rfl)
    (hs : starEach [a, .Name x2 p2] X.env = (false, eval a X.env) :: starEach [.Name x2 p2] X.env := by rfl) (hpl : (backTo pos (starEach [.Name x2 p2] X.env)).any (·.1) = false := by rfl) :
    DE X W (.Call (.Name "isinstance" p1) [a, .Name x2 p2] [] pos) (isiE T fa) := by
  refine pe_mono (pe_callB call_isi hg1 hm1 (by decide +kernel) (pa_cons ha (pa_cons (pe_bltn (v := .ty T) hg2 hm2 hv2 rfl hn2 hd2) pa_nil hs0) hs) (by decide) (by decide) hs hpl) fun σ H Q ⟨G0, H0, G, ρ, R, q⟩ => ?_
  refine tR_of R ((postD_iff.mp q).bind.imp fun d k v G1 H1 s r => ?_)
  refine ⟨v, .ty T, .type (tyN d), .type T, isiB T d, rfl, .ty T, tyx_of s.gh r, kit_all (fun kvs z => ?_) hT, k _ G1 H1 s (.bl _)⟩
  subst z
  have := r.rp s.gh
  cases this
end

/-! ### own defs -/
section
variable (K : PySem.W.Frag) (mg : Str → Option Value)
def PostXc (G H : Hp) (E : XK) (c : Str) (fs : List (Str × D)) : Prop :=
  ∀ C dx vs G' H', mg c = some (.ref C) → Step G H G' H' → H' dx = some (.xd vs) → FsOk K G' vs fs → E (.ref C) (some dx) H'
def PostA (G H : Hp) (r : Ans) (Q : VK) (E : XK) : Prop :=
  match r with
  | .ok d => kD K Q G H d
  | .fr ds => kF K Q G H ds
  | .ex c fs => PostXc K mg G H E c fs
  | .bad => False
/-- a def's promise by its function -/
def spF (F : List D → Ans) : Sp := fun vs H Q E => ∃ G ds, Same G H ∧ RpAll K G vs ds ∧ PostA K mg G H (F ds) Q E
end
/-- a def of the text that keeps its promise, by its name -/
structure Cal (P : Program) (w : World) (K : PySem.W.Frag) (mg : Str → Option Value) (base : Heap) (k : Nat) (x : Str) (F : List D → Ans) : Prop where
  ex : ∃ f fd ps, FnOk P w K mg base (L2.CX P w) k f fd ps (spF K mg F) ∧ mg x = some (.ref f) ∧ PySem.W.keepIn K (.ref f) = true ∧ Binds K fd ps []
theorem Cal.mono {P : Program} {w : World} {K : PySem.W.Frag} {mg : Str → Option Value} {base : Heap} {j k : Nat} {x : Str} {F : List D → Ans} (c : Cal P w K mg base j x F) (h : j ≤ k) : Cal P w K mg base k x F := by
  obtain ⟨f, fd, ps, h1, h2⟩ := c.ex
  exact ⟨f, fd, ps, h1.mono h, h2⟩
/-- nothing of a list within -/
def noL : D → Bool
  | .list _ => false
  | .tuple ds => ds.attach.all fun ⟨d, _⟩ => noL d
  | _ => true
def ansD : Ans → Rs D
  | .ok d => .ok d
  | .fr ds => .ok (.list ds)
  | .ex c fs => .ex c fs
  | .bad => .bad
def ansF : Ans → Rs (List D)
  | .ok _ => .bad
  | .fr ds => .ok ds
  | .ex c fs => .ex c fs
  | .bad => .bad
/-- .. where a list that is still being built is lent to it -/
def ansDL : Ans → Rs D
  | .ok d => if noL d = true then .ok d else .bad
  | .fr ds => if ds.all noL = true then .ok (.list ds) else .bad
  | .ex _ _ => .bad
  | .bad => .bad
def ansFL : Ans → Rs (List D)
  | .ok _ => .bad
  | .fr ds => if ds.all noL = true then .ok ds else .bad
  | .ex _ _ => .bad
  | .bad => .bad
def fn {α : Type} (sel : Ans → Rs α) (F : List D → Ans) (fs : Ev → Rs (List D)) : Ev → Rs α := fun ρ => fs ρ >>= fun ds => sel (F ds)
section
variable {X : Cx} {W : WX} {pos p : Pos} {e : Expr} {es : List Expr} {fs : Ev → Rs (List D)} {x : Str} {k : Nat} {F : List D → Ans}
theorem de_fn (c : Cal X.prog X.w X.K X.mg X.base k x F) (hr : Room k X.A) (tk : Takes X W) (ha : DA X W (e :: es) fs) (hg : Gl X x := by rfl) (hdb : (x == ("__debug__" : Str)) = false := by decide)
    (he : starEach (e :: es) X.env = (false, eval e X.env) :: starEach es X.env := by rfl) (hpl : (backTo pos (starEach es X.env)).any (·.1) = false := by rfl) :
    DE X W (.Call (.Name x p) (e :: es) [] pos) (fn ansD F fs) := by
  obtain ⟨f, fd, ps, h1, h2, h3, h4⟩ := c.ex
  refine pe_mono (pe_callS h1 hr hg h2 h3 h4 (E := WE W) (passAt tk) ha hdb he hpl) fun σ H Q ⟨G0, H0, G, ρ, R, q⟩ => ?_
  refine ⟨G0, H0, G, ρ, R, (postD_iff.mp q).bind.imp fun ds p1 vs G1 H1 s r => ?_⟩
  refine ⟨G1, ds, s.gh, r, ?_⟩
  have p2 := p1.step s fun a k => k
  cases hF : F ds with
  | ok d => rw [hF] at p2; exact kD.step p2 s
  | fr ds' =>
    rw [hF] at p2
    exact fun a us G2 H2 s2 n1 n2 h5 r5 => p2 (.ref a) (upd G2 a (.lst us)) H2 (s.trans (s2.freeze n1 n2 h5)) (.lst upd_same (r5.mono (same_upd n2)))
  | ex c fs => rw [hF] at p2; exact p2
  | bad => rw [hF] at p2; exact p2.elim
theorem df_fn (c : Cal X.prog X.w X.K X.mg X.base k x F) (hr : Room k X.A) (tk : Takes X W) (ha : DA X W (e :: es) fs) (hg : Gl X x := by rfl) (hdb : (x == ("__debug__" : Str)) = false := by decide)
    (he : starEach (e :: es) X.env = (false, eval e X.env) :: starEach es X.env := by rfl) (hpl : (backTo pos (starEach es X.env)).any (·.1) = false := by rfl) :
    DF X W (.Call (.Name x p) (e :: es) [] pos) (fn ansF F fs) := by
  obtain ⟨f, fd, ps, h1, h2, h3, h4⟩ := c.ex
  refine pe_mono (pe_callS h1 hr hg h2 h3 h4 (E := WE W) (passAt tk) ha hdb he hpl) fun σ H Q ⟨G0, H0, G, ρ, R, q⟩ => ?_
  refine ⟨G0, H0, G, ρ, R, (postF_iff.mp q).bind.imp fun ds p1 vs G1 H1 s r => ?_⟩
  refine ⟨G1, ds, s.gh, r, ?_⟩
  have p2 := p1.step s fun a k => k
  cases hF : F ds with
  | ok d => rw [hF] at p2; exact p2.elim
  | fr ds' => rw [hF] at p2; exact kF.step p2 s
  | ex c fs => rw [hF] at p2; exact p2
  | bad => rw [hF] at p2; exact p2.elim
/-- what was neither stable nor new nor a tuple is taken out -/
def cutG (G H G2 : Hp) : Hp := fun b => match G b, H b with
  | none, some o => if isTup o = true then G2 b else none
  | _, _ => G2 b
theorem cutG_some {G H G2 : Hp} {b : Addr} {o : HO} (h : cutG G H G2 b = some o) : G2 b = some o ∧ (G b ≠ none ∨ H b = none ∨ ∃ u, H b = some u ∧ isTup u = true) := by
  unfold cutG at h
  split at h
  · rename_i u h1 h2
    split at h
    · rename_i h3
      exact ⟨h, .inr (.inr ⟨u, h2, h3⟩)⟩
    · cases h
  · rename_i h1
    refine ⟨h, ?_⟩
    cases q : G b with
    | some u => exact .inl (fun z => nomatch z)
    | none =>
      cases q2 : H b with
      | none => exact .inr (.inl rfl)
      | some u => exact (h1 u q q2).elim
theorem cutG_keep {G H G2 : Hp} {b : Addr} (h : G b ≠ none ∨ H b = none ∨ ∃ u, H b = some u ∧ isTup u = true) : cutG G H G2 b = G2 b := by
  unfold cutG
  split
  · rename_i u h1 h2
    rcases h with h | h | ⟨v, h, t⟩
    · exact absurd h1 h
    · rw [h2] at h; cases h
    · rw [h2] at h; cases h; rw [if_pos t]
  · rfl
theorem cutG_step {G H G2 H2 : Hp} (sg : Same G H) (s : Step H H G2 H2) : Step G H (cutG G H G2) H2 := by
  refine ⟨s.hh, fun b o e => ?_, fun b o e => s.gh _ _ (cutG_some e).1, fun b o e => ?_⟩
  · rw [cutG_keep (.inl (by rw [e]; exact fun z => nomatch z))]
    exact s.gg _ _ (sg _ _ e)
  · obtain ⟨e1, e2⟩ := cutG_some e
    rcases e2 with e2 | e2 | ⟨u, e2, t⟩
    · cases q2 : G b with
      | none => exact absurd q2 e2
      | some v =>
        have := s.gg _ _ (sg _ _ q2)
        rw [e1] at this
        cases this
        exact .inl rfl
    · exact .inr (.inl e2)
    · have := s.gg _ _ e2
      rw [e1] at this
      cases this
      exact .inr (.inr t)
theorem cutG_at {G H G2 H2 : Hp} (s : Step H H G2 H2) {b : Addr} {o : HO} (h : G2 b = some o) (t : isTup o = true) : cutG G H G2 b = some o := by
  rw [cutG_keep, h]
  cases q : H b with
  | none => exact .inr (.inl rfl)
  | some u =>
    have := s.gg _ _ q
    rw [h] at this
    cases this
    exact .inr (.inr ⟨_, rfl, t⟩)
theorem cutG_tup {K : PySem.W.Frag} {G H G2 H2 : Hp} (s : Step H H G2 H2) {a : Addr} {xs : List V} (h : SqT K G2 a xs) : SqT K (cutG G H G2) a xs := by
  rcases h with (h | ⟨o, h⟩) | h
  · exact .inl (.inl (cutG_at s h rfl))
  · exact .inl (.inr ⟨o, cutG_at s h rfl⟩)
  · exact .inr h
mutual
theorem cutG_rp {K : PySem.W.Frag} {G H G2 H2 : Hp} (s : Step H H G2 H2) : ∀ {v : V} {d : D}, Rp K G2 v d → noL d = true → Rp K (cutG G H G2) v d
  | _, _, .non, _ => .non
  | _, _, .bl b, _ => .bl b
  | _, _, .int i, _ => .int i
  | _, _, .str x, _ => .str x
  | _, _, .lst h k, n => by simp [noL] at n
  | _, _, .tup h k, n => .tup (cutG_tup s h) (cutG_rpAll s k (by simpa [noL] using n))
theorem cutG_rpAll {K : PySem.W.Frag} {G H G2 H2 : Hp} (s : Step H H G2 H2) : ∀ {vs : List V} {ds : List D}, RpAll K G2 vs ds → (∀ d ∈ ds, noL d = true) → RpAll K (cutG G H G2) vs ds
  | _, _, .nil, _ => .nil
  | _, _, .cons h k, n => .cons (cutG_rp s h (n _ List.mem_cons_self)) (cutG_rpAll s k fun d hd => n d (List.mem_cons_of_mem _ hd))
end
theorem cutG_none {G H G2 : Hp} {a : Addr} (n2 : G2 a = none) : cutG G H G2 a = none := by
  cases q : cutG G H G2 a with
  | none => rfl
  | some o => have := (cutG_some q).1; rw [n2] at this; cases this
theorem de_fnL (c : Cal X.prog X.w X.K X.mg X.base k x F) (hr : Room k X.A) (tk : Takes X W) (ha : DAR X W (e :: es) fs) (hg : Gl X x := by rfl) (hdb : (x == ("__debug__" : Str)) = false := by decide)
    (he : starEach (e :: es) X.env = (false, eval e X.env) :: starEach es X.env := by rfl) (hpl : (backTo pos (starEach es X.env)).any (·.1) = false := by rfl) :
    DE X W (.Call (.Name x p) (e :: es) [] pos) (fn ansDL F fs) := by
  obtain ⟨f, fd, ps, h1, h2, h3, h4⟩ := c.ex
  refine pe_mono (pe_callS h1 hr hg h2 h3 h4 (E := WE W) (passAt tk) ha hdb he hpl) fun σ H Q ⟨G0, H0, G, ρ, R, q⟩ => ?_
  refine ⟨G0, H0, G, ρ, R, (postD_iff.mp q).bind.imp fun ds p1 vs G1 H1 s r => ?_⟩
  refine ⟨H1, ds, Same.refl _, r.rp s.gh, ?_⟩
  cases hF : F ds with
  | ok d =>
    rw [hF] at p1
    by_cases n : noL d = true
    · have p2 : kD X.K Q G H d := by
        have := p1
        simp only [ansDL, n, if_true] at this
        exact this
      exact fun v G2 H2 s2 r2 => p2 v _ H2 (s.trans (cutG_step s.gh s2)) (cutG_rp s2 r2 n)
    · simp only [ansDL, n, if_false] at p1
      exact p1.elim
  | fr ds' =>
    rw [hF] at p1
    by_cases n : ds'.all noL = true
    · have p2 : kD X.K Q G H (.list ds') := by
        have := p1
        simp only [ansDL, n, if_true] at this
        exact this
      refine fun a us G2 H2 s2 n1 n2 h5 r5 => ?_
      have n3 : cutG G1 H1 G2 a = none := cutG_none n2
      exact p2 (.ref a) (upd (cutG G1 H1 G2) a (.lst us)) H2 (s.trans ((cutG_step s.gh s2).freeze n1 n3 h5)) (.lst upd_same ((cutG_rpAll s2 r5 (by simpa using n)).mono (same_upd n3)))
    · simp only [ansDL, n, if_false] at p1
      exact p1.elim
  | ex c fs => rw [hF] at p1; exact p1.elim
  | bad => rw [hF] at p1; exact p1.elim
theorem df_fnL (c : Cal X.prog X.w X.K X.mg X.base k x F) (hr : Room k X.A) (tk : Takes X W) (ha : DAR X W (e :: es) fs) (hg : Gl X x := by rfl) (hdb : (x == ("__debug__" : Str)) = false := by decide)
    (he : starEach (e :: es) X.env = (false, eval e X.env) :: starEach es X.env := by rfl) (hpl : (backTo pos (starEach es X.env)).any (·.1) = false := by rfl) :
    DF X W (.Call (.Name x p) (e :: es) [] pos) (fn ansFL F fs) := by
  obtain ⟨f, fd, ps, h1, h2, h3, h4⟩ := c.ex
  refine pe_mono (pe_callS h1 hr hg h2 h3 h4 (E := WE W) (passAt tk) ha hdb he hpl) fun σ H Q ⟨G0, H0, G, ρ, R, q⟩ => ?_
  refine ⟨G0, H0, G, ρ, R, (postF_iff.mp q).bind.imp fun ds p1 vs G1 H1 s r => ?_⟩
  refine ⟨H1, ds, Same.refl _, r.rp s.gh, ?_⟩
  cases hF : F ds with
  | ok d => rw [hF] at p1; exact p1.elim
  | fr ds' =>
    rw [hF] at p1
    by_cases n : ds'.all noL = true
    · have p2 : kF X.K Q G H ds' := by
        have := p1
        simp only [ansFL, n, if_true] at this
        exact this
      refine fun a us G2 H2 s2 n1 n2 h5 r5 => ?_
      exact p2 a us _ H2 (s.trans (cutG_step s.gh s2)) (s.hh.free n1) (cutG_none n2) h5 (cutG_rpAll s2 r5 (by simpa using n))
    · simp only [ansFL, n, if_false] at p1
      exact p1.elim
  | ex c fs => rw [hF] at p1; exact p1.elim
  | bad => rw [hF] at p1; exact p1.elim
end
end Pu

set_option Elab.async false
set_option linter.all false
set_option maxRecDepth 100000
set_option maxHeartbeats 4000000
/-! the pure layer, 5: targets, what is walked, comprehensions, statements, loops, defs -/
namespace Pu
open PySem PySem.Spec PyProof.Rows L2

/-! ### targets -/
inductive Tg where
  | one (i : Nat) | tup (is : List Nat)
def setL : Ev → List Nat → List D → Option Ev
  | ρ, [], [] => some ρ
  | ρ, i :: is, d :: ds => setL (ρ.set i (.sh d)) is ds
  | _, _, _ => none
def tgE : Tg → D → Ev → Rs Ev
  | .one i, d, ρ => .ok (ρ.set i (.sh d))
  | .tup is, .tuple ds, ρ => lift (setL ρ is ds)
  | .tup is, .list ds, ρ => lift (setL ρ is ds)
  | _, _, _ => .bad
def gNames : List Nat → TGs
  | [] => gNil
  | i :: is => gCons (gName i) (gNames is)
def gTg (K : PySem.W.Frag) : Tg → TG
  | .one i => gName i
  | .tup is => fun v σ H Q => gTup K is.length (gNames is) v σ H Q ∨ gLst K is.length (gNames is) v σ H Q
abbrev DG (X : Cx) (tg : Expr) (T : Tg) : Prop := PG X tg (gTg X.K T)
section
variable {X : Cx} {pos : Pos}
theorem dg_n (i : Nat) {x : Str} (hN : X.N.Nodup) (hi : X.N[i]? = some x := by rfl) (hx : Loc X.env.scope x := by first | exact Or.inl rfl | exact Or.inr rfl) (hf : X.fn x = true ∨ X.env.scope.names.lookup x = some .local := by first | exact .inl rfl | exact .inr rfl) : DG X (.Name x pos) (.one i) := pg_name hN hi hx hf
theorem dgs_nil : PGs X [] (gNames []) := pgs_nil
theorem dgs_cons (i : Nat) {is : List Nat} {x : Str} {es : List Expr} (hN : X.N.Nodup) (h : PGs X es (gNames is)) (hi : X.N[i]? = some x := by rfl) (hx : Loc X.env.scope x := by first | exact Or.inl rfl | exact Or.inr rfl) (hf : X.fn x = true ∨ X.env.scope.names.lookup x = some .local := by first | exact .inl rfl | exact .inr rfl)
    (hs : (assignEach (.Name x pos :: es) X.env).map (·.2) = assign (.Name x pos) X.env :: (assignEach es X.env).map (·.2) := by rfl) : PGs X (.Name x pos :: es) (gNames (i :: is)) := pgs_cons (pg_name hN hi hx hf) h hs
theorem dg_t {es : List Expr} {k : Nat} {is : List Nat} (hc : X.calm = true) (h : PGs X es (gNames is)) (hn : (assignEach es X.env).length = is.length := by rfl) (hst : (assignEach es X.env).findIdx? (·.1) = none := by rfl) : DG X (.Tuple es k pos) (.tup is) :=
  ⟨fun pins s σ H v u Q I r q => by
    rcases q with q | q
    · exact (pg_tup hc h hn hst).run pins s σ H v u Q I r q
    · exact (pg_lst hc h hn hst).run pins s σ H v u Q I r q⟩
end
def slots : Tg → List Nat
  | .one i => [i]
  | .tup is => is
theorem set_none_same {σ : L2.St} {i : Nat} {x : Option V} : (σ.set i x).set i none = σ.set i none := by rw [List.set_set]
theorem wipe_set {σ : L2.St} {i : Nat} {x : Option V} : ∀ {vs : List Nat}, i ∈ vs → L2.wipe (σ.set i x) vs = L2.wipe σ vs := by
  have comm : ∀ (vs : List Nat) (σ : L2.St), L2.wipe (σ.set i x) vs = (L2.wipe σ vs).set i x ∨ L2.wipe (σ.set i x) vs = L2.wipe σ vs := by
    intro vs
    induction vs with
    | nil => intro σ; exact .inl rfl
    | cons v vs ih =>
      intro σ
      show ((L2.wipe (σ.set i x) vs).set v none = ((L2.wipe σ vs).set v none).set i x) ∨ _
      rcases ih σ with e | e
      · by_cases hv : v = i
        · subst hv
          refine .inr ?_
          show (L2.wipe (σ.set v x) vs).set v none = (L2.wipe σ vs).set v none
          rw [e, List.set_set]
        · refine .inl ?_
          rw [e, List.set_comm _ _ (fun z => hv z.symm)]
      · refine .inr ?_
        show (L2.wipe (σ.set i x) vs).set v none = (L2.wipe σ vs).set v none
        rw [e]
  intro vs hm
  induction vs with
  | nil => cases hm
  | cons v vs ih =>
    show (L2.wipe (σ.set i x) vs).set v none = (L2.wipe σ vs).set v none
    rcases List.mem_cons.mp hm with e | hm
    · subst e
      rcases comm vs σ with e | e
      · rw [e, List.set_set]
      · rw [e]
    · rw [ih hm]
theorem wipe_sub {σ : L2.St} {ws : List Nat} : ∀ {vs : List Nat}, (∀ i ∈ vs, i ∈ ws) → L2.wipe (L2.wipe σ vs) ws = L2.wipe σ ws
  | [], _ => rfl
  | v :: vs, h => by
    show L2.wipe ((L2.wipe σ vs).set v none) ws = _
    rw [wipe_set (h v List.mem_cons_self), wipe_sub fun i hi => h i (List.mem_cons_of_mem _ hi)]
section
variable {K : PySem.W.Frag} {w : World} {G0 H0 G H : Hp} {σ : L2.St} {ρ ρ' : Ev}
theorem gNames_of : ∀ {is : List Nat} {ds : List D} {vs : List V} {σ : L2.St} {ρ : Ev} {Q : L2.St → Hp → Prop}, Rel K w G0 H0 G H σ ρ → RpAll K G vs ds → setL ρ is ds = some ρ' →
    (∀ σ', Rel K w G0 H0 G H σ' ρ' → (∀ ws : List Nat, (∀ i ∈ is, i ∈ ws) → L2.wipe σ' ws = L2.wipe σ ws) → Q σ' H) → gNames is vs σ H Q
  | [], [], _, σ, ρ, Q, R, .nil, e, q => by
    cases e
    exact ⟨rfl, q σ R fun _ _ => rfl⟩
  | i :: is, d :: ds, _, σ, ρ, Q, R, .cons (v := v) (vs := vs) r rs, e, q => by
    refine ⟨v, vs, rfl, ?_⟩
    refine gNames_of (R.set i r) rs e fun σ' R' hw => q σ' R' fun ws hs => ?_
    rw [hw ws fun j hj => hs j (List.mem_cons_of_mem _ hj), wipe_set (hs i List.mem_cons_self)]
  | [], _ :: _, _, _, _, _, _, .cons _ _, e, _ => by cases e
  | _ :: _, [], _, _, _, _, _, .nil, e, _ => by cases e
theorem setL_len : ∀ {is : List Nat} {ds : List D} {ρ ρ' : Ev}, setL ρ is ds = some ρ' → ds.length = is.length
  | [], [], _, _, _ => rfl
  | i :: is, d :: ds, ρ, ρ', e => congrArg (· + 1) (setL_len (is := is) (ds := ds) e)
  | [], _ :: _, _, _, e => by cases e
  | _ :: _, [], _, _, e => by cases e
theorem gTg_of {T : Tg} {v : V} {d : D} {Q : L2.St → Hp → Prop} (R : Rel K w G0 H0 G H σ ρ) (r : Rp K G v d) (e : tgE T d ρ = .ok ρ')
    (q : ∀ σ', Rel K w G0 H0 G H σ' ρ' → (∀ ws : List Nat, (∀ i ∈ slots T, i ∈ ws) → L2.wipe σ' ws = L2.wipe σ ws) → Q σ' H) : gTg K T v σ H Q := by
  unfold tgE at e
  split at e
  · cases e
    exact q _ (R.set _ r) fun ws hs => wipe_set (hs _ (by simp [slots]))
  · rename_i is ds
    cases hs : setL ρ is ds with
    | none => rw [hs] at e; cases e
    | some ρ2 =>
      rw [hs] at e; cases e
      cases r with
      | tup h k => exact .inl ⟨_, _, rfl, seqT R.gh h, by rw [k.length, setL_len hs], gNames_of R k hs q⟩
  · rename_i is ds
    cases hs : setL ρ is ds with
    | none => rw [hs] at e; cases e
    | some ρ2 =>
      rw [hs] at e; cases e
      cases r with
      | lst h k => exact .inr ⟨_, _, rfl, SqL.of (R.gh _ _ h), by rw [k.length, setL_len hs], gNames_of R k hs q⟩
  · cases e
end

/-! ### what is walked -/
/-- a walk over data that stay as long as what is stable stays -/
def Walk (K : PySem.W.Frag) (J : It) (G1 : Hp) (ds : List D) : Prop := ∀ i G' H', Same G1 G' → Same G' H' →
  (∀ d, ds[i]? = some d → J.go i H' ∧ ∀ x H2, J.yld i H' x H2 → ∃ G2, Step G' H' G2 H2 ∧ Rp K G2 x d) ∧ (ds.length ≤ i → J.stop i H')
/-- .. as long as nothing is changed -/
def WalkC (K : PySem.W.Frag) (J : It) (G1 H1 : Hp) (ds : List D) : Prop := ∀ i G' H', Step G1 H1 G' H' →
  (∀ d, ds[i]? = some d → J.go i H' ∧ ∀ x H2, J.yld i H' x H2 → ∃ G2, Step G' H' G2 H2 ∧ Rp K G2 x d) ∧ (ds.length ≤ i → J.stop i H')
theorem Walk.c {K : PySem.W.Frag} {J : It} {G1 H1 : Hp} {ds : List D} (h : Walk K J G1 ds) : WalkC K J G1 H1 ds := fun i G' H' s => h i G' H' s.gg s.gh
theorem walk_list {K : PySem.W.Frag} {G1 : Hp} {a : Addr} {vs : List V} {ds : List D} (h : G1 a = some (.lst vs)) (k : RpAll K G1 vs ds) : Walk K (Itl K a) G1 ds := fun i G' H' s1 s2 => by
  have hl : H' a = some (.lst vs) := s2 _ _ (s1 _ _ h)
  refine ⟨fun d hd => ?_, fun hi => ⟨vs, SqL.of hl, by rw [k.length]; exact hi⟩⟩
  obtain ⟨v, e, r⟩ := k.get hd
  refine ⟨⟨vs, v, SqL.of hl, e⟩, fun x H2 y => ?_⟩
  obtain ⟨rfl, y⟩ := y
  have e2 := y vs (SqL.of hl)
  rw [e] at e2; cases e2
  exact ⟨G', Step.refl s2, r.mono s1⟩
theorem walk_listC {K : PySem.W.Frag} {G1 H1 : Hp} {a : Addr} {vs : List V} {ds : List D} (h : H1 a = some (.lst vs)) (k : RpAll K G1 vs ds) : WalkC K (Itl K a) G1 H1 ds := fun i G' H' s => by
  have hl : H' a = some (.lst vs) := s.hh _ _ h
  refine ⟨fun d hd => ?_, fun hi => ⟨vs, SqL.of hl, by rw [k.length]; exact hi⟩⟩
  obtain ⟨v, e, r⟩ := k.get hd
  refine ⟨⟨vs, v, SqL.of hl, e⟩, fun x H2 y => ?_⟩
  obtain ⟨rfl, y⟩ := y
  have e2 := y vs (SqL.of hl)
  rw [e] at e2; cases e2
  exact ⟨G', Step.refl s.gh, r.mono s.gg⟩
theorem walk_tup {K : PySem.W.Frag} {G1 : Hp} {a : Addr} {vs : List V} {ds : List D} (h : SqT K G1 a vs) (k : RpAll K G1 vs ds) : Walk K (Itt K a) G1 ds := fun i G' H' s1 s2 => by
  have hl : SqT K H' a vs := seqT s2 (seqT s1 h)
  refine ⟨fun d hd => ?_, fun hi => ⟨vs, hl, by rw [k.length]; exact hi⟩⟩
  obtain ⟨v, e, r⟩ := k.get hd
  refine ⟨⟨vs, v, hl, e⟩, fun x H2 y => ?_⟩
  obtain ⟨rfl, y⟩ := y
  have e2 := y vs hl
  rw [e] at e2; cases e2
  exact ⟨G', Step.refl s2, r.mono s1⟩
def rngD (lo : Int) (n : Nat) : List D := (List.range n).map fun (i : Nat) => .int (lo + (i : Int))
theorem rngD_get {lo : Int} {n i : Nat} {d : D} (h : (rngD lo n)[i]? = some d) : i < n ∧ d = .int (lo + i) := by
  unfold rngD at h
  rw [List.getElem?_map] at h
  by_cases hi : i < n
  · rw [List.getElem?_range hi] at h; cases h; exact ⟨hi, rfl⟩
  · rw [List.getElem?_eq_none (by simpa using hi)] at h; cases h
theorem walk_range {K : PySem.W.Frag} {G1 : Hp} {lo : Int} {n : Nat} : Walk K (Itr lo n) G1 (rngD lo n) := fun i G' H' s1 s2 => by
  refine ⟨fun d hd => ?_, fun hi => (show n ≤ i by simpa [rngD] using hi)⟩
  obtain ⟨hi, rfl⟩ := rngD_get hd
  refine ⟨hi, fun x H2 y => ?_⟩
  obtain ⟨rfl, rfl⟩ := y
  exact ⟨G', Step.refl s2, .int _⟩
section
variable (K : PySem.W.Frag) (w : World) (mg : Str → Option Value) (W : WX)
def tI (f : Ev → Rs (List D)) : TI := fun σ H R => ∃ G0 H0 G ρ, Rel K w G0 H0 G H σ ρ ∧ PostG K mg W σ G H (f ρ) fun ds => ∀ J G1 H1, Step G H G1 H1 → Walk K J G1 ds → R J H1
def tIC (f : Ev → Rs (List D)) : TI := fun σ H R => ∃ G0 H0 G ρ, Rel K w G0 H0 G H σ ρ ∧ PostG K mg W σ G H (f ρ) fun ds => ∀ J G1 H1, Step G H G1 H1 → WalkC K J G1 H1 ds → R J H1
end
abbrev DI (X : Cx) (W : WX) (tg iter : Expr) (f : Ev → Rs (List D)) : Prop := PI X tg iter (tI X.K X.w X.mg W f)
abbrev DIC (X : Cx) (W : WX) (tg iter : Expr) (f : Ev → Rs (List D)) : Prop := PI X tg iter (tIC X.K X.w X.mg W f)
section
variable {X : Cx} {W : WX} {tg l : Expr} {pos p : Pos}
theorem pi_mono {t t' : TI} (h : PI X tg l t) (m : ∀ σ H R, t' σ H R → t σ H R) : PI X tg l t' := ⟨fun pins s σ H R I q => h.run pins s σ H R I (m σ H R q)⟩
theorem dic {f : Ev → Rs (List D)} (h : DI X W tg l f) : DIC X W tg l f := pi_mono h fun σ H R ⟨G0, H0, G, ρ, r, q⟩ => ⟨G0, H0, G, ρ, r, q.imp fun ds k J G1 H1 s wk => k J G1 H1 s wk.c⟩
def iSeq (K : PySem.W.Frag) (tl : TE) : TI := fun σ H R => tl σ H fun x H1 => (∃ a, x = .ref a ∧ (∃ xs, SqL K H1 a xs) ∧ R (Itl K a) H1) ∨ (∃ a, x = .ref a ∧ (∃ xs, SqT K H1 a xs) ∧ R (Itt K a) H1)
theorem pi_seq {tl : TE} (hl : PE X l tl) : PI X tg l (iSeq X.K tl) := by
  refine ⟨fun pins s σ H R I h => ?_⟩
  refine thn (hl.run pins s σ H _ I h) fun v s1 ⟨x, H1, I1, r1, q1⟩ => ?_
  rcases q1 with ⟨a, e, ⟨xs, hq⟩, q⟩ | ⟨a, e, ⟨xs, hq⟩, q⟩
  · subst e
    cases r1
    obtain ⟨its, rv, p, hz⟩ := I1.list hq
    refine wpAny_pyIter_list p.isList ?_
    refine ⟨s1.heap.objs.size, [s1.heap.objs.size], _, _, H1, rfl, I1.kept (t' := s1.toks) fun b o e => Heap.get?_push_of_some _ e, turn_list a _, ⟨_, Heap.get?_push_size _ rfl, rfl, rfl⟩, fun b hb => ?_, q⟩
    have e : b = s1.heap.objs.size := by simpa using hb
    subst e
    exact I1.fpOk (Nat.le_refl _) (I1.hok.fresh (Nat.le_refl _))
  · subst e
    cases r1
    obtain ⟨its, rv, p, hz⟩ := I1.tuple hq
    refine wpAny_pyIter_tuple (show s1.heap.IsTuple a its.toArray from p) ?_
    refine ⟨s1.heap.objs.size, [s1.heap.objs.size], _, _, H1, rfl, I1.kept (t' := s1.toks) fun b o e => Heap.get?_push_of_some _ e, turn_tuple a _, ⟨_, Heap.get?_push_size _ rfl, rfl, rfl⟩, fun b hb => ?_, q⟩
    have e : b = s1.heap.objs.size := by simpa using hb
    subst e
    exact I1.fpOk (Nat.le_refl _) (I1.hok.fresh (Nat.le_refl _))
def itO : D → Option (List D)
  | .list ds => some ds
  | .tuple ds => some ds
  | _ => none
def its (f : Ev → Rs D) : Ev → Rs (List D) := fun ρ => f ρ >>= fun d => lift (itO d)
theorem di_seq {f : Ev → Rs D} (h : DE X W l f) : DI X W tg l (its f) := by
  refine pi_mono (pi_seq h) fun σ H R' ⟨G0, H0, G, ρ, R, q⟩ => ?_
  refine tD_of R (q.bind.imp fun d p1 v G1 H1 s r => ?_)
  obtain ⟨ds, e, k⟩ := liftG p1
  unfold itO at e
  split at e
  · cases e
    cases r with
    | lst h k1 => exact .inl ⟨_, rfl, ⟨_, SqL.of (s.gh _ _ h)⟩, k _ G1 H1 s (walk_list h k1)⟩
  · cases e
    cases r with
    | tup h k1 => exact .inr ⟨_, rfl, ⟨_, seqT s.gh h⟩, k _ G1 H1 s (walk_tup h k1)⟩
  · cases e
/-- a list that is still being built, walked by a comprehension -/
theorem dic_r {f : Ev → Rs D} (h : DR X W l f) : DIC X W tg l (its f) := by
  refine pi_mono (pi_seq h) fun σ H R' ⟨G0, H0, G, ρ, R, q⟩ => ?_
  refine tR_of R (q.bind.imp fun d p1 v G1 H1 s r => ?_)
  obtain ⟨ds, e, k⟩ := liftG p1
  unfold itO at e
  split at e
  · cases e
    obtain ⟨a, vs, rfl, h1, k1⟩ := r.lst s.gh
    exact .inl ⟨a, rfl, ⟨_, SqL.of h1⟩, k _ G1 H1 s (walk_listC h1 k1)⟩
  · cases e
    rcases r with r | ⟨a, vs, ds', _, e2, _⟩
    · cases r with
      | tup h k1 => exact .inr ⟨_, rfl, ⟨_, seqT s.gh h⟩, k _ G1 H1 s (walk_tup h k1).c⟩
    · cases e2
  · cases e
def rng1 : List D → Option (List D)
  | [.int j] => if -(2 ^ 62) ≤ j ∧ j < 2 ^ 62 then some (rngD 0 j.toNat) else none
  | _ => none
def rng2 : List D → Option (List D)
  | [.int i, .int j] => if -(2 ^ 62) ≤ i ∧ i < 2 ^ 62 ∧ -(2 ^ 62) ≤ j ∧ j < 2 ^ 62 then some (rngD i (j - i).toNat) else none
  | _ => none
theorem di_rng1 {a : Expr} {fs : Ev → Rs (List D)} (hm : X.mg "range" = none) (ha : DAR X W [a] fs) (hg : Gl X "range" := by rfl) (hs : starEach [a] X.env = [(false, eval a X.env)] := by rfl) : DI X W tg (.Call (.Name "range" p) [a] [] pos) (cal rng1 fs) := by
  refine pi_mono (pi_range1 hg hm ha hs) fun σ H R' ⟨G0, H0, G, ρ, R, q⟩ => ?_
  refine ⟨G0, H0, G, ρ, R, q.bind.imp fun ds p1 vs G1 H1 s r => ?_⟩
  obtain ⟨ds', e, k⟩ := liftG p1
  unfold rng1 at e
  split at e
  · split at e
    · cases e
      rename_i hl
      obtain ⟨v, rfl, r1⟩ := r.one
      have e1 := r1.int
      subst e1
      exact ⟨_, rfl, hl.1, hl.2, k _ G1 H1 s walk_range⟩
    · cases e
  · cases e
theorem di_rng2 {a b : Expr} {fs : Ev → Rs (List D)} (hm : X.mg "range" = none) (ha : DAR X W [a, b] fs) (hg : Gl X "range" := by rfl) (hs : starEach [a, b] X.env = [(false, eval a X.env), (false, eval b X.env)] := by rfl) (hs2 : starEach [b] X.env = [(false, eval b X.env)] := by rfl) : DI X W tg (.Call (.Name "range" p) [a, b] [] pos) (cal rng2 fs) := by
  refine pi_mono (pi_range2 hg hm ha hs hs2) fun σ H R' ⟨G0, H0, G, ρ, R, q⟩ => ?_
  refine ⟨G0, H0, G, ρ, R, q.bind.imp fun ds p1 vs G1 H1 s r => ?_⟩
  obtain ⟨ds', e, k⟩ := liftG p1
  unfold rng2 at e
  split at e
  · split at e
    · cases e
      rename_i hl
      obtain ⟨v, u, rfl, r1, r2⟩ := r.two
      have e1 := r1.int
      have e2 := r2.int
      subst e1 e2
      exact ⟨_, _, rfl, hl, k _ G1 H1 s walk_range⟩
    · cases e
  · cases e

/-! ### comprehensions -/
def noX {α : Type} : Rs α → Option α
  | .ok a => some a
  | _ => none
/-- each item's contribution -/
def fmO {α : Type} (h : D → Option (Option α)) : List D → Option (List α)
  | [] => some []
  | d :: ds => (h d).bind fun o => (fmO h ds).bind fun ys => some (o.toList ++ ys)
/-- one turn -/
def turnC (T : Tg) (tt : Ev → Rs Bool) (fe : Ev → Rs D) (ρ : Ev) (d : D) : Option (Option D) :=
  (noX (tgE T d ρ)).bind fun ρ1 => (noX (tt ρ1)).bind fun b => if b = true then (noX (fe ρ1)).bind fun y => some (some y) else some none
def cmp (fi : Ev → Rs (List D)) (T : Tg) (vs : List Nat) (tt : Ev → Rs Bool) (fe : Ev → Rs D) : Ev → Rs (List D) := fun ρ => fi ρ >>= fun ds => if ds.length < sizeLine then lift (fmO (turnC T tt fe (wipeE ρ vs)) ds) else .bad
def W0 : WX := fun _ _ _ _ => False
def yesT : Ev → Rs Bool := fun _ => .ok true
abbrev DTs (X : Cx) (W : WX) (ifs : List Expr) (f : Ev → Rs Bool) : Prop := PTs X ifs (tT X.K X.w X.mg W f)
theorem pts_mono {ifs : List Expr} {t t' : TT} (h : PTs X ifs t) (m : ∀ σ H Q, t' σ H Q → t σ H Q) : PTs X ifs t' := ⟨fun pins s σ H Q I q => h.run pins s σ H Q I (m σ H Q q)⟩
theorem dts_nil : DTs X W [] yesT := pts_mono pts_nil fun σ H Q ⟨G0, H0, G, ρ, R, p⟩ => p G H (Step.refl R.gh)
theorem dts_one {c : Expr} {f : Ev → Rs Bool} (h : DT X W c f) : DTs X W [c] f := pts_one h
theorem noX_ok {α : Type} {r : Rs α} {a : α} (h : noX r = some a) : r = .ok a := by
  cases r <;> simp_all [noX]
theorem fmO_cons {α : Type} {h : D → Option (Option α)} {d : D} {ds : List D} {zs : List α} (e : fmO h (d :: ds) = some zs) : ∃ o ys, h d = some o ∧ fmO h ds = some ys ∧ zs = o.toList ++ ys := by
  unfold fmO at e
  cases q : h d with
  | none => rw [q] at e; cases e
  | some o =>
    rw [q] at e
    cases q2 : fmO h ds with
    | none => rw [q2] at e; cases e
    | some ys => rw [q2] at e; cases e; exact ⟨o, ys, rfl, rfl, rfl⟩
/-- the reading of a comprehension -/
theorem lc_of {fi : Ev → Rs (List D)} {T : Tg} {vs : List Nat} {tt : Ev → Rs Bool} {fe : Ev → Rs D} {σ : L2.St} {H : Hp} {Q : VK} {G0 H0 G : Hp} {ρ : Ev} (hT : ∀ i ∈ slots T, i ∈ vs) (R : Rel X.K X.w G0 H0 G H σ ρ)
    (q : PostG X.K X.mg W σ G H (cmp fi T vs tt fe ρ) (kF X.K Q G H)) : tLc (tIC X.K X.w X.mg W fi) (gTg X.K T) (tT X.K X.w X.mg W0 tt) (tD X.K X.w X.mg W0 fe) vs σ H Q := by
  refine ⟨G0, H0, G, ρ, R, q.bind.imp fun ds p1 J G1 H1 s wk => ?_⟩
  intro A hA
  split at p1
  rotate_left
  · exact p1.elim
  rename_i hsz
  obtain ⟨zs, hz, k⟩ := liftG p1
  have R1 := R.step s
  refine ⟨fun i m H => m = ds.length - i ∧ i ≤ ds.length ∧ ∃ G' us ys rest, Step G1 H1 G' H ∧ G' A = none ∧ H A = some (.lst us) ∧ RpAll X.K G' us ys ∧ ys.length ≤ i ∧ fmO (turnC T tt fe (wipeE ρ vs)) (ds.drop i) = some rest ∧ ys ++ rest = zs, ⟨ds.length, by simp, Nat.zero_le _, G1, [], [], zs, Step.fresh s.gh hA, s.gh.free hA, upd_same, .nil, Nat.zero_le _, hz, rfl⟩, ?_⟩
  rintro i m H' ⟨rfl, hi, G', us, ys, rest, s', n', h', r', hl', hf, ez⟩
  by_cases hlt : i < ds.length
  · obtain ⟨hgo, hy⟩ := (wk i G' H' s').1 ds[i] (by simp [hlt])
    refine .inr ⟨hgo, fun H2 => ∃ G2 us2 ys2 rest2, Step G1 H1 G2 H2 ∧ G2 A = none ∧ H2 A = some (.lst us2) ∧ RpAll X.K G2 us2 ys2 ∧ ys2.length ≤ i + 1 ∧ fmO (turnC T tt fe (wipeE ρ vs)) (ds.drop (i + 1)) = some rest2 ∧ ys2 ++ rest2 = zs, fun H2 ⟨G2, us2, ys2, rest2, x⟩ => ⟨ds.length - (i + 1), by omega, rfl, hlt, G2, us2, ys2, rest2, x⟩, fun x H2 y => ?_⟩
    obtain ⟨G2, s2, rx⟩ := hy x H2 y
    have ed : ds.drop i = ds[i] :: ds.drop (i + 1) := List.drop_eq_getElem_cons hlt
    rw [ed] at hf
    obtain ⟨o, ys1, e1, e2, e3⟩ := fmO_cons hf
    have e1' := e1
    unfold turnC at e1
    cases q1 : noX (tgE T ds[i] (wipeE ρ vs)) with
    | none => rw [q1] at e1; cases e1
    | some ρ1 =>
      rw [q1] at e1
      cases q2 : noX (tt ρ1) with
      | none =>
        simp only [Option.bind_some, q2] at e1
        cases e1
      | some b =>
        simp only [Option.bind_some, q2] at e1
        have S2 := s'.trans s2
        have RW : Rel X.K X.w G0 H0 G2 H2 (L2.wipe σ vs) (wipeE ρ vs) := (R1.step S2).wipe vs
        -- what is kept of the new list
        have keepA : ∀ {Ga Ha Gb Hb : Hp}, Step Ga Ha Gb Hb → Ga A = none → (∃ us, Ha A = some (.lst us)) → Gb A = none := fun {Ga Ha Gb Hb} st ga ⟨u, ha⟩ => by
          cases z : Gb A with
          | none => rfl
          | some o =>
            rcases st.new A o z with z1 | z1 | z1
            · rw [ga] at z1; cases z1
            · rw [ha] at z1; cases z1
            · exact (tup_ne (st.gh _ _ z) (st.hh _ _ ha) z1 rfl).elim
        have n2 : G2 A = none := keepA s2 n' ⟨us, h'⟩
        have h2 : H2 A = some (.lst us) := s2.hh _ _ h'
        refine gTg_of RW rx (noX_ok q1) fun σ1 Rσ hw => ⟨(hw vs hT).trans (wipe_sub fun _ z => z), ?_⟩
        refine tT_of Rσ ?_
        rw [noX_ok q2]
        show ∀ G3 H3, Step G2 H2 G3 H3 → _
        intro G3 H3 s3
        have n3 : G3 A = none := keepA s3 n2 ⟨us, h2⟩
        have h3 : H3 A = some (.lst us) := s3.hh _ _ h2
        have S3 := S2.trans s3
        cases b with
        | false =>
          rw [if_neg Bool.false_ne_true] at e1 ⊢
          cases e1
          exact ⟨G3, us, ys, ys1, S3, n3, h3, r'.mono (s2.gg.trans s3.gg), Nat.le_succ_of_le hl', e2, by rw [← ez, e3]; rfl⟩
        | true =>
          rw [if_pos rfl] at e1 ⊢
          cases q3 : noX (fe ρ1) with
          | none => rw [q3] at e1; cases e1
          | some y =>
            rw [q3] at e1
            cases e1
            refine tD_of (Rσ.step s3) ?_
            rw [noX_ok q3]
            show ∀ v G4 H4, Step G3 H3 G4 H4 → _ → _
            intro v G4 H4 s4 r4
            have n4 : G4 A = none := keepA s4 n3 ⟨us, h3⟩
            have h4 : H4 A = some (.lst us) := s4.hh _ _ h3
            have S4 := S3.trans s4
            have rl := r'.length
            refine ⟨us, h4, by omega, G4, us ++ [v], ys ++ [y], ys1, ⟨fun b o e => ?_, S4.gg, fun b o e => ?_, S4.new⟩, n4, upd_same, (r'.mono ((s2.gg.trans s3.gg).trans s4.gg)).append (.cons r4 .nil), by rw [List.length_append]; simp; omega, e2, by rw [← ez, e3]; simp⟩
            · rw [upd_ne (ne_of_none e hA)]; exact S4.hh _ _ e
            · rw [upd_ne (ne_of_none e n4)]; exact S4.gh _ _ e
  · have e : i = ds.length := by omega
    subst e
    refine .inl ⟨(wk _ G' H' s').2 (Nat.le_refl _), ?_⟩
    rw [List.drop_length] at hf
    cases hf
    rw [List.append_nil] at ez
    subst ez
    exact k A us G' H' (s.trans s') (s.hh.free hA) n' h' r'
section
variable {elt iter : Expr} {ifs : List Expr} {scope : Scope} {own : List (Str × Nat)} {fi : Ev → Rs (List D)} {T : Tg} {tt : Ev → Rs Bool} {fe : Ev → Rs D}
theorem df_lc (N : List Str) (sc : Scope) (own : List (Str × Nat)) (hc : X.calm = true) (hN : X.N.Nodup) (hi : DIC X W tg iter fi) (ok : blkC N sc scope own = true)
    (hg : ∀ (s : Shared) (H : Hp) (C : Addr) (cl : List (Str × Addr)) (fp : List Addr), DG (X.blk s H scope (compEnvC scope cl C X.env) fp) tg T) (ht : ∀ (s : Shared) (H : Hp) (C : Addr) (cl : List (Str × Addr)) (fp : List Addr), DTs (X.blk s H scope (compEnvC scope cl C X.env) fp) W0 ifs tt)
    (he : ∀ (s : Shared) (H : Hp) (C : Addr) (cl : List (Str × Addr)) (fp : List Addr), DE (X.blk s H scope (compEnvC scope cl C X.env) fp) W0 elt fe) (hT : ∀ i ∈ slots T, i ∈ own.map (·.2) := by decide) (hs : ∀ x, foldedSetIterable iter X.env x = pure x := by intro _; rfl) (eN : X.N = N := by rfl) (eS : X.env.scope = sc := by rfl) :
    DF X W (.ListComp elt [⟨tg, iter, ifs, 0⟩] scope pos) (cmp fi T (own.map (·.2)) tt fe) :=
  pe_mono (pe_lc hc hN hi (by rw [eN, eS]; exact blkOk_by ok) hg ht he hs) fun σ H Q ⟨G0, H0, G, ρ, R, q⟩ => lc_of hT R (postF_iff.mp q)
end
end
end Pu

set_option Elab.async false
set_option linter.all false
set_option maxRecDepth 100000
set_option maxHeartbeats 4000000
/-! the pure layer, 6: statements, loops, defs -/
namespace Pu
open PySem PySem.Spec PyProof.Rows L2

def Rs.st {α : Type} (r : Rs α) (ρ : Ev) (k : α → Sr) : Sr := match r with
  | .ok a => k a
  | .ex c fs => .ex c fs ρ
  | .bad => .bad
section
variable {K : PySem.W.Frag} {w : World} {mg : Str → Option Value} {W : WX} {G0 H0 G H G1 H1 : Hp} {σ : L2.St} {ρ : Ev} {Dn : Ends}
theorem PostS.st {α : Type} {r : Rs α} {k : α → Sr} (R : Rel K w G0 H0 G H σ ρ) (p : PostS K w mg W G0 H0 G (r.st ρ k) Dn) : PostG K mg W σ G H r fun a => PostS K w mg W G0 H0 G (k a) Dn := by
  cases r with
  | ok a => exact p
  | ex c fs => exact fun C dx vs G' H' h1 s h2 h3 => p σ C dx vs G' H' (R.step s) s.gg h1 h2 h3
  | bad => exact p
theorem PostS.mono {r : Sr} (p : PostS K w mg W G0 H0 G r Dn) (s : Same G G1) : PostS K w mg W G0 H0 G1 r Dn := by
  cases r with
  | nx ρ => exact fun σ G' H' R s' => p σ G' H' R (s.trans s')
  | bk ρ => exact fun σ G' H' R s' => p σ G' H' R (s.trans s')
  | ct ρ => exact fun σ G' H' R s' => p σ G' H' R (s.trans s')
  | rt d => exact p
  | rf ds => exact p
  | ex c fs ρ => exact fun σ C dx vs G' H' R s' => p σ C dx vs G' H' R (s.trans s')
  | bad => exact p
end
section
variable {X : Cx} {W : WX} {pos : Pos} {st : Stmt} {sts : List Stmt} {B B' : Ev → Sr}
/-! ### blocks, if -/
def nxB : Ev → Sr := fun ρ => .nx ρ
def seqB (B B' : Ev → Sr) : Ev → Sr := fun ρ => match B ρ with
  | .nx ρ' => B' ρ'
  | r => r
theorem dss_nil : DSs X W [] nxB := pss_mono pss_nil fun Dn σ H ⟨G0, H0, G, ρ, R, p⟩ => p σ G H R (Same.refl _)
theorem dss_cons (h1 : DS X W st B) (h2 : DSs X W sts B') : DSs X W (st :: sts) (seqB B B') := by
  refine pss_mono (pss_cons h1 h2) fun Dn σ H ⟨G0, H0, G, ρ, R, p⟩ => ?_
  refine ⟨G0, H0, G, ρ, R, ?_⟩
  unfold seqB at p
  cases h : B ρ with
  | nx ρ' => rw [h] at p; exact fun σ' G' H' R' s => ⟨G0, H0, G', ρ', R', PostS.mono p s⟩
  | bk ρ' => rw [h] at p; exact p
  | ct ρ' => rw [h] at p; exact p
  | rt d => rw [h] at p; exact p
  | rf d => rw [h] at p; exact p
  | ex c fs ρ' => rw [h] at p; exact p
  | bad => rw [h] at p; exact p
theorem dss_one (h1 : DS X W st B) : DSs X W [st] B := pss_one h1
def ifB (t : Ev → Rs Bool) (B B' : Ev → Sr) : Ev → Sr := fun ρ => (t ρ).st ρ fun c => if c = true then B ρ else B' ρ
theorem ds_if {c : Expr} {a b : List Stmt} {t : Ev → Rs Bool} (hc : DT X W c t) (ha : DSs X W a B) (hb : DSs X W b B') : DS X W (.If c a b pos) (ifB t B B') := by
  refine ps_mono (ps_if hc ha hb) fun Dn σ H ⟨G0, H0, G, ρ, R, p⟩ => ?_
  refine tT_of R ((PostS.st R p).imp fun c q G1 H1 s => ?_)
  cases c with
  | true => exact ⟨G0, H0, G1, ρ, R.step s, PostS.mono q s.gg⟩
  | false => exact ⟨G0, H0, G1, ρ, R.step s, PostS.mono q s.gg⟩
theorem ds_pass : DS X W (.Pass pos) nxB := ps_mono ps_pass fun Dn σ H ⟨G0, H0, G, ρ, R, p⟩ => p σ G H R (Same.refl _)
theorem ds_brk : DS X W (.Break pos) (fun ρ => .bk ρ) := ps_mono ps_break fun Dn σ H ⟨G0, H0, G, ρ, R, p⟩ => p σ G H R (Same.refl _)
theorem ds_cont : DS X W (.Continue pos) (fun ρ => .ct ρ) := ps_mono ps_continue fun Dn σ H ⟨G0, H0, G, ρ, R, p⟩ => p σ G H R (Same.refl _)
/-- a statement that is never reached -/
theorem ds_never : DS X W st (fun _ => .bad) := ps_mono ps_never fun Dn σ H ⟨G0, H0, G, ρ, R, p⟩ => p.elim
/-- an owned list is made stable ahead of a statement -/
def frzAt (i : Nat) (B : Ev → Sr) : Ev → Sr := fun ρ => match ρ[i]? with
  | some (.ow ds) => B (ρ.set i (.sh (.list ds)))
  | _ => B ρ
theorem ds_frz (i : Nat) (h : DS X W st B) : DS X W st (frzAt i B) := by
  refine ps_mono h fun Dn σ H ⟨G0, H0, G, ρ, R, p⟩ => ?_
  unfold frzAt at p
  split at p
  · rename_i ds e
    obtain ⟨a, vs, R', s⟩ := R.freeze e
    exact ⟨G0, H0, _, _, R', PostS.mono p s⟩
  · exact ⟨G0, H0, G, ρ, R, p⟩

/-! ### return -/
def retB (f : Ev → Rs D) : Ev → Sr := fun ρ => (f ρ).st ρ .rt
def retF (f : Ev → Rs (List D)) : Ev → Sr := fun ρ => (f ρ).st ρ .rf
def retV (i : Nat) : Ev → Sr := fun ρ => match ρ[i]? with
  | some (.sh d) => .rt d
  | some (.ow ds) => .rf ds
  | _ => .bad
variable {e : Expr} {f : Ev → Rs D} {fl : Ev → Rs (List D)}
theorem ds_ret (h : DE X W e f) : DS X W (.Return (some e) pos) (retB f) := by
  refine ps_mono (ps_ret h) fun Dn σ H ⟨G0, H0, G, ρ, R, p⟩ => ?_
  exact tD_of R ((PostS.st R p).imp fun d q v G1 H1 s r => q v G1 H1 (R.step s).fin r)
theorem ds_retF (h : DF X W e fl) : DS X W (.Return (some e) pos) (retF fl) := by
  refine ps_mono (ps_ret h) fun Dn σ H ⟨G0, H0, G, ρ, R, p⟩ => ?_
  exact tF_of R ((PostS.st R p).imp fun d q a vs G1 H1 s n1 n2 h1 r => q a vs G1 H1 (R.step s).fin (R.hh.free n1) n2 h1 r)
theorem ds_retV (i : Nat) {x : Str} {p2 : Pos} (hN : X.N[i]? = some x := by rfl) (hv : Vis X.env.scope x := by first | exact Or.inl rfl | exact Or.inr (Or.inl rfl) | exact Or.inr (Or.inr rfl)) (hd : (x == ("__debug__" : Str)) = false := by decide)
    (hcd : (x == ("__classdict__" : Str)) = false := by decide) : DS X W (.Return (some (.Name x p2)) pos) (retV i) := by
  refine ps_mono (ps_ret (pe_var hN hv hd hcd)) fun Dn σ H ⟨G0, H0, G, ρ, R, p⟩ => ?_
  unfold retV at p
  split at p
  · rename_i d h
    obtain ⟨v, e, r⟩ := R.sh h
    exact ⟨v, e, p v G H R.fin r⟩
  · rename_i ds h
    obtain ⟨a, vs, e, g, h0, hh, r⟩ := R.ow h
    exact ⟨_, e, p a vs G H R.fin h0 g hh r⟩
  · exact p.elim
def retA (F : List D → Ans) (fs : Ev → Rs (List D)) : Ev → Sr := fun ρ => (fs ρ).st ρ fun ds => match F ds with
  | .ok d => .rt d
  | .fr ds => .rf ds
  | .ex c fl => .ex c fl ρ
  | .bad => .bad
theorem ds_retA {x : Str} {es : List Expr} {fs : Ev → Rs (List D)} {k : Nat} {F : List D → Ans} {p : Pos} {p2 : Pos} (c : Cal X.prog X.w X.K X.mg X.base k x F) (hr : Room k X.A) (tk : Takes X W) (ha : DA X W (e :: es) fs) (hg : Gl X x := by rfl) (hdb : (x == ("__debug__" : Str)) = false := by decide)
    (he : starEach (e :: es) X.env = (false, eval e X.env) :: starEach es X.env := by rfl) (hpl : (backTo p2 (starEach es X.env)).any (·.1) = false := by rfl) :
    DS X W (.Return (some (.Call (.Name x p) (e :: es) [] p2)) pos) (retA F fs) := by
  obtain ⟨f, fd, ps, h1, h2, h3, h4⟩ := c.ex
  refine ps_mono (ps_ret (pe_callS h1 hr hg h2 h3 h4 (E := WE W) (passAt tk) ha hdb he hpl)) fun Dn σ H ⟨G0, H0, G, ρ, R, q⟩ => ?_
  refine ⟨G0, H0, G, ρ, R, (PostS.st R q).imp fun ds p1 vs G1 H1 s r => ?_⟩
  refine ⟨G1, ds, s.gh, r, ?_⟩
  cases hF : F ds with
  | ok d => rw [hF] at p1; exact fun v G2 H2 s2 r2 => p1 v G2 H2 (R.fin.trans (s.trans s2)) r2
  | fr ds' => rw [hF] at p1; exact fun a us G2 H2 s2 n1 n2 h5 r5 => p1 a us G2 H2 (R.fin.trans (s.trans s2)) ((R.step s).hh.free n1) n2 h5 r5
  | ex c fs => rw [hF] at p1; exact fun C dx vs G2 H2 hc s2 hd hf => p1 σ C dx vs G2 H2 (R.step (s.trans s2)) (s.trans s2).gg hc hd hf
  | bad => rw [hF] at p1; exact p1.elim
theorem ds_retN : DS X W (.Return none pos) (fun _ => .rt .none) := by
  refine ps_mono ps_retN fun Dn σ H ⟨G0, H0, G, ρ, R, p⟩ => p _ G H R.fin .non

/-! ### assignment -/
def setB (i : Nat) (f : Ev → Rs D) : Ev → Sr := fun ρ => (f ρ).st ρ fun d => .nx (ρ.set i (.sh d))
def setO (i : Nat) (f : Ev → Rs (List D)) : Ev → Sr := fun ρ => (f ρ).st ρ fun ds => .nx (ρ.set i (.ow ds))
theorem ds_set (i : Nat) {x : Str} {pos' : Pos} (hN : X.N.Nodup) (h : DE X W e f) (hi : X.N[i]? = some x := by rfl) (hx : Loc X.env.scope x := by first | exact Or.inl rfl | exact Or.inr rfl) (hs : swapsWith e (some (.Name x pos')) pos.line X.env = pure false := by rfl) (hf : X.fn x = true ∨ X.env.scope.names.lookup x = some .local := by first | exact .inl rfl | exact .inr rfl) :
    DS X W (.Assign [.Name x pos'] e pos) (setB i f) := by
  refine ps_mono (ps_set hN hi hx h hs hf) fun Dn σ H ⟨G0, H0, G, ρ, R, p⟩ => ?_
  exact tD_of R ((PostS.st R p).imp fun d q v G1 H1 s r => q _ G1 H1 ((R.step s).set i r) s.gg)
theorem Rel.own {K : PySem.W.Frag} {w : World} {G0 H0 G H G1 H1 : Hp} {σ : L2.St} {ρ : Ev} {a : Addr} {vs : List V} {ds : List D} (R : Rel K w G0 H0 G H σ ρ) (s : Step G H G1 H1) (n1 : H a = none) (n2 : G1 a = none) (h1 : H1 a = some (.lst vs)) (r : RpAll K G1 vs ds) (i : Nat) :
    Rel K w G0 H0 G1 H1 (σ.set i (some (.ref a))) (ρ.set i (.ow ds)) := by
  have R1 := R.step s
  have old : ∀ {j : Nat} {e : En}, ρ[j]? = some e → isOw e = true → σ[j]? = some (some (.ref a)) → False := fun {j e} hj he hp => by
    cases e with
    | no => cases he
    | sh d => cases he
    | sq ns => cases he
    | ow ds =>
      obtain ⟨q, vs, e1, _, _, e2, _⟩ := R.ow hj
      rw [hp] at e1; cases e1; rw [n1] at e2; cases e2
    | se T n =>
      obtain ⟨q, e1, _, _, e2⟩ := R.se hj
      rw [hp] at e1; cases e1; rw [n1] at e2; cases e2
  refine ⟨R1.gh, R1.hh, R1.gg, R1.new, by simp [R.len], fun j e h => ?_, fun j k e e' q hjk hj hk x x' hp hp' => ?_⟩
  · by_cases hj : i = j
    · subst hj
      by_cases hl : i < ρ.length
      · rw [List.getElem?_set_self hl] at h; cases h
        rw [List.getElem?_set_self (by rw [R.len]; exact hl)]
        exact ⟨a, vs, rfl, n2, R.hh.free n1, h1, r⟩
      · rw [List.getElem?_eq_none (by simpa using hl)] at h; cases h
    · rw [List.getElem?_set_ne hj] at h ⊢
      exact R1.ent j e h
  · by_cases h1 : i = j
    · subst h1
      have h2 : i ≠ k := hjk
      have hl : i < σ.length := by have := (List.getElem?_eq_some_iff.mp hp).1; simpa using this
      rw [List.getElem?_set_self hl] at hp; cases hp
      rw [List.getElem?_set_ne h2] at hk hp'
      exact old hk x' hp'
    · by_cases h2 : i = k
      · subst h2
        have hl : i < σ.length := by have := (List.getElem?_eq_some_iff.mp hp').1; simpa using this
        rw [List.getElem?_set_self hl] at hp'; cases hp'
        rw [List.getElem?_set_ne h1] at hj hp
        exact old hj x hp
      · rw [List.getElem?_set_ne h1] at hj hp
        rw [List.getElem?_set_ne h2] at hk hp'
        exact R.dis j k e e' q hjk hj hk x x' hp hp'
theorem ds_setO (i : Nat) {x : Str} {pos' : Pos} (hN : X.N.Nodup) (h : DF X W e fl) (hi : X.N[i]? = some x := by rfl) (hx : Loc X.env.scope x := by first | exact Or.inl rfl | exact Or.inr rfl) (hs : swapsWith e (some (.Name x pos')) pos.line X.env = pure false := by rfl) (hf : X.fn x = true ∨ X.env.scope.names.lookup x = some .local := by first | exact .inl rfl | exact .inr rfl) :
    DS X W (.Assign [.Name x pos'] e pos) (setO i fl) := by
  refine ps_mono (ps_set hN hi hx h hs hf) fun Dn σ H ⟨G0, H0, G, ρ, R, p⟩ => ?_
  exact tF_of R ((PostS.st R p).imp fun d q a vs G1 H1 s n1 n2 h1 r => q _ G1 H1 (R.own s n1 n2 h1 r i) s.gg)
section
variable {elt iter tg : Expr} {ifs : List Expr} {scope : Scope} {fi : Ev → Rs (List D)} {T : Tg} {tt : Ev → Rs Bool} {fe : Ev → Rs D} {spos : Pos}
/-- x = [..] on one line, x a local -/
theorem ps_lc (N : List Str) (sc : Scope) (i : Nat) (own : List (Str × Nat)) {x : Str} {py : Pos} (hc : X.calm = true) (hN : X.N.Nodup) (hi : DIC X W tg iter fi) (ok : blkC N sc scope own = true)
    (hg : ∀ (s : Shared) (H : Hp) (C : Addr) (cl : List (Str × Addr)) (fp : List Addr), DG (X.blk s H scope (compEnvC scope cl C X.env) fp) tg T) (ht : ∀ (s : Shared) (H : Hp) (C : Addr) (cl : List (Str × Addr)) (fp : List Addr), DTs (X.blk s H scope (compEnvC scope cl C X.env) fp) W0 ifs tt)
    (he : ∀ (s : Shared) (H : Hp) (C : Addr) (cl : List (Str × Addr)) (fp : List Addr), DE (X.blk s H scope (compEnvC scope cl C X.env) fp) W0 elt fe) (hy : X.N[i]? = some x := by rfl) (hyl : X.env.scope.names.lookup x = some .local := by rfl)
    (hk : X.env.scope.kind = .function := by rfl) (hl : (py.line == pos.line) = true := by rfl) (hw : (scope.names.any fun (n, k) => n == x && (k == .local || k == .cell)) = false := by decide +kernel)
    (hs : ∀ x, foldedSetIterable iter X.env x = pure x := by intro _; rfl) (eN : X.N = N := by rfl) (eS : X.env.scope = sc := by rfl) :
    PS X (.Assign [.Name x py] (.ListComp elt [⟨tg, iter, ifs, 0⟩] scope pos) spos) (tAsg (tLc (tIC X.K X.w X.mg W fi) (gTg X.K T) (tT X.K X.w X.mg W0 tt) (tD X.K X.w X.mg W0 fe) (own.map (·.2))) (gName i)) :=
  ps_setLc hc hN hy hyl (sw_true hk hyl hl hw) hi (by rw [eN, eS]; exact blkOk_by ok) hg ht he hs
end
def setBF (i : Nat) (f : Ev → Rs (List D)) : Ev → Sr := fun ρ => (f ρ).st ρ fun ds => .nx (ρ.set i (.sh (.list ds)))
theorem ds_lcO {elt iter tg : Expr} {ifs : List Expr} {scope : Scope} {fi : Ev → Rs (List D)} {T : Tg} {tt : Ev → Rs Bool} {fe : Ev → Rs D} {spos py : Pos} {x : Str} (i : Nat) {own : List (Str × Nat)}
    (h : PS X (.Assign [.Name x py] (.ListComp elt [⟨tg, iter, ifs, 0⟩] scope pos) spos) (tAsg (tLc (tIC X.K X.w X.mg W fi) (gTg X.K T) (tT X.K X.w X.mg W0 tt) (tD X.K X.w X.mg W0 fe) (own.map (·.2))) (gName i))) (hT : ∀ i ∈ slots T, i ∈ own.map (·.2) := by decide) :
    DS X W (.Assign [.Name x py] (.ListComp elt [⟨tg, iter, ifs, 0⟩] scope pos) spos) (setO i (cmp fi T (own.map (·.2)) tt fe)) := by
  refine ps_mono h fun Dn σ H ⟨G0, H0, G, ρ, R, p⟩ => ?_
  refine lc_of hT R ((PostS.st R p).imp fun ds q a vs G1 H1 s n1 n2 h1 r => ?_)
  exact q _ G1 H1 (R.own s n1 n2 h1 r i) s.gg
theorem ds_lc {elt iter tg : Expr} {ifs : List Expr} {scope : Scope} {fi : Ev → Rs (List D)} {T : Tg} {tt : Ev → Rs Bool} {fe : Ev → Rs D} {spos py : Pos} {x : Str} (i : Nat) {own : List (Str × Nat)}
    (h : PS X (.Assign [.Name x py] (.ListComp elt [⟨tg, iter, ifs, 0⟩] scope pos) spos) (tAsg (tLc (tIC X.K X.w X.mg W fi) (gTg X.K T) (tT X.K X.w X.mg W0 tt) (tD X.K X.w X.mg W0 fe) (own.map (·.2))) (gName i))) (hT : ∀ i ∈ slots T, i ∈ own.map (·.2) := by decide) :
    DS X W (.Assign [.Name x py] (.ListComp elt [⟨tg, iter, ifs, 0⟩] scope pos) spos) (setBF i (cmp fi T (own.map (·.2)) tt fe)) := by
  refine ps_mono h fun Dn σ H ⟨G0, H0, G, ρ, R, p⟩ => ?_
  refine lc_of hT R ((PostS.st R p).imp fun ds q a vs G1 H1 s n1 n2 h1 r => ?_)
  exact q _ _ H1 ((R.step (s.freeze n1 n2 h1)).set i (.lst upd_same (r.mono (same_upd n2)))) (s.freeze n1 n2 h1).gg
/-- a, b = e -/
def unpB (T : Tg) (f : Ev → Rs D) : Ev → Sr := fun ρ => (f ρ).st ρ fun d => (tgE T d ρ).st ρ .nx
theorem ds_unp {tg : Expr} {T : Tg} (hg : DG X tg T) (h : DE X W e f) (hs : swapsWithSole [tg] e pos.line X.env = pure false := by rfl) (hw : swappedStores [tg] e X.env = pure none := by rfl) (h1 : (assignEach [tg] X.env).map (·.2) = [assign tg X.env] := by rfl) :
    DS X W (.Assign [tg] e pos) (unpB T f) := by
  refine ps_mono (ps_asg h hg hs hw h1) fun Dn σ H ⟨G0, H0, G, ρ, R, p⟩ => ?_
  refine tD_of R ((PostS.st R p).imp fun d q v G1 H1 s r => ?_)
  cases ht : tgE T d ρ with
  | ok ρ' => rw [ht] at q; exact gTg_of (R.step s) r ht fun σ' R' _ => q σ' G1 H1 R' s.gg
  | ex c fs => exfalso; unfold tgE at ht; split at ht <;> first | (cases ht; done) | (unfold lift at ht; split at ht <;> cases ht)
  | bad => rw [ht] at q; exact q.elim
/-- a, b = x, y -/
def parB (i j : Nat) (fs : Ev → Rs (List D)) : Ev → Sr := fun ρ => (fs ρ).st ρ fun ds => match ds with
  | [d1, d2] => .nx ((ρ.set i (.sh d1)).set j (.sh d2))
  | _ => .bad
theorem ds_par (i j : Nat) {x y : Str} {a b : Expr} {fs : Ev → Rs (List D)} {px py pt : Pos} {kt k2 pt2} (hc : X.calm = true) (hN : X.N.Nodup) (ha : DA X W [a, b] fs) (hi : X.N[i]? = some x := by rfl) (hj : X.N[j]? = some y := by rfl) (hij : i ≠ j := by decide)
    (hx : X.env.scope.names.lookup x = some .local := by rfl) (hy : X.env.scope.names.lookup y = some .local := by rfl)
    (hw : swappedStores [.Tuple [.Name x px, .Name y py] kt pt] (.Tuple [a, b] k2 pt2) X.env = pure (some [x, y]) := by rfl)
    (hs : swapsWithSole [.Tuple [.Name x px, .Name y py] kt pt] (.Tuple [a, b] k2 pt2) pos.line X.env = pure false := by rfl) :
    DS X W (.Assign [.Tuple [.Name x px, .Name y py] kt pt] (.Tuple [a, b] k2 pt2) pos) (parB i j fs) := by
  refine ps_mono (ps_par hc hN hi hj hij hx hy ha hw hs) fun Dn σ H ⟨G0, H0, G, ρ, R, p⟩ => ?_
  refine ⟨G0, H0, G, ρ, R, (PostS.st R p).imp fun ds q vs G1 H1 s r => ?_⟩
  split at q
  · cases r with
    | cons r1 r2 =>
      cases r2 with
      | cons r2 r3 =>
        cases r3
        exact ⟨_, _, rfl, q _ G1 H1 (((R.step s).set i r1).set j r2) s.gg⟩
  · exact q.elim

/-! ### changes of an owned list -/
def owAt (i : Nat) (ρ : Ev) (k : List D → Sr) : Sr := match ρ[i]? with
  | some (.ow ds) => k ds
  | _ => .bad
theorem owAt_some {i : Nat} {ρ : Ev} {k : List D → Sr} {K : PySem.W.Frag} {w : World} {mg : Str → Option Value} {G0 H0 G : Hp} {Dn : Ends} (p : PostS K w mg W G0 H0 G (owAt i ρ k) Dn) : ∃ ds, ρ[i]? = some (.ow ds) ∧ PostS K w mg W G0 H0 G (k ds) Dn := by
  unfold owAt at p
  split at p
  · exact ⟨_, by assumption, p⟩
  · exact p.elim
def appB (i : Nat) (f : Ev → Rs D) : Ev → Sr := fun ρ => owAt i ρ fun ds => (f ρ).st ρ fun d => if ds.length < sizeLine then .nx (ρ.set i (.ow (ds ++ [d]))) else .bad
theorem ds_app (i : Nat) {x : Str} {p1 p2 cpos : Pos} (h : DE X W e f) (hN : X.N[i]? = some x := by rfl) (hv : Vis X.env.scope x := by first | exact Or.inl rfl | exact Or.inr (Or.inl rfl) | exact Or.inr (Or.inr rfl)) (hd : (x == ("__debug__" : Str)) = false := by decide)
    (hcd : (x == ("__classdict__" : Str)) = false := by decide)
    (h1 : ∀ ho : PE X (.Name x p1) (tVar i), ∀ ha : PA X [e] (tCons (tD X.K X.w X.mg W f) tNil), PE X (.Call (.Attribute (.Name x p1) "append" p2) [e] [] cpos) (tBM X.K "list" rAppend (tVar i) (tCons (tD X.K X.w X.mg W f) tNil)) := by
      exact fun ho ha => pe_bm PySem.F.plainAttrs_list PySem.F.slot_list_append PySem.F.type_list_append mt_append ho ha)
    (hs : starEach [e] X.env = (false, eval e X.env) :: starEach [] X.env := by rfl)
    (hsw : swapsWith (.Call (.Attribute (.Name x p1) "append" p2) [e] [] cpos) none pos.line X.env = pure false := by rfl) :
    DS X W (.Expr (.Call (.Attribute (.Name x p1) "append" p2) [e] [] cpos) pos) (appB i f) := by
  refine ps_mono (ps_expr (h1 (pe_var hN hv hd hcd) (pa_cons h pa_nil hs)) hsw) fun Dn σ H ⟨G0, H0, G, ρ, R, p⟩ => ?_
  obtain ⟨ds, hi, p⟩ := owAt_some p
  obtain ⟨a, vs, e1, g, h0, hh, r⟩ := R.ow hi
  refine ⟨_, e1, .inl ⟨rfl, _, SqL.of hh⟩, tD_of R ((PostS.st R p).imp fun d q v G1 H1 s r1 => ?_)⟩
  have R1 := R.step s
  obtain ⟨a', vs', e1', g', h0', hh', r'⟩ := R1.ow hi
  rw [e1] at e1'; cases e1'
  split at q
  · rename_i hl
    refine ⟨a, vs', v, rfl, rfl, hh', by rw [r'.length]; exact hl, ?_⟩
    exact q σ G1 _ (R1.mutd hi rfl e1 g' h0' ⟨a, vs' ++ [v], rfl, g', h0', upd_same, r'.append (.cons r1 .nil)⟩ rfl) s.gg
  · exact q.elim
/-- x[k] = e -/
def putAt (i : Nat) (ρ : Ev) (ds : List D) (d : D) : D → Sr
  | .int z => match ixN ds.length z with
    | some j => .nx (ρ.set i (.ow (ds.set j d)))
    | none => .bad
  | _ => .bad
def putB (i : Nat) (fk f : Ev → Rs D) : Ev → Sr := fun ρ => (f ρ).st ρ fun d => owAt i ρ fun ds => (fk ρ).st ρ fun k => putAt i ρ ds d k
end
end Pu

set_option Elab.async false
set_option linter.all false
set_option maxRecDepth 100000
set_option maxHeartbeats 4000000
/-! the pure layer, 7: loops, defs, the script -/
namespace Pu
open PySem PySem.Spec PyProof.Rows L2
section
variable {X : Cx} {W : WX} {pos : Pos} {st : Stmt} {sts : List Stmt} {B B' : Ev → Sr} {e k : Expr} {f fk : Ev → Rs D}
theorem ds_put (i : Nat) {x : Str} {p1 p2 : Pos} (hk : DE X W k fk) (h : DE X W e f) (hN : X.N[i]? = some x := by rfl) (hv : Vis X.env.scope x := by first | exact Or.inl rfl | exact Or.inr (Or.inl rfl) | exact Or.inr (Or.inr rfl)) (hd : (x == ("__debug__" : Str)) = false := by decide)
    (hcd : (x == ("__classdict__" : Str)) = false := by decide)
    (ha : ∀ v, assign (.Subscript (.Name x p1) k p2) X.env v = (do
      let ov ← holding [v] (eval (.Name x p1) X.env)
      let iv ← holding [v, ov] (eval k X.env)
      standAt p2
      holding [v, ov, iv] (setItem ov iv v)
      release [v, ov, iv] []) := by intro _; rfl)
    (hs : swapsWithSole [.Subscript (.Name x p1) k p2] e pos.line X.env = pure false := by rfl) (hw : swappedStores [.Subscript (.Name x p1) k p2] e X.env = pure none := by rfl) (h1 : (assignEach [.Subscript (.Name x p1) k p2] X.env).map (·.2) = [assign (.Subscript (.Name x p1) k p2) X.env] := by rfl) :
    DS X W (.Assign [.Subscript (.Name x p1) k p2] e pos) (putB i fk f) := by
  refine ps_mono (ps_asg h (pg_sub (pe_var hN hv hd hcd) hk set_list ha) hs hw h1) fun Dn σ H ⟨G0, H0, G, ρ, R, p⟩ => ?_
  refine tD_of R ((PostS.st R p).imp fun d q v G1 H1 s r => ?_)
  have R1 := R.step s
  obtain ⟨ds, hi, q⟩ := owAt_some q
  obtain ⟨a, vs, e1, g, h0, hh, r0⟩ := R1.ow hi
  refine ⟨_, e1, tD_of R1 ((PostS.st R1 (PostS.mono q s.gg)).imp fun z q v2 G2 H2 s2 r2 => ?_)⟩
  have R2 := R1.step s2
  obtain ⟨a', vs', e1', g', h0', hh', r'⟩ := R2.ow hi
  rw [e1] at e1'; cases e1'
  unfold putAt at q
  split at q
  · split at q
    · rename_i hj
      cases r2
      refine ⟨a, vs', _, _, rfl, rfl, hh', by rw [r'.length]; exact hj, ?_⟩
      exact q σ G2 _ (R2.mutd hi rfl e1 g' h0' ⟨a, vs'.set _ v, rfl, g', h0', upd_same, RpAll.set (r.mono s2.gg) _ r'⟩ rfl) s2.gg
    · exact q.elim
  · exact q.elim

/-! ### for -/
def loopB (T : Tg) (B : Ev → Sr) : List D → Ev → Sr
  | [], ρ => .nx ρ
  | d :: ds, ρ => (tgE T d ρ).st ρ fun ρ1 => match B ρ1 with
    | .nx ρ2 => loopB T B ds ρ2
    | .ct ρ2 => loopB T B ds ρ2
    | .bk ρ2 => .nx ρ2
    | r => r
def forB (T : Tg) (fi : Ev → Rs (List D)) (B : Ev → Sr) : Ev → Sr := fun ρ => (fi ρ).st ρ fun ds => loopB T B ds ρ
variable {tg iter : Expr} {T : Tg} {fi : Ev → Rs (List D)} {body : List Stmt}
theorem tgE_ok {T : Tg} {d : D} {ρ : Ev} {K : PySem.W.Frag} {w : World} {mg : Str → Option Value} {G0 H0 G : Hp} {Dn : Ends} {k : Ev → Sr} (p : PostS K w mg W G0 H0 G ((tgE T d ρ).st ρ k) Dn) : ∃ ρ1, tgE T d ρ = .ok ρ1 ∧ PostS K w mg W G0 H0 G (k ρ1) Dn := by
  cases ht : tgE T d ρ with
  | ok ρ' => rw [ht] at p; exact ⟨ρ', rfl, p⟩
  | ex c fs => exfalso; unfold tgE at ht; split at ht <;> first | (cases ht; done) | (unfold lift at ht; split at ht <;> cases ht)
  | bad => rw [ht] at p; exact p.elim
theorem ds_for (hp : PassesOwn (model X.prog X.w) X.A X.env X.xe) (hc : X.calm = true) (hg : DG X tg T) (hi : DI X W tg iter fi) (hb : DSs X W body B) (hs : ∀ x, foldedSetIterable iter X.env x = pure x := by intro _; rfl) : DS X W (.For tg iter body [] pos) (forB T fi B) := by
  refine ps_mono (ps_for hp hc hi hg hb hs) fun Dn σ H ⟨G0, H0, G, ρ, R, p⟩ => ?_
  refine ⟨G0, H0, G, ρ, R, (PostS.st R p).imp fun ds q J G1 H1 s wk => ?_⟩
  refine ⟨fun i m σ H => m = ds.length - i ∧ i ≤ ds.length ∧ ∃ G2 ρ2, Rel X.K X.w G0 H0 G2 H σ ρ2 ∧ Same G1 G2 ∧ PostS X.K X.w X.mg W G0 H0 G2 (loopB T B (ds.drop i) ρ2) Dn, ⟨ds.length, by simp, Nat.zero_le _, G1, ρ, R.step s, Same.refl _, PostS.mono q s.gg⟩, ?_⟩
  rintro i m σ2 H2 ⟨rfl, hi, G2, ρ2, R2, s2, q2⟩
  by_cases hlt : i < ds.length
  · obtain ⟨hgo, hy⟩ := (wk i G2 H2 s2 R2.gh).1 ds[i] (by simp [hlt])
    refine .inr ⟨hgo, fun σ3 H3 => ∃ G3 ρ3, Rel X.K X.w G0 H0 G3 H3 σ3 ρ3 ∧ Same G1 G3 ∧ PostS X.K X.w X.mg W G0 H0 G3 (loopB T B (ds.drop (i + 1)) ρ3) Dn, fun σ3 H3 n => ⟨ds.length - (i + 1), by omega, rfl, hlt, n⟩, fun x H3 y => ?_⟩
    obtain ⟨G3, s3, rx⟩ := hy x H3 y
    rw [List.drop_eq_getElem_cons hlt] at q2
    unfold loopB at q2
    obtain ⟨ρ3, e3, q3⟩ := tgE_ok q2
    refine gTg_of (R2.step s3) rx e3 fun σ4 R4 _ => ⟨G0, H0, G3, ρ3, R4, ?_⟩
    have q4 := PostS.mono q3 s3.gg
    have s4 : Same G1 G3 := s2.trans s3.gg
    cases hB : B ρ3 with
    | nx ρ5 => rw [hB] at q4; exact fun σ5 G5 H5 R5 s5 => ⟨G5, ρ5, R5, s4.trans s5, PostS.mono q4 s5⟩
    | ct ρ5 => rw [hB] at q4; exact fun σ5 G5 H5 R5 s5 => ⟨G5, ρ5, R5, s4.trans s5, PostS.mono q4 s5⟩
    | bk ρ5 => rw [hB] at q4; exact q4
    | rt d => rw [hB] at q4; exact q4
    | rf d => rw [hB] at q4; exact q4
    | ex c fs ρ5 => rw [hB] at q4; exact q4
    | bad => rw [hB] at q4; exact q4
  · have e : i = ds.length := by omega
    subst e
    refine .inl ⟨(wk _ G2 H2 s2 R2.gh).2 (Nat.le_refl _), ?_⟩
    rw [List.drop_length] at q2
    exact q2 σ2 G2 H2 R2 (Same.refl _)

/-! ### while -/
def whileN (t : Ev → Rs Bool) (B : Ev → Sr) : Nat → Ev → Option Sr
  | 0, _ => none
  | n + 1, ρ => match t ρ with
    | .ok true => match B ρ with
      | .nx ρ2 => whileN t B n ρ2
      | .ct ρ2 => whileN t B n ρ2
      | .bk ρ2 => some (.nx ρ2)
      | r => some r
    | .ok false => some (.nx ρ)
    | .ex c fs => some (.ex c fs ρ)
    | .bad => some .bad
theorem whileN_more (t : Ev → Rs Bool) (B : Ev → Sr) : ∀ {n : Nat} {ρ : Ev} {r : Sr}, whileN t B n ρ = some r → whileN t B (n + 1) ρ = some r
  | 0, _, _, h => by cases h
  | n + 1, ρ, r, h => by
    unfold whileN at h ⊢
    cases ht : t ρ with
    | ok b =>
      rw [ht] at h
      cases b with
      | false => exact h
      | true =>
        cases hB : B ρ with
        | nx ρ2 => simp only [hB] at h ⊢; exact whileN_more t B h
        | ct ρ2 => simp only [hB] at h ⊢; exact whileN_more t B h
        | bk ρ2 => simp only [hB] at h ⊢; exact h
        | rt d => simp only [hB] at h ⊢; exact h
        | rf d => simp only [hB] at h ⊢; exact h
        | ex c fs ρ5 => simp only [hB] at h ⊢; exact h
        | bad => simp only [hB] at h ⊢; exact h
    | ex c fs => rw [ht] at h; exact h
    | bad => rw [ht] at h; exact h
theorem whileN_le (t : Ev → Rs Bool) (B : Ev → Sr) {n m : Nat} {ρ : Ev} {r : Sr} (h : whileN t B n ρ = some r) (l : n ≤ m) : whileN t B m ρ = some r := by
  induction l with
  | refl => exact h
  | step _ ih => exact whileN_more t B ih
open Classical in
noncomputable def whileB (t : Ev → Rs Bool) (B : Ev → Sr) : Ev → Sr := fun ρ => if h : ∃ r, ∃ n, whileN t B n ρ = some r then h.choose else .bad
theorem whileB_eq {t : Ev → Rs Bool} {B : Ev → Sr} {n : Nat} {ρ : Ev} {r : Sr} (h : whileN t B n ρ = some r) : whileB t B ρ = r := by
  have hx : ∃ r, ∃ n, whileN t B n ρ = some r := ⟨r, n, h⟩
  unfold whileB
  rw [dif_pos hx]
  obtain ⟨m, hm⟩ := hx.choose_spec
  have h1 := whileN_le t B h (Nat.le_max_left n m)
  have h2 := whileN_le t B hm (Nat.le_max_right n m)
  rw [h1] at h2
  exact (Option.some.inj h2).symm
theorem whileB_of {t : Ev → Rs Bool} {B : Ev → Sr} {ρ : Ev} (h : whileB t B ρ ≠ .bad) : ∃ n, whileN t B n ρ = some (whileB t B ρ) := by
  by_cases hx : ∃ r, ∃ n, whileN t B n ρ = some r
  · obtain ⟨r, n, e⟩ := hx
    exact ⟨n, by rw [e, whileB_eq e]⟩
  · exfalso; apply h; unfold whileB; rw [dif_neg hx]
theorem ds_while {c : Expr} {t : Ev → Rs Bool} (hp : PassesOwn (model X.prog X.w) X.A X.env X.xe) (hc : DT X W c t) (hb : DSs X W body B) : DS X W (.While c body [] pos) (whileB t B) := by
  refine ps_mono (ps_while hp hc hb) fun Dn σ H ⟨G0, H0, G, ρ, R, p⟩ => ?_
  have nb : whileB t B ρ ≠ .bad := fun z => by rw [z] at p; exact p
  obtain ⟨n, hn⟩ := whileB_of nb
  generalize whileB t B ρ = r at p hn
  refine ⟨fun m σ H => ∃ G2 ρ2, Rel X.K X.w G0 H0 G2 H σ ρ2 ∧ whileN t B m ρ2 = some r ∧ PostS X.K X.w X.mg W G0 H0 G2 r Dn, ⟨n, G, ρ, R, hn, p⟩, ?_⟩
  rintro m σ2 H2 ⟨G2, ρ2, R2, h2, p2⟩
  cases m with
  | zero => cases h2
  | succ m =>
    unfold whileN at h2
    refine tT_of R2 ?_
    cases ht : t ρ2 with
    | ok b =>
      rw [ht] at h2
      show ∀ G3 H3, Step G2 H2 G3 H3 → _
      intro G3 H3 s3
      have R3 := R2.step s3
      have p3 := PostS.mono p2 s3.gg
      cases b with
      | false => cases h2; exact p3 σ2 G3 H3 R3 (Same.refl _)
      | true =>
        rw [if_pos rfl]
        refine ⟨fun σ4 H4 => ∃ G4 ρ4, Rel X.K X.w G0 H0 G4 H4 σ4 ρ4 ∧ whileN t B m ρ4 = some r ∧ PostS X.K X.w X.mg W G0 H0 G4 r Dn, fun σ4 H4 x => ⟨m, Nat.lt_succ_self m, x⟩, G0, H0, G3, ρ2, R3, ?_⟩
        cases hB : B ρ2 with
        | nx ρ5 => simp only [hB] at h2; exact fun σ5 G5 H5 R5 s5 => ⟨G5, ρ5, R5, h2, PostS.mono p3 s5⟩
        | ct ρ5 => simp only [hB] at h2; exact fun σ5 G5 H5 R5 s5 => ⟨G5, ρ5, R5, h2, PostS.mono p3 s5⟩
        | bk ρ5 => simp only [hB] at h2; cases h2; exact p3
        | rt d => simp only [hB] at h2; cases h2; exact p3
        | rf d => simp only [hB] at h2; cases h2; exact p3
        | ex c fs ρ5 => simp only [hB] at h2; cases h2; exact p3
        | bad => simp only [hB] at h2; cases h2; exact p3
    | ex c fs => rw [ht] at h2; cases h2; exact fun C dx vs G' H' h1 s h2 h3 => p2 σ2 C dx vs G' H' (R2.step s) s.gg h1 h2 h3
    | bad => rw [ht] at h2; cases h2; exact p2
end

/-! ### defs -/
def finA : Sr → Ans
  | .nx _ => .ok .none
  | .rt d => .ok d
  | .rf ds => .fr ds
  | .ex c fs _ => .ex c fs
  | _ => .bad
def runF (n k : Nat) (B : Ev → Sr) (ds : List D) : Ans := if ds.length = n then finA (B (ds.map En.sh ++ List.replicate k En.no)) else .bad
def WofE (E : XK) : WX := fun cls d _ H => E cls d H
section
variable {P : Program} {w : World} {K : PySem.W.Frag} {mg : Str → Option Value} {base : Heap}
theorem rel_start {G H : Hp} {N : List Str} (sg : Same G H) (es : List En) (vs : List V) (hn : vs.length ≤ N.length) (hl : vs.length = es.length) (he : ∀ (i : Nat) (e : En), es[i]? = some e → isOw e = false ∧ EnOk K w H G H e (vs[i]?)) :
    Rel K w G H G H (L2.start N vs) (es ++ List.replicate (N.length - vs.length) En.no) := by
  have nob : ∀ {i : Nat} {e : En}, (es ++ List.replicate (N.length - vs.length) En.no)[i]? = some e → isOw e = false := fun {i e} h => by
    by_cases hi : i < es.length
    · rw [List.getElem?_append_left hi] at h; exact (he i e h).1
    · rw [List.getElem?_append_right (by omega), List.getElem?_replicate] at h
      split at h
      · cases h; rfl
      · cases h
  refine ⟨sg, Same.refl _, Same.refl _, fun b o h => .inl h, ?_, fun i e h => ?_, fun i j e e' p hij hi hj o _ _ _ => by rw [nob hi] at o; cases o⟩
  · unfold L2.start
    simp only [List.length_append, List.length_map, List.length_replicate]
    omega
  · unfold L2.start
    by_cases hi : i < es.length
    · rw [List.getElem?_append_left hi] at h
      rw [List.getElem?_append_left (by simp; omega), List.getElem?_map, List.getElem?_eq_getElem (by omega : i < vs.length)]
      have := (he i e h).2
      rw [List.getElem?_eq_getElem (by omega : i < vs.length)] at this
      exact this
    · rw [List.getElem?_append_right (by omega), List.getElem?_replicate] at h
      split at h
      · cases h; trivial
      · cases h
theorem post_fin {G H : Hp} {r : Sr} {E : XK} {Q : VK} (p : PostA K mg G H (finA r) Q E) : PostS K w mg (WofE E) G H G r { nx := fun _ H' => Q .non H', rt := Q } := by
  cases r with
  | nx ρ => exact fun σ G' H' R s => p .non G' H' R.fin .non
  | bk ρ => exact p.elim
  | ct ρ => exact p.elim
  | rt d => exact p
  | rf ds => exact fun a vs G' H' s n1 n2 h r => p a vs G' H' s n1 n2 h r
  | ex c fs ρ => exact fun σ C dx vs G' H' R s hc hd hf => p C dx vs G' H' hc R.fin hd hf
  | bad => exact p.elim
/-- THE RULE for a def -/
theorem cal_mk {x qual : Str} {st : Stmt} {f : Addr} {fd : FuncData} {N ps : List Str} {k : Nat} {B : Ev → Sr} (F : Fun K x qual st f fd) (S : FnScope N ps (defScope st)) (hn : ps.length ≤ N.length) (gm : mg x = some (.ref f)) (b : Binds K fd ps [])
    (body : ∀ (cdv : Value) (A : Around) (outer : List Env) (s : Shared) (H : Hp) (E : XK), Room k (A.deeper (envOfC qual (defScope st) s.heap.objs.size f cdv)) →
      DSs (cxOf (L2.CX P w) P w K mg base N qual (defScope st) f cdv A outer s H E) (WofE E) (defBody st) B) :
    Cal P w K mg base (k + 1) x (runF ps.length (N.length - ps.length) B) := by
  refine ⟨f, fd, ps, F.okX S (fun vs H Q E h => ?_) (fun cdv A outer s H vs Q E hr h => ?_), gm, F.kp, b⟩
  · obtain ⟨G, ds, sg, r, p⟩ := h
    unfold runF at p
    split at p
    · rename_i hl
      rw [r.length]; exact hl
    · exact p.elim
  · obtain ⟨G, ds, sg, r, p⟩ := h
    unfold runF at p
    split at p
    rotate_left
    · exact p.elim
    rename_i hl
    refine ⟨_, body cdv A outer s H E hr, G, H, G, ds.map En.sh ++ List.replicate (N.length - ps.length) En.no, ?_, post_fin p⟩
    have hv := r.length
    have := rel_start (K := K) (w := w) (N := N) sg (ds.map En.sh) vs (by omega) (by simp [hv]) fun i e h => by
      rw [List.getElem?_map] at h
      cases q : ds[i]? with
      | none => rw [q] at h; cases h
      | some d =>
        rw [q] at h; cases h
        obtain ⟨v, e1, e2⟩ := r.get q
        exact ⟨rfl, v, e1, e2⟩
    rw [show vs.length = ps.length by omega] at this
    exact this

/-! ### defs whose first parameter is the script -/
def spFS (F : List Int → List D → Ans) : Sp := fun vs H Q E => ∃ a ns us G ds, vs = .ref a :: us ∧ SqL K H a (ns.map V.int) ∧ ns.length ≤ 63 ∧ Same G H ∧ RpAll K G us ds ∧ PostA K mg G H (F ns ds) Q E
variable (P w K mg base) in
structure CalS (k : Nat) (x : Str) (F : List Int → List D → Ans) : Prop where
  ex : ∃ f fd ps, FnOk P w K mg base (L2.CX P w) k f fd ps (spFS (K := K) (mg := mg) F) ∧ mg x = some (.ref f) ∧ PySem.W.keepIn K (.ref f) = true ∧ Binds K fd ps []
theorem CalS.mono {j k : Nat} {x : Str} {F : List Int → List D → Ans} (c : CalS P w K mg base j x F) (h : j ≤ k) : CalS P w K mg base k x F := by
  obtain ⟨f, fd, ps, h1, h2⟩ := c.ex
  exact ⟨f, fd, ps, h1.mono h, h2⟩
def runFS (n k : Nat) (B : Ev → Sr) (ns : List Int) (ds : List D) : Ans := if ds.length + 1 = n then finA (B (.sq ns :: ds.map En.sh ++ List.replicate k En.no)) else .bad
theorem cals_fn {x qual : Str} {st : Stmt} {f : Addr} {fd : FuncData} {N ps : List Str} {k : Nat} {B : Ev → Sr} (F : Fun K x qual st f fd) (S : FnScope N ps (defScope st)) (hn : ps.length ≤ N.length)
    (body : ∀ (cdv : Value) (A : Around) (outer : List Env) (s : Shared) (H : Hp) (E : XK), Room k (A.deeper (envOfC qual (defScope st) s.heap.objs.size f cdv)) →
      DSs (cxOf (L2.CX P w) P w K mg base N qual (defScope st) f cdv A outer s H E) (WofE E) (defBody st) B) :
    FnOk P w K mg base (L2.CX P w) (k + 1) f fd ps (spFS (K := K) (mg := mg) (runFS ps.length (N.length - ps.length) B)) := by
  refine F.okX S (fun vs H Q E h => ?_) (fun cdv A outer s H vs Q E hr h => ?_)
  · obtain ⟨a, ns, us, G, ds, rfl, hq, h63, sg, r, p⟩ := h
    unfold runFS at p
    split at p
    · rename_i hl
      show us.length + 1 = _
      rw [r.length]; exact hl
    · exact p.elim
  · obtain ⟨a, ns, us, G, ds, rfl, hq, h63, sg, r, p⟩ := h
    unfold runFS at p
    split at p
    rotate_left
    · exact p.elim
    rename_i hl
    refine ⟨_, body cdv A outer s H E hr, G, H, G, En.sq ns :: ds.map En.sh ++ List.replicate (N.length - ps.length) En.no, ?_, post_fin p⟩
    have hv := r.length
    have := rel_start (K := K) (w := w) (N := N) sg (En.sq ns :: ds.map En.sh) (.ref a :: us) (by show us.length + 1 ≤ _; omega) (by simp [hv]) fun i e h => by
      cases i with
      | zero => cases h; exact ⟨rfl, a, rfl, hq⟩
      | succ i =>
        rw [List.getElem?_cons_succ, List.getElem?_map] at h
        cases q : ds[i]? with
        | none => rw [q] at h; cases h
        | some d =>
          rw [q] at h; cases h
          obtain ⟨v, e1, e2⟩ := r.get q
          exact ⟨rfl, v, e1, e2⟩
    rw [show (V.ref a :: us).length = ps.length by show us.length + 1 = _; omega] at this
    exact this
theorem cals_mk {x qual : Str} {st : Stmt} {f : Addr} {fd : FuncData} {N ps : List Str} {k : Nat} {B : Ev → Sr} (F : Fun K x qual st f fd) (S : FnScope N ps (defScope st)) (hn : ps.length ≤ N.length) (gm : mg x = some (.ref f)) (b : Binds K fd ps [])
    (body : ∀ (cdv : Value) (A : Around) (outer : List Env) (s : Shared) (H : Hp) (E : XK), Room k (A.deeper (envOfC qual (defScope st) s.heap.objs.size f cdv)) →
      DSs (cxOf (L2.CX P w) P w K mg base N qual (defScope st) f cdv A outer s H E) (WofE E) (defBody st) B) :
    CalS P w K mg base (k + 1) x (runFS ps.length (N.length - ps.length) B) := ⟨f, fd, ps, cals_fn F S hn body, gm, F.kp, b⟩
end
/-- f(script, ..) -/
def fnS {α : Type} (i : Nat) (sel : Ans → Rs α) (F : List Int → List D → Ans) (fs : Ev → Rs (List D)) : Ev → Rs α := fun ρ => match ρ[i]? with
  | some (.sq ns) => if ns.length ≤ 63 then fs ρ >>= fun ds => sel (F ns ds) else .bad
  | _ => .bad
section
variable {X : Cx} {W : WX} {pos p p1 : Pos} {e : Expr} {es : List Expr} {fs : Ev → Rs (List D)} {x y : Str} {k : Nat} {F : List Int → List D → Ans}
theorem de_fnS (i : Nat) (c : CalS X.prog X.w X.K X.mg X.base k x F) (hr : Room k X.A) (tk : Takes X W) (ha : DA X W es fs) (hN : X.N[i]? = some y := by rfl) (hv : Vis X.env.scope y := by first | exact Or.inl rfl | exact Or.inr (Or.inl rfl) | exact Or.inr (Or.inr rfl)) (hd : (y == ("__debug__" : Str)) = false := by decide)
    (hcd : (y == ("__classdict__" : Str)) = false := by decide) (hg : Gl X x := by rfl) (hdb : (x == ("__debug__" : Str)) = false := by decide)
    (he : starEach (.Name y p1 :: es) X.env = (false, eval (.Name y p1) X.env) :: starEach es X.env := by rfl) (hpl : (backTo pos (starEach es X.env)).any (·.1) = false := by rfl) :
    DE X W (.Call (.Name x p) (.Name y p1 :: es) [] pos) (fnS i ansD F fs) := by
  obtain ⟨f, fd, ps, h1, h2, h3, h4⟩ := c.ex
  refine pe_mono (pe_callS h1 hr hg h2 h3 h4 (E := WE W) (passAt tk) (pa_cons (pe_var hN hv hd hcd) ha he) hdb he hpl) fun σ H Q ⟨G0, H0, G, ρ, R, q⟩ => ?_
  have q := postD_iff.mp q
  unfold fnS at q
  split at q
  rotate_left
  · exact q.elim
  rename_i ns hi
  split at q
  rotate_left
  · exact q.elim
  rename_i h63
  obtain ⟨a, e1, hq⟩ := R.sq hi
  refine ⟨_, e1, G0, H0, G, ρ, R, q.bind.imp fun ds p1 vs G1 H1 s r => ?_⟩
  refine ⟨a, ns, vs, G1, ds, rfl, s.hh.seq hq, h63, s.gh, r, ?_⟩
  have p2 := p1.step s fun a k => k
  cases hF : F ns ds with
  | ok d => rw [hF] at p2; exact kD.step p2 s
  | fr ds' =>
    rw [hF] at p2
    exact fun a us G2 H2 s2 n1 n2 h5 r5 => p2 (.ref a) (upd G2 a (.lst us)) H2 (s.trans (s2.freeze n1 n2 h5)) (.lst upd_same (r5.mono (same_upd n2)))
  | ex c fs => rw [hF] at p2; exact p2
  | bad => rw [hF] at p2; exact p2.elim
/-- script[lo:hi] -/
def slS (i : Nat) (fl fh : Ev → Rs (Option Int)) : Ev → Rs (List D) := fun ρ => match ρ[i]? with
  | some (.sq ns) => fl ρ >>= fun l => fh ρ >>= fun h => .ok (cutL (ns.map PyData.int) l h)
  | _ => .bad
theorem df_sliceS (i : Nat) {lo hi : Option Expr} {fl fh : Ev → Rs (Option Int)} {p2 : Pos} (hl : DO X W lo fl) (hh : DO X W hi fh) (hN : X.N[i]? = some y := by rfl) (hv : Vis X.env.scope y := by first | exact Or.inl rfl | exact Or.inr (Or.inl rfl) | exact Or.inr (Or.inr rfl)) (hd : (y == ("__debug__" : Str)) = false := by decide)
    (hcd : (y == ("__classdict__" : Str)) = false := by decide) : DF X W (.Subscript (.Name y p1) (.Slice lo hi none p2) pos) (slS i fl fh) := by
  refine pe_mono (pe_slice sl_list (pe_var hN hv hd hcd) hl hh) fun σ H Q ⟨G0, H0, G, ρ, R, q⟩ => ?_
  have q := postF_iff.mp q
  unfold slS at q
  split at q
  rotate_left
  · exact q.elim
  rename_i ns hi
  obtain ⟨a, e1, hq⟩ := R.sq hi
  refine ⟨_, e1, G0, H0, G, ρ, R, q.bind.imp fun l p1 G1 H1 s1 => ?_⟩
  refine ⟨G0, H0, G1, ρ, R.step s1, (p1.bind.step s1 fun a h => h).imp fun h p2 G2 H2 s2 => ?_⟩
  refine ⟨a, _, rfl, (s1.hh.trans s2.hh).seq hq, fun z hz => ?_⟩
  have S := s1.trans s2
  exact p2 z _ _ _ (S.trans (Step.fresh s2.gh hz)) (S.hh.free hz) (s2.gh.free hz) upd_same (cut_rp RpAll.ints l h)
end
end Pu

set_option Elab.async false
set_option linter.all false
set_option maxRecDepth 100000
set_option maxHeartbeats 4000000
/-! the pure layer, 8: what the top has not shadowed -/
namespace Pu
open PySem PySem.Spec PyProof.Rows L2
structure Blt (mg : Str → Option Value) : Prop where
  len_ : mg "len" = none
  abs_ : mg "abs" = none
  int_ : mg "int" = none
  bool_ : mg "bool" = none
  str_ : mg "str" = none
  list_ : mg "list" = none
  tuple_ : mg "tuple" = none
  set_ : mg "set" = none
  sorted_ : mg "sorted" = none
  sum_ : mg "sum" = none
  min_ : mg "min" = none
  max_ : mg "max" = none
  range_ : mg "range" = none
  isinstance_ : mg "isinstance" = none
  zip_ : mg "zip" = none
  repr_ : mg "repr" = none
/-- the law's promise to the row -/
def spLaw (K : PySem.W.Frag) : Sp := fun vs H Q _ => ∃ (a : Addr) (ns : List Int), vs = [.ref a] ∧ SqL K H a (ns.map V.int) ∧ ns.length ≤ 63 ∧ ∀ H', Q (.bl true) H'
theorem cx_none {P : Program} {w : World} {l : List Env} {H : Hp} {s s' : Shared} {e : Value} (h : L2.CX P w l H s (fun _ _ _ => False) e s') : False := by
  obtain ⟨_, _, _, _, _, _, _, _, _, _, _, _, z⟩ := h
  exact z.elim
theorem law_fn {P : Program} {w : World} {K : PySem.W.Frag} {mg : Str → Option Value} {base : Heap} {k : Nat} {f : Addr} {fd : FuncData} {F : List Int → List D → Ans}
    (c : FnOk P w K mg base (L2.CX P w) k f fd ["script"] (spFS (K := K) (mg := mg) F)) (ht : ∀ ns : List Int, ns.length ≤ 63 → F ns [] = .ok (.bool true)) : FnOk P w K mg base (L2.CX P w) k f fd ["script"] (spLaw K) := by
  refine c.imp fun vs H Q E h => ?_
  obtain ⟨a, ns, rfl, hS, hl, q⟩ := h
  refine ⟨a, ns, [], fun _ => none, [], rfl, hS, hl, (fun _ _ z => by cases z), .nil, ?_⟩
  rw [ht ns hl]
  intro v G' H' s r
  cases r
  exact q H'
end Pu

set_option Elab.async false
set_option linter.all false
set_option maxRecDepth 100000
set_option maxHeartbeats 4000000
/-! the pure layer, 9: how the pure functions are reckoned -/
namespace Pu
open PySem
def Sr.seq (r : Sr) (B' : Ev → Sr) : Sr := match r with
  | .nx ρ' => B' ρ'
  | r => r
@[simp] theorem Sr.seq_nx (ρ : Ev) (B : Ev → Sr) : (Sr.nx ρ).seq B = B ρ := Eq.trans rfl rfl
@[simp] theorem Sr.seq_rt (d : D) (B : Ev → Sr) : (Sr.rt d).seq B = .rt d := Eq.trans rfl rfl
@[simp] theorem Sr.seq_rf (d : List D) (B : Ev → Sr) : (Sr.rf d).seq B = .rf d := Eq.trans rfl rfl
@[simp] theorem Sr.seq_bk (ρ : Ev) (B : Ev → Sr) : (Sr.bk ρ).seq B = .bk ρ := Eq.trans rfl rfl
@[simp] theorem Sr.seq_ct (ρ : Ev) (B : Ev → Sr) : (Sr.ct ρ).seq B = .ct ρ := Eq.trans rfl rfl
@[simp] theorem Sr.seq_ex (c : Str) (fs : List (Str × D)) (ρ : Ev) (B : Ev → Sr) : (Sr.ex c fs ρ).seq B = .ex c fs ρ := Eq.trans rfl rfl
@[simp] theorem seqB_ap (B B' : Ev → Sr) (ρ : Ev) : seqB B B' ρ = (B ρ).seq B' := Eq.trans rfl rfl
theorem Sr.seq_ite {c : Prop} [Decidable c] (a b : Sr) (B : Ev → Sr) : (if c then a else b).seq B = if c then a.seq B else b.seq B := by split <;> rfl
@[simp] theorem nxB_ap (ρ : Ev) : nxB ρ = .nx ρ := Eq.trans rfl rfl
@[simp] theorem Rs.st_ok {α : Type} (a : α) (ρ : Ev) (k : α → Sr) : (Rs.ok a).st ρ k = k a := Eq.trans rfl rfl
@[simp] theorem Rs.st_ex {α : Type} (c : Str) (fs : List (Str × D)) (ρ : Ev) (k : α → Sr) : (Rs.ex c fs : Rs α).st ρ k = .ex c fs ρ := Eq.trans rfl rfl
theorem Rs.st_ite {α : Type} {c : Prop} [Decidable c] (a b : Rs α) (ρ : Ev) (k : α → Sr) : (if c then a else b).st ρ k = if c then a.st ρ k else b.st ρ k := by split <;> rfl
@[simp] theorem Rs.ok_bd {α β : Type} (a : α) (f : α → Rs β) : (Rs.ok a >>= f) = f a := Eq.trans rfl rfl
@[simp] theorem Rs.ok_bd' {α β : Type} (a : α) (f : α → Rs β) : Rs.bind (Rs.ok a) f = f a := Eq.trans rfl rfl
@[simp] theorem lift_some {α : Type} (a : α) : lift (some a) = .ok a := Eq.trans rfl rfl
@[simp] theorem setB_ap (i : Nat) (f : Ev → Rs D) (ρ : Ev) : setB i f ρ = (f ρ).st ρ fun d => .nx (ρ.set i (.sh d)) := Eq.trans rfl rfl
@[simp] theorem setO_ap (i : Nat) (f : Ev → Rs (List D)) (ρ : Ev) : setO i f ρ = (f ρ).st ρ fun d => .nx (ρ.set i (.ow d)) := Eq.trans rfl rfl
@[simp] theorem setBF_ap (i : Nat) (f : Ev → Rs (List D)) (ρ : Ev) : setBF i f ρ = (f ρ).st ρ fun d => .nx (ρ.set i (.sh (.list d))) := Eq.trans rfl rfl
@[simp] theorem retB_ap (f : Ev → Rs D) (ρ : Ev) : retB f ρ = (f ρ).st ρ .rt := Eq.trans rfl rfl
@[simp] theorem retF_ap (f : Ev → Rs (List D)) (ρ : Ev) : retF f ρ = (f ρ).st ρ .rf := Eq.trans rfl rfl
def valE : Option En → Rs D
  | some (.sh d) => .ok d
  | _ => .bad
def valR : Option En → Rs D
  | some (.sh d) => .ok d
  | some (.ow ds) => .ok (.list ds)
  | _ => .bad
def valV : Option En → Sr
  | some (.sh d) => .rt d
  | some (.ow ds) => .rf ds
  | _ => .bad
@[simp] theorem vE_ap (i : Nat) (ρ : Ev) : vE i ρ = valE ρ[i]? := by unfold vE valE; rfl
@[simp] theorem vR_ap (i : Nat) (ρ : Ev) : vR i ρ = valR ρ[i]? := by unfold vR valR; rfl
@[simp] theorem retV_ap (i : Nat) (ρ : Ev) : retV i ρ = valV ρ[i]? := by unfold retV valV; rfl
@[simp] theorem valE_sh (d : D) : valE (some (.sh d)) = .ok d := Eq.trans rfl rfl
@[simp] theorem valR_sh (d : D) : valR (some (.sh d)) = .ok d := Eq.trans rfl rfl
@[simp] theorem valR_ow (d : List D) : valR (some (.ow d)) = .ok (.list d) := Eq.trans rfl rfl
@[simp] theorem valV_sh (d : D) : valV (some (.sh d)) = .rt d := Eq.trans rfl rfl
@[simp] theorem valV_ow (d : List D) : valV (some (.ow d)) = .rf d := Eq.trans rfl rfl
@[simp] theorem lit_ap (d : D) (ρ : Ev) : lit d ρ = .ok d := Eq.trans rfl rfl
@[simp] theorem bin2_ap {α : Type} (g : D → D → Option α) (fa fb : Ev → Rs D) (ρ : Ev) : bin2 g fa fb ρ = (fa ρ >>= fun x => fb ρ >>= fun y => lift (g x y)) := Eq.trans rfl rfl
@[simp] theorem un1_ap (g : D → Option D) (fa : Ev → Rs D) (ρ : Ev) : un1 g fa ρ = (fa ρ >>= fun x => lift (g x)) := Eq.trans rfl rfl
@[simp] theorem cal_ap {α : Type} (g : List D → Option α) (fs : Ev → Rs (List D)) (ρ : Ev) : cal g fs ρ = (fs ρ >>= fun ds => lift (g ds)) := Eq.trans rfl rfl
@[simp] theorem aNil_ap (ρ : Ev) : aNil ρ = .ok [] := Eq.trans rfl rfl
@[simp] theorem aCons_ap (f : Ev → Rs D) (g : Ev → Rs (List D)) (ρ : Ev) : aCons f g ρ = (f ρ >>= fun d => g ρ >>= fun ds => .ok (d :: ds)) := Eq.trans rfl rfl
@[simp] theorem frz_ap (f : Ev → Rs (List D)) (ρ : Ev) : frz f ρ = (f ρ >>= fun ds => .ok (.list ds)) := Eq.trans rfl rfl
@[simp] theorem its_ap (f : Ev → Rs D) (ρ : Ev) : its f ρ = (f ρ >>= fun d => lift (itO d)) := Eq.trans rfl rfl
@[simp] theorem itO_list (ds : List D) : itO (.list ds) = some ds := Eq.trans rfl rfl
@[simp] theorem itO_tuple (ds : List D) : itO (.tuple ds) = some ds := Eq.trans rfl rfl
@[simp] theorem tst_ap (f : Ev → Rs D) (ρ : Ev) : tst f ρ = (f ρ >>= fun d => lift (asB d)) := Eq.trans rfl rfl
@[simp] theorem asB_bool (b : Bool) : asB (.bool b) = some b := Eq.trans rfl rfl
@[simp] theorem ifB_ap (t : Ev → Rs Bool) (B B' : Ev → Sr) (ρ : Ev) : ifB t B B' ρ = (t ρ).st ρ fun c => if c = true then B ρ else B' ρ := Eq.trans rfl rfl
@[simp] theorem andT_ap (f g : Ev → Rs Bool) (ρ : Ev) : andT f g ρ = (f ρ >>= fun c => if c = true then g ρ else .ok false) := Eq.trans rfl rfl
@[simp] theorem orT_ap (f g : Ev → Rs Bool) (ρ : Ev) : orT f g ρ = (f ρ >>= fun c => if c = true then .ok true else g ρ) := Eq.trans rfl rfl
@[simp] theorem notT_ap (f : Ev → Rs Bool) (ρ : Ev) : notT f ρ = (f ρ >>= fun c => .ok (!c)) := Eq.trans rfl rfl
@[simp] theorem andV_ap (f g : Ev → Rs D) (ρ : Ev) : andV f g ρ = (tst f ρ >>= fun c => if c = true then g ρ else .ok (.bool false)) := Eq.trans rfl rfl
@[simp] theorem orV_ap (f g : Ev → Rs D) (ρ : Ev) : orV f g ρ = (tst f ρ >>= fun c => if c = true then .ok (.bool true) else g ρ) := Eq.trans rfl rfl
@[simp] theorem notV_ap (f : Ev → Rs D) (ρ : Ev) : notV f ρ = (tst f ρ >>= fun c => .ok (.bool (!c))) := Eq.trans rfl rfl
@[simp] theorem chn_ap (g h : D → D → Option D) (fa fb fc : Ev → Rs D) (ρ : Ev) : chn g h fa fb fc ρ = (fa ρ >>= fun x => fb ρ >>= fun y => lift (g x y) >>= fun z => lift (asB z) >>= fun k => if k = true then (fc ρ >>= fun u => lift (h y u)) else .ok (.bool false)) := Eq.trans rfl rfl
@[simp] theorem isiE_ap (T : String) (f : Ev → Rs D) (ρ : Ev) : isiE T f ρ = (f ρ >>= fun d => .ok (.bool (isiB T d))) := Eq.trans rfl rfl
@[simp] theorem fn_ap {α : Type} (sel : Ans → Rs α) (F : List D → Ans) (fs : Ev → Rs (List D)) (ρ : Ev) : fn sel F fs ρ = (fs ρ >>= fun ds => sel (F ds)) := Eq.trans rfl rfl
def selS {α : Type} (sel : Ans → Rs α) (F : List Int → List D → Ans) (fs : Ev → Rs (List D)) (ρ : Ev) : Option En → Rs α
  | some (.sq ns) => if ns.length ≤ 63 then fs ρ >>= fun ds => sel (F ns ds) else .bad
  | _ => .bad
@[simp] theorem fnS_ap {α : Type} (i : Nat) (sel : Ans → Rs α) (F : List Int → List D → Ans) (fs : Ev → Rs (List D)) (ρ : Ev) : fnS i sel F fs ρ = selS sel F fs ρ ρ[i]? := by unfold fnS selS; rfl
@[simp] theorem selS_sq {α : Type} (sel : Ans → Rs α) (F : List Int → List D → Ans) (fs : Ev → Rs (List D)) (ρ : Ev) (ns : List Int) : selS sel F fs ρ (some (.sq ns)) = if ns.length ≤ 63 then fs ρ >>= fun ds => sel (F ns ds) else .bad := Eq.trans rfl rfl
@[simp] theorem ansD_ok (d : D) : ansD (.ok d) = .ok d := Eq.trans rfl rfl
@[simp] theorem ansD_fr (d : List D) : ansD (.fr d) = .ok (.list d) := Eq.trans rfl rfl
@[simp] theorem ansF_fr (d : List D) : ansF (.fr d) = .ok d := Eq.trans rfl rfl
@[simp] theorem ansDL_ok (d : D) : ansDL (.ok d) = if noL d = true then .ok d else .bad := Eq.trans rfl rfl
@[simp] theorem ansDL_fr (d : List D) : ansDL (.fr d) = if d.all noL = true then .ok (.list d) else .bad := Eq.trans rfl rfl
@[simp] theorem ansFL_fr (d : List D) : ansFL (.fr d) = if d.all noL = true then .ok d else .bad := Eq.trans rfl rfl
@[simp] theorem noL_int (i : Int) : noL (.int i) = true := by simp [noL]
@[simp] theorem noL_bool (i : Bool) : noL (.bool i) = true := by simp [noL]
@[simp] theorem noL_str (i : Str) : noL (.str i) = true := by simp [noL]
@[simp] theorem noL_none : noL .none = true := by simp [noL]
@[simp] theorem noL_tuple (ds : List D) : noL (.tuple ds) = ds.all noL := by simp [noL]
def rtA : Ans → Ev → Sr
  | .ok d, _ => .rt d
  | .fr ds, _ => .rf ds
  | .ex c fl, ρ => .ex c fl ρ
  | .bad, _ => .bad
theorem retA_ap0 (F : List D → Ans) (fs : Ev → Rs (List D)) (ρ : Ev) : retA F fs ρ = (fs ρ).st ρ fun ds => match F ds with
  | .ok d => .rt d
  | .fr ds => .rf ds
  | .ex c fl => .ex c fl ρ
  | .bad => .bad := Eq.trans rfl rfl
@[simp] theorem retA_ap (F : List D → Ans) (fs : Ev → Rs (List D)) (ρ : Ev) : retA F fs ρ = (fs ρ).st ρ fun ds => rtA (F ds) ρ := by
  rw [retA_ap0]
  congr 1
  funext ds
  cases F ds <;> rfl
@[simp] theorem rtA_ok (d : D) (ρ : Ev) : rtA (.ok d) ρ = .rt d := Eq.trans rfl rfl
@[simp] theorem rtA_fr (d : List D) (ρ : Ev) : rtA (.fr d) ρ = .rf d := Eq.trans rfl rfl
@[simp] theorem tupE_ap (f : Ev → Rs (List D)) (ρ : Ev) : tupE f ρ = (f ρ >>= fun ds => lift (small ds) >>= fun ds => .ok (.tuple ds)) := Eq.trans rfl rfl
@[simp] theorem lstE_ap (f : Ev → Rs (List D)) (ρ : Ev) : lstE f ρ = (f ρ >>= fun ds => lift (small ds)) := Eq.trans rfl rfl
theorem line_big : 1000000 ≤ sizeLine := by rw [sizeLine_eq]; decide
@[simp] theorem small0 : small [] = some [] := if_pos (Nat.zero_le _)
theorem small_of {ds : List D} (h : ds.length ≤ 1000000) : small ds = some ds := if_pos (Nat.le_trans h line_big)
@[simp] theorem small1 (a : D) : small [a] = some [a] := small_of (by simp)
@[simp] theorem small2 (a b : D) : small [a, b] = some [a, b] := small_of (by simp)
@[simp] theorem small3 (a b c : D) : small [a, b, c] = some [a, b, c] := small_of (by simp)
@[simp] theorem small4 (a b c d : D) : small [a, b, c, d] = some [a, b, c, d] := small_of (by simp)
@[simp] theorem small5 (a b c d e : D) : small [a, b, c, d, e] = some [a, b, c, d, e] := small_of (by simp)
@[simp] theorem small6 (a b c d e f : D) : small [a, b, c, d, e, f] = some [a, b, c, d, e, f] := small_of (by simp)
@[simp] theorem tgE_one (i : Nat) (d : D) (ρ : Ev) : tgE (.one i) d ρ = .ok (ρ.set i (.sh d)) := Eq.trans rfl rfl
@[simp] theorem tgE_tup (is : List Nat) (ds : List D) (ρ : Ev) : tgE (.tup is) (.tuple ds) ρ = lift (setL ρ is ds) := Eq.trans rfl rfl
@[simp] theorem tgE_lst (is : List Nat) (ds : List D) (ρ : Ev) : tgE (.tup is) (.list ds) ρ = lift (setL ρ is ds) := Eq.trans rfl rfl
@[simp] theorem setL_nil (ρ : Ev) : setL ρ [] [] = some ρ := Eq.trans rfl rfl
@[simp] theorem setL_cons (ρ : Ev) (i : Nat) (is : List Nat) (d : D) (ds : List D) : setL ρ (i :: is) (d :: ds) = setL (ρ.set i (.sh d)) is ds := Eq.trans rfl rfl
@[simp] theorem unpB_ap (T : Tg) (f : Ev → Rs D) (ρ : Ev) : unpB T f ρ = (f ρ).st ρ fun d => (tgE T d ρ).st ρ .nx := Eq.trans rfl rfl
def parV (i j : Nat) (ρ : Ev) : List D → Sr
  | [d1, d2] => .nx ((ρ.set i (.sh d1)).set j (.sh d2))
  | _ => .bad
theorem parB_ap0 (i j : Nat) (fs : Ev → Rs (List D)) (ρ : Ev) : parB i j fs ρ = (fs ρ).st ρ fun ds => match ds with
  | [d1, d2] => .nx ((ρ.set i (.sh d1)).set j (.sh d2))
  | _ => .bad := Eq.trans rfl rfl
@[simp] theorem parB_ap (i j : Nat) (fs : Ev → Rs (List D)) (ρ : Ev) : parB i j fs ρ = (fs ρ).st ρ fun ds => parV i j ρ ds := by
  rw [parB_ap0]
  congr 1
@[simp] theorem parV_2 (i j : Nat) (ρ : Ev) (d1 d2 : D) : parV i j ρ [d1, d2] = .nx ((ρ.set i (.sh d1)).set j (.sh d2)) := Eq.trans rfl rfl
def owV (k : List D → Sr) : Option En → Sr
  | some (.ow ds) => k ds
  | _ => .bad
@[simp] theorem owV_ow (k : List D → Sr) (ds : List D) : owV k (some (.ow ds)) = k ds := Eq.trans rfl rfl
@[simp] theorem appB_ap (i : Nat) (f : Ev → Rs D) (ρ : Ev) : appB i f ρ = owV (fun ds => (f ρ).st ρ fun d => if ds.length < sizeLine then .nx (ρ.set i (.ow (ds ++ [d]))) else .bad) ρ[i]? := by unfold appB owAt owV; rfl
@[simp] theorem putB_ap (i : Nat) (fk f : Ev → Rs D) (ρ : Ev) : putB i fk f ρ = (f ρ).st ρ fun d => owV (fun ds => (fk ρ).st ρ fun k => putAt i ρ ds d k) ρ[i]? := by unfold putB owAt owV; rfl
theorem putAt_ok {i : Nat} {ρ : Ev} {ds : List D} {d : D} {z : Int} (h0 : 0 ≤ z) (h1 : z < ds.length) : putAt i ρ ds d (.int z) = .nx (ρ.set i (.ow (ds.set z.toNat d))) := by
  unfold putAt
  have : L2.ixN ds.length z = some z.toNat := by unfold L2.ixN; rw [if_pos h0, if_pos h1]
  simp only [this]
def frzV (i : Nat) (B : Ev → Sr) (ρ : Ev) : Option En → Sr
  | some (.ow ds) => B (ρ.set i (.sh (.list ds)))
  | _ => B ρ
@[simp] theorem frzAt_ap (i : Nat) (B : Ev → Sr) (ρ : Ev) : frzAt i B ρ = frzV i B ρ ρ[i]? := by unfold frzAt frzV; rfl
@[simp] theorem frzV_ow (i : Nat) (B : Ev → Sr) (ρ : Ev) (ds : List D) : frzV i B ρ (some (.ow ds)) = B (ρ.set i (.sh (.list ds))) := Eq.trans rfl rfl
@[simp] theorem frzV_sh (i : Nat) (B : Ev → Sr) (ρ : Ev) (d : D) : frzV i B ρ (some (.sh d)) = B ρ := Eq.trans rfl rfl
@[simp] theorem forB_ap (T : Tg) (fi : Ev → Rs (List D)) (B : Ev → Sr) (ρ : Ev) : forB T fi B ρ = (fi ρ).st ρ fun ds => loopB T B ds ρ := Eq.trans rfl rfl
@[simp] theorem part_ap (f : Ev → Rs D) (ρ : Ev) : part f ρ = (f ρ >>= fun d => lift (asI d)) := Eq.trans rfl rfl
@[simp] theorem noPart_ap (ρ : Ev) : noPart ρ = .ok none := Eq.trans rfl rfl
@[simp] theorem asI_int (i : Int) : asI (.int i) = some (some i) := Eq.trans rfl rfl
@[simp] theorem sl3_ap {α : Type} (g : D → Option Int → Option Int → Option α) (fa : Ev → Rs D) (fl fh : Ev → Rs (Option Int)) (ρ : Ev) : sl3 g fa fl fh ρ = (fa ρ >>= fun x => fl ρ >>= fun l => fh ρ >>= fun h => lift (g x l h)) := Eq.trans rfl rfl
@[simp] theorem slO_list (ds : List D) (l h : Option Int) : slO (.list ds) l h = some (cutL ds l h) := Eq.trans rfl rfl
def slV (fl fh : Ev → Rs (Option Int)) (ρ : Ev) : Option En → Rs (List D)
  | some (.sq ns) => fl ρ >>= fun l => fh ρ >>= fun h => .ok (cutL (ns.map PyData.int) l h)
  | _ => .bad
@[simp] theorem slS_ap (i : Nat) (fl fh : Ev → Rs (Option Int)) (ρ : Ev) : slS i fl fh ρ = slV fl fh ρ ρ[i]? := by unfold slS slV; rfl
@[simp] theorem slV_sq (fl fh : Ev → Rs (Option Int)) (ρ : Ev) (ns : List Int) : slV fl fh ρ (some (.sq ns)) = (fl ρ >>= fun l => fh ρ >>= fun h => .ok (cutL (ns.map PyData.int) l h)) := Eq.trans rfl rfl
@[simp] theorem cmp_ap (fi : Ev → Rs (List D)) (T : Tg) (vs : List Nat) (tt : Ev → Rs Bool) (fe : Ev → Rs D) (ρ : Ev) : cmp fi T vs tt fe ρ = (fi ρ >>= fun ds => if ds.length < sizeLine then lift (fmO (turnC T tt fe (wipeE ρ vs)) ds) else .bad) := Eq.trans rfl rfl
@[simp] theorem yesT_ap (ρ : Ev) : yesT ρ = .ok true := Eq.trans rfl rfl
@[simp] theorem noX_ok' {α : Type} (a : α) : noX (.ok a) = some a := Eq.trans rfl rfl
@[simp] theorem wipeE_nil (ρ : Ev) : wipeE ρ [] = ρ := Eq.trans rfl rfl
@[simp] theorem wipeE_cons (ρ : Ev) (v : Nat) (vs : List Nat) : wipeE ρ (v :: vs) = (wipeE ρ vs).set v .no := Eq.trans rfl rfl
@[simp] theorem addO_int (i j : Int) : addO (.int i) (.int j) = some (.int (i + j)) := Eq.trans rfl rfl
@[simp] theorem subO_int (i j : Int) : subO (.int i) (.int j) = some (.int (i - j)) := Eq.trans rfl rfl
@[simp] theorem negO_int (i : Int) : negO (.int i) = some (.int (-i)) := Eq.trans rfl rfl
@[simp] theorem ltO_int (i j : Int) : ltO (.int i) (.int j) = some (.bool (decide (i < j))) := Eq.trans rfl rfl
@[simp] theorem leO_int (i j : Int) : leO (.int i) (.int j) = some (.bool (decide (i ≤ j))) := Eq.trans rfl rfl
@[simp] theorem gtO_int (i j : Int) : gtO (.int i) (.int j) = some (.bool (decide (j < i))) := Eq.trans rfl rfl
@[simp] theorem geO_int (i j : Int) : geO (.int i) (.int j) = some (.bool (decide (j ≤ i))) := Eq.trans rfl rfl
@[simp] theorem ixO_list (xs : List D) (i : Int) : ixO (.list xs) (.int i) = L2.atI xs i := Eq.trans rfl rfl
@[simp] theorem ixO_tuple (xs : List D) (i : Int) : ixO (.tuple xs) (.int i) = L2.atI xs i := Eq.trans rfl rfl
@[simp] theorem lenO_list (xs : List D) : lenO [.list xs] = some (.int xs.length) := Eq.trans rfl rfl
@[simp] theorem lenO_tuple (xs : List D) : lenO [.tuple xs] = some (.int xs.length) := Eq.trans rfl rfl
@[simp] theorem absO_int (i : Int) : absO [.int i] = some (.int (if i < 0 then -i else i)) := Eq.trans rfl rfl
@[simp] theorem max2O_int (i j : Int) : max2O [.int i, .int j] = some (.int (max i j)) := by
  have h : (if j > i then j else i) = max i j := by rw [Int.max_def]; split <;> split <;> omega
  show some (PyData.int (if j > i then j else i)) = _
  rw [h]
@[simp] theorem min2O_int (i j : Int) : min2O [.int i, .int j] = some (.int (min i j)) := by
  have h : (if j < i then j else i) = min i j := by rw [Int.min_def]; split <;> split <;> omega
  show some (PyData.int (if j < i then j else i)) = _
  rw [h]
@[simp] theorem intO_int (i : Int) : intO [.int i] = some (.int i) := Eq.trans rfl rfl
@[simp] theorem listO_list (xs : List D) : listO [.list xs] = some xs := Eq.trans rfl rfl
@[simp] theorem listO_tuple (xs : List D) : listO [.tuple xs] = some xs := Eq.trans rfl rfl
@[simp] theorem sumO_ints (ns : List Int) : sumO [.list (ns.map PyData.int)] = some (.int ns.sum) := by unfold sumO; simp only [intsOf_map, Option.map_some]
@[simp] theorem sortedO_ints (ns : List Int) : sortedO [.list (ns.map PyData.int)] = some ((sortI ns).map PyData.int) := by unfold sortedO; simp only [intsOf_map, Option.map_some]
theorem repO_1 {d : D} {k : Nat} (h : k ≤ 1000000) : repO (.list [d]) (.int (k : Int)) = some (List.replicate k d) := by
  unfold repO
  simp only
  have h1 : [d].length * (k : Int).toNat ≤ sizeLine := by
    have := line_big
    simp only [List.length_cons, List.length_nil, Int.toNat_natCast]
    omega
  have h2 : -(2 ^ 63) ≤ (k : Int) ∧ (k : Int) < 2 ^ 63 := by omega
  rw [if_pos ⟨h2.1, h2.2, h1⟩]
  simp
theorem catO_ok {xs ys : List D} (h : xs.length + ys.length ≤ 1000000) : catO (.list xs) (.list ys) = some (xs ++ ys) := by
  unfold catO
  simp only
  rw [if_pos (Nat.le_trans h line_big)]
theorem addO_list {xs ys : List D} (h : xs.length + ys.length ≤ 1000000) : addO (.list xs) (.list ys) = some (.list (xs ++ ys)) := by
  unfold addO
  simp only
  rw [if_pos (Nat.le_trans h line_big)]
theorem mulO_r {i j : Int} (h : j.natAbs < 2 ^ 64) : mulO (.int i) (.int j) = some (.int (i * j)) := if_pos (.inr (.inl h))
theorem mulO_l {i j : Int} (h : i.natAbs < 2 ^ 64) : mulO (.int i) (.int j) = some (.int (i * j)) := if_pos (.inl h)
theorem modO_p {i j : Int} (h : 0 < j) : modO (.int i) (.int j) = some (.int (i % j)) := if_pos h
theorem divO_p {i j : Int} (h : 0 < j) (h2 : j.natAbs < 2 ^ 9000) : divO (.int i) (.int j) = some (.int (i / j)) := if_pos ⟨h, PySem.Flt.log2_lt_of (by decide) h2⟩
theorem divO_s {i j : Int} (h : 0 < j) (h2 : j.natAbs < 2 ^ 64) : divO (.int i) (.int j) = some (.int (i / j)) := if_pos ⟨h, Nat.lt_of_lt_of_le (PySem.Flt.log2_lt_of (by decide) h2) (by decide)⟩
@[simp] theorem powO_lit : powO (.int 10) (.int 18) = some (.int 1000000000000000000) := by
  show (if (0 : Int) ≤ 18 ∧ (18 : Int) ≤ 1000000 ∧ (10 : Int).natAbs < 2 ^ 64 then some (PyData.int ((10 : Int) ^ (18 : Int).toNat)) else none) = _
  rw [if_pos (by decide)]
  rfl
theorem rng1_ok {j : Int} (h0 : -1000000000 ≤ j) (h1 : j ≤ 1000000000) : rng1 [.int j] = some (rngD 0 j.toNat) := if_pos (by omega)
theorem rng2_ok {i j : Int} (h0 : -1000000000 ≤ i) (h1 : i ≤ 1000000000) (h2 : -1000000000 ≤ j) (h3 : j ≤ 1000000000) : rng2 [.int i, .int j] = some (rngD i (j - i).toNat) := if_pos (by omega)
theorem rng1_nat {n : Nat} (h1 : n ≤ 1000000000) : rng1 [.int (n : Int)] = some (rngD 0 n) := by
  rw [rng1_ok (by omega) (by omega), Int.toNat_natCast]
@[simp] theorem finA_nx (ρ : Ev) : finA (.nx ρ) = .ok .none := Eq.trans rfl rfl
@[simp] theorem finA_rt (d : D) : finA (.rt d) = .ok d := Eq.trans rfl rfl
@[simp] theorem finA_rf (d : List D) : finA (.rf d) = .fr d := Eq.trans rfl rfl
@[simp] theorem isiB_int (i : Int) : isiB "int" (.int i) = true := by simp [isiB, tyN]
@[simp] theorem isiB_int_b (i : Int) : isiB "bool" (.int i) = false := by simp [isiB, tyN]
@[simp] theorem isiB_list (ds : List D) : isiB "list" (.list ds) = true := by simp [isiB, tyN]
@[simp] theorem isiB_tuple (ds : List D) : isiB "tuple" (.tuple ds) = true := by simp [isiB, tyN]

/-! equality -/
theorem eqO_of {d e : D} {p : Bool} (h1 : SeqAt.shaped d = true) (h2 : SeqAt.shaped e = true) (h : PyData.eqv d e = p) : eqO d e = some (.bool p) := by
  rw [← h]; exact if_pos ⟨h1, h2⟩
theorem neO_of {d e : D} {p : Bool} (h1 : SeqAt.shaped d = true) (h2 : SeqAt.shaped e = true) (h : PyData.eqv d e = p) : neO d e = some (.bool (!p)) := by
  rw [← h]; exact if_pos ⟨h1, h2⟩
theorem shaped_of {d : D} (h : d.canLay0 = true) (h2 : d.depth ≤ 64) : SeqAt.shaped d = true := by
  unfold SeqAt.shaped
  rw [h, decide_eq_true h2]
  rfl
/-- f writes α's values as data: equal if and only if they are equal, of depth at most n -/
structure Fine {α : Type} [DecidableEq α] (f : α → D) (n : Nat) : Prop where
  eqv : ∀ a b, PyData.eqv (f a) (f b) = decide (a = b)
  lay : ∀ a, (f a).canLay0 = true
  dep : ∀ a, (f a).depth ≤ n
section
variable {α β γ δ : Type} [DecidableEq α] [DecidableEq β] [DecidableEq γ] [DecidableEq δ] {f : α → D} {g : β → D} {h : γ → D} {k : δ → D} {n m : Nat}
theorem Fine.mono (F : Fine f n) (h : n ≤ m) : Fine f m := ⟨F.eqv, F.lay, fun a => Nat.le_trans (F.dep a) h⟩
theorem fine_int : Fine PyData.int 0 := ⟨fun a b => by simp only [PyData.eqv]; exact Bool.beq_eq_decide_eq a b, fun a => by simp [PyData.canLay0], fun a => by simp [PyData.depth]⟩
theorem fine_bool : Fine PyData.bool 0 := ⟨fun a b => by simp only [PyData.eqv]; exact Bool.beq_eq_decide_eq a b, fun a => by simp [PyData.canLay0], fun a => by simp [PyData.depth]⟩
theorem eqvAll_map (F : Fine f n) : ∀ xs ys : List α, PyData.eqvAll (xs.map f) (ys.map f) = decide (xs = ys)
  | [], [] => by simp [PyData.eqvAll]
  | [], y :: ys => by simp [PyData.eqvAll]
  | x :: xs, [] => by simp [PyData.eqvAll]
  | x :: xs, y :: ys => by
    simp only [List.map_cons, PyData.eqvAll, F.eqv, eqvAll_map F xs ys, List.cons.injEq, Bool.decide_and]
theorem layAll_map (F : Fine f n) : ∀ xs : List α, PyData.canLayAll0 (xs.map f) = true
  | [] => by simp [PyData.canLayAll0]
  | x :: xs => by simp only [List.map_cons, PyData.canLayAll0, F.lay, layAll_map F xs, Bool.and_self]
theorem depAll_map (F : Fine f n) : ∀ xs : List α, PyData.depthAll (xs.map f) ≤ n
  | [] => by simp [PyData.depthAll]
  | x :: xs => by
    simp only [List.map_cons, PyData.depthAll]
    have := F.dep x
    have := depAll_map F xs
    omega
theorem fine_list (F : Fine f n) : Fine (fun xs : List α => PyData.list (xs.map f)) (n + 1) :=
  ⟨fun xs ys => by simp only [PyData.eqv]; exact eqvAll_map F xs ys, fun xs => by simp only [PyData.canLay0]; exact layAll_map F xs, fun xs => by simp only [PyData.depth]; have := depAll_map F xs; omega⟩
theorem fine_tup (F : Fine f n) : Fine (fun xs : List α => PyData.tuple (xs.map f)) (n + 1) :=
  ⟨fun xs ys => by simp only [PyData.eqv]; exact eqvAll_map F xs ys, fun xs => by simp only [PyData.canLay0]; exact layAll_map F xs, fun xs => by simp only [PyData.depth]; have := depAll_map F xs; omega⟩
theorem fine_2 (F : Fine f n) (G : Fine g n) : Fine (fun p : α × β => PyData.tuple [f p.1, g p.2]) (n + 1) :=
  ⟨fun p q => by
    simp only [PyData.eqv, PyData.eqvAll, F.eqv, G.eqv, Bool.and_true, ← Bool.decide_and]
    exact decide_eq_decide.mpr ⟨fun e => Prod.ext e.1 e.2, fun e => by rw [e]; exact ⟨rfl, rfl⟩⟩,
   fun p => by simp only [PyData.canLay0, PyData.canLayAll0, F.lay, G.lay, Bool.and_self], fun p => by simp only [PyData.depth, PyData.depthAll]; have := F.dep p.1; have := G.dep p.2; omega⟩
theorem fine_3 (F : Fine f n) (G : Fine g n) (H : Fine h n) : Fine (fun p : α × β × γ => PyData.tuple [f p.1, g p.2.1, h p.2.2]) (n + 1) :=
  ⟨fun p q => by
    simp only [PyData.eqv, PyData.eqvAll, F.eqv, G.eqv, H.eqv, Bool.and_true, ← Bool.decide_and]
    exact decide_eq_decide.mpr ⟨fun e => Prod.ext e.1 (Prod.ext e.2.1 e.2.2), fun e => by rw [e]; exact ⟨rfl, rfl, rfl⟩⟩,
   fun p => by simp only [PyData.canLay0, PyData.canLayAll0, F.lay, G.lay, H.lay, Bool.and_self], fun p => by simp only [PyData.depth, PyData.depthAll]; have := F.dep p.1; have := G.dep p.2.1; have := H.dep p.2.2; omega⟩
theorem fine_4 (F : Fine f n) (G : Fine g n) (H : Fine h n) (L : Fine k n) : Fine (fun p : α × β × γ × δ => PyData.tuple [f p.1, g p.2.1, h p.2.2.1, k p.2.2.2]) (n + 1) :=
  ⟨fun p q => by
    simp only [PyData.eqv, PyData.eqvAll, F.eqv, G.eqv, H.eqv, L.eqv, Bool.and_true, ← Bool.decide_and]
    exact decide_eq_decide.mpr ⟨fun e => Prod.ext e.1 (Prod.ext e.2.1 (Prod.ext e.2.2.1 e.2.2.2)), fun e => by rw [e]; exact ⟨rfl, rfl, rfl, rfl⟩⟩,
   fun p => by simp only [PyData.canLay0, PyData.canLayAll0, F.lay, G.lay, H.lay, L.lay, Bool.and_self], fun p => by simp only [PyData.depth, PyData.depthAll]; have := F.dep p.1; have := G.dep p.2.1; have := H.dep p.2.2.1; have := L.dep p.2.2.2; omega⟩
theorem fine_asL {F : α → List D} (h : Fine (fun a => PyData.tuple (F a)) n) : Fine (fun a => PyData.list (F a)) n :=
  ⟨fun a b => by have := h.eqv a b; simp only [PyData.eqv] at this ⊢; exact this, fun a => by have := h.lay a; simp only [PyData.canLay0] at this ⊢; exact this, fun a => by have := h.dep a; simp only [PyData.depth] at this ⊢; exact this⟩
theorem fine_comp (F : Fine f n) (g : β → α) (inj : ∀ a b, g a = g b → a = b) : Fine (fun b => f (g b)) n :=
  ⟨fun a b => by rw [F.eqv]; exact decide_eq_decide.mpr ⟨inj a b, fun h => by rw [h]⟩, fun a => F.lay _, fun a => F.dep _⟩
/-- a number or None -/
def oI : Option Int → D
  | some i => .int i
  | none => .none
theorem fine_oI : Fine oI 0 :=
  ⟨fun a b => by cases a <;> cases b <;> simp [oI, PyData.eqv, Bool.beq_eq_decide_eq], fun a => by cases a <;> simp [oI, PyData.canLay0], fun a => by cases a <;> simp [oI, PyData.depth]⟩
theorem Fine.sh (F : Fine f n) (a : α) (h : n ≤ 64) : SeqAt.shaped (f a) = true := shaped_of (F.lay a) (Nat.le_trans (F.dep a) h)
theorem Fine.eq (F : Fine f n) (a b : α) (h : n ≤ 64 := by decide) : eqO (f a) (f b) = some (.bool (decide (a = b))) := eqO_of (F.sh a h) (F.sh b h) (F.eqv a b)
theorem Fine.ne (F : Fine f n) (a b : α) (h : n ≤ 64 := by decide) : neO (f a) (f b) = some (.bool (!decide (a = b))) := neO_of (F.sh a h) (F.sh b h) (F.eqv a b)
theorem Fine.any (F : Fine f n) (a : α) : ∀ xs : List α, (xs.map f).any (fun z => PyData.eqv z (f a)) = decide (a ∈ xs)
  | [] => by simp
  | x :: xs => by
    rw [List.map_cons, List.any_cons, F.eqv, F.any a xs]
    simp only [List.mem_cons, Bool.decide_or]
    congr 1
    exact decide_eq_decide.mpr ⟨fun e => e.symm, fun e => e.symm⟩
theorem Fine.inn (F : Fine f n) (a : α) (xs : List α) (h : n + 1 ≤ 64 := by decide) : inO (f a) (.list (xs.map f)) = some (.bool (decide (a ∈ xs))) := by
  rw [← F.any a xs]
  exact if_pos ⟨F.sh a (by omega), (fine_list F).sh xs h⟩
theorem Fine.nin (F : Fine f n) (a : α) (xs : List α) (h : n + 1 ≤ 64 := by decide) : notinO (f a) (.list (xs.map f)) = some (.bool (!decide (a ∈ xs))) := by
  rw [← F.any a xs]
  exact if_pos ⟨F.sh a (by omega), (fine_list F).sh xs h⟩
end
@[simp] theorem eqO_int (i j : Int) : eqO (.int i) (.int j) = some (.bool (decide (i = j))) := fine_int.eq i j
@[simp] theorem neO_int (i j : Int) : neO (.int i) (.int j) = some (.bool (!decide (i = j))) := fine_int.ne i j
@[simp] theorem isO_none (d : D) : isO d .none = some (.bool (isN d)) := Eq.trans rfl rfl
@[simp] theorem isnotO_none (d : D) : isnotO d .none = some (.bool (!isN d)) := Eq.trans rfl rfl
@[simp] theorem isN_int (i : Int) : isN (.int i) = false := Eq.trans rfl rfl
@[simp] theorem isN_list (i : List D) : isN (.list i) = false := Eq.trans rfl rfl
@[simp] theorem isN_none : isN .none = true := Eq.trans rfl rfl
@[simp] theorem isN_oI (o : Option Int) : isN (oI o) = o.isNone := by cases o <;> rfl
@[simp] theorem oI_some (i : Int) : oI (some i) = .int i := Eq.trans rfl rfl
@[simp] theorem oI_none : oI none = .none := Eq.trans rfl rfl
/-! ### loops -/
theorem rngD_len (lo : Int) (n : Nat) : (rngD lo n).length = n := by simp [rngD]
/-- one turn -/
def Sr.ctn : Sr → Sr
  | .ct ρ => .nx ρ
  | r => r
@[simp] theorem ctn_nx (ρ : Ev) : (Sr.nx ρ).ctn = .nx ρ := Eq.trans rfl rfl
@[simp] theorem ctn_ct (ρ : Ev) : (Sr.ct ρ).ctn = .nx ρ := Eq.trans rfl rfl
@[simp] theorem ctn_rt (d : D) : (Sr.rt d).ctn = .rt d := Eq.trans rfl rfl
@[simp] theorem ctn_rf (d : List D) : (Sr.rf d).ctn = .rf d := Eq.trans rfl rfl
@[simp] theorem ctn_bk (ρ : Ev) : (Sr.bk ρ).ctn = .bk ρ := Eq.trans rfl rfl
def turn (T : Tg) (B : Ev → Sr) (d : D) (ρ : Ev) : Sr := ((tgE T d ρ).st ρ B).ctn
@[simp] theorem turn_ap (T : Tg) (B : Ev → Sr) (d : D) (ρ : Ev) : turn T B d ρ = ((tgE T d ρ).st ρ B).ctn := Eq.trans rfl rfl
theorem loop_nil (T : Tg) (B : Ev → Sr) (ρ : Ev) : loopB T B [] ρ = .nx ρ := rfl
theorem loop_cons (T : Tg) (B : Ev → Sr) (d : D) (ds : List D) (ρ : Ev) : loopB T B (d :: ds) ρ = match turn T B d ρ with
    | .nx ρ2 => loopB T B ds ρ2
    | .bk ρ2 => .nx ρ2
    | r => r := by
  conv => lhs; unfold loopB
  unfold turn
  cases tgE T d ρ with
  | ok ρ1 => simp only [Rs.st_ok]; cases B ρ1 <;> rfl
  | ex c fs => rfl
  | bad => rfl
theorem loop_ex {T : Tg} {B : Ev → Sr} (I : Nat → Ev → Prop) : ∀ (ds : List D) (ρ : Ev) (k : Nat), I k ρ →
    (∀ i d ρ, ds[i]? = some d → I (k + i) ρ → ∃ ρ2, turn T B d ρ = .nx ρ2 ∧ I (k + i + 1) ρ2) → ∃ ρ', loopB T B ds ρ = .nx ρ' ∧ I (k + ds.length) ρ'
  | [], ρ, k, h0, _ => ⟨ρ, rfl, h0⟩
  | d :: ds, ρ, k, h0, hs => by
    obtain ⟨ρ2, e2, h2⟩ := hs 0 d ρ rfl h0
    obtain ⟨ρ', e3, h3⟩ := loop_ex I ds ρ2 (k + 1) h2 fun i d ρ hd hi => by
      have := hs (i + 1) d ρ (by simpa using hd) (by rw [show k + (i + 1) = k + 1 + i by omega]; exact hi)
      rw [show k + (i + 1) + 1 = k + 1 + i + 1 by omega] at this
      exact this
    refine ⟨ρ', ?_, by rw [List.length_cons, show k + (ds.length + 1) = k + 1 + ds.length by omega]; exact h3⟩
    rw [loop_cons, e2]
    exact e3
/-- over a list -/
theorem loop_list {T : Tg} {B : Ev → Sr} (I : Nat → Ev → Prop) {ds : List D} {ρ : Ev} (h0 : I 0 ρ) (hs : ∀ i d ρ, ds[i]? = some d → I i ρ → ∃ ρ2, turn T B d ρ = .nx ρ2 ∧ I (i + 1) ρ2) : ∃ ρ', loopB T B ds ρ = .nx ρ' ∧ I ds.length ρ' := by
  have := loop_ex (T := T) (B := B) I ds ρ 0 h0 fun i d ρ hd hi => by
    rw [Nat.zero_add] at hi ⊢
    exact hs i d ρ hd hi
  rw [Nat.zero_add] at this
  exact this
/-- over a range -/
theorem loop_rng {T : Tg} {B : Ev → Sr} (I : Nat → Ev → Prop) {lo : Int} {n : Nat} {ρ : Ev} (h0 : I 0 ρ)
    (hs : ∀ i ρ, i < n → I i ρ → ∃ ρ2, turn T B (.int (lo + i)) ρ = .nx ρ2 ∧ I (i + 1) ρ2) : ∃ ρ', loopB T B (rngD lo n) ρ = .nx ρ' ∧ I n ρ' := by
  have := loop_list (T := T) (B := B) I (ds := rngD lo n) (ρ := ρ) h0 fun i d ρ hd hi => by
    obtain ⟨hl, rfl⟩ := rngD_get hd
    exact hs i ρ hl hi
  rw [rngD_len] at this
  exact this
/-- over data of one kind: a fold -/
theorem loop_fold {α β : Type} {T : Tg} {B : Ev → Sr} (f : α → D) (g : β → α → β) (S : β → Ev → Prop) : ∀ (xs : List α) (b : β) (ρ : Ev), S b ρ →
    (∀ b a ρ, a ∈ xs → S b ρ → ∃ ρ2, turn T B (f a) ρ = .nx ρ2 ∧ S (g b a) ρ2) → ∃ ρ', loopB T B (xs.map f) ρ = .nx ρ' ∧ S (xs.foldl g b) ρ'
  | [], b, ρ, h0, _ => ⟨ρ, rfl, h0⟩
  | a :: xs, b, ρ, h0, hs => by
    obtain ⟨ρ2, e2, h2⟩ := hs b a ρ List.mem_cons_self h0
    obtain ⟨ρ', e3, h3⟩ := loop_fold f g S xs (g b a) ρ2 h2 fun b a ρ ha => hs b a ρ (List.mem_cons_of_mem _ ha)
    refine ⟨ρ', ?_, h3⟩
    rw [List.map_cons, loop_cons, e2]
    exact e3
/-- a loop that leaves at the first item that fails -/
theorem loop_chk {α : Type} {T : Tg} {B : Ev → Sr} (f : α → D) (p : α → Bool) (d : D) (S : Ev → Prop) : ∀ (xs : List α) (ρ : Ev), S ρ →
    (∀ a ρ, a ∈ xs → S ρ → (p a = true → ∃ ρ2, turn T B (f a) ρ = .nx ρ2 ∧ S ρ2) ∧ (p a = false → turn T B (f a) ρ = .rt d)) →
    (xs.all p = true → ∃ ρ', loopB T B (xs.map f) ρ = .nx ρ' ∧ S ρ') ∧ (xs.all p = false → loopB T B (xs.map f) ρ = .rt d)
  | [], ρ, h0, _ => ⟨fun _ => ⟨ρ, rfl, h0⟩, fun h => by cases h⟩
  | a :: xs, ρ, h0, hs => by
    obtain ⟨h1, h2⟩ := hs a ρ List.mem_cons_self h0
    cases hp : p a with
    | false =>
      refine ⟨(fun h => by rw [List.all_cons, hp] at h; cases h), fun _ => ?_⟩
      rw [List.map_cons, loop_cons, h2 hp]
    | true =>
      obtain ⟨ρ2, e2, g2⟩ := h1 hp
      obtain ⟨k1, k2⟩ := loop_chk f p d S xs ρ2 g2 fun a ρ ha => hs a ρ (List.mem_cons_of_mem _ ha)
      rw [List.all_cons, hp, Bool.true_and, List.map_cons, loop_cons, e2]
      exact ⟨k1, k2⟩
theorem sfx_drop {α : Type} {o : List α} {k : Nat} (h : k < o.length) : (o[k] :: o.drop (k + 1)) <:+ o := by
  rw [← List.drop_eq_getElem_cons h]; exact List.drop_suffix k o
/-- over a list that is told latest first -/
theorem loop_revL {α : Type} {T : Tg} {B : Ev → Sr} (f : α → D) (S : List α → Ev → Prop) {o : List α} {ρ : Ev} (h0 : S [] ρ)
    (hs : ∀ p o' ρ, (p :: o') <:+ o → S o' ρ → ∃ ρ2, turn T B (f p) ρ = .nx ρ2 ∧ S (p :: o') ρ2) : ∃ ρ', loopB T B (o.reverse.map f) ρ = .nx ρ' ∧ S o ρ' := by
  have := loop_list (T := T) (B := B) (ds := o.reverse.map f) (ρ := ρ) (fun i ρ => S (o.drop (o.length - i)) ρ) (by simpa using h0) fun i d ρ hd hi => by
    have hl : i < o.length := by have := (List.getElem?_eq_some_iff.mp hd).1; simpa using this
    have hk : o.length - (i + 1) < o.length := by omega
    rw [List.getElem?_map, List.getElem?_reverse hl] at hd
    rw [show o.length - 1 - i = o.length - (i + 1) by omega, List.getElem?_eq_getElem hk] at hd
    cases hd
    have e := List.drop_eq_getElem_cons hk
    rw [e]
    have e2 : o.length - (i + 1) + 1 = o.length - i := by omega
    rw [e2]
    exact hs _ _ ρ (by have := sfx_drop hk; rw [e2] at this; exact this) hi
  simpa using this
/-- .. by its places -/
theorem loop_revI {α : Type} {T : Tg} {B : Ev → Sr} (S : List α → Ev → Prop) {o : List α} {ρ : Ev} (h0 : S [] ρ)
    (hs : ∀ p o' ρ, (p :: o') <:+ o → S o' ρ → ∃ ρ2, turn T B (.int (o'.length : Nat)) ρ = .nx ρ2 ∧ S (p :: o') ρ2) : ∃ ρ', loopB T B (rngD 0 o.length) ρ = .nx ρ' ∧ S o ρ' := by
  have := loop_rng (T := T) (B := B) (lo := 0) (n := o.length) (ρ := ρ) (fun i ρ => S (o.drop (o.length - i)) ρ) (by simpa using h0) fun i ρ hl hi => by
    have hk : o.length - (i + 1) < o.length := by omega
    have e := List.drop_eq_getElem_cons hk
    rw [e]
    have e2 : o.length - (i + 1) + 1 = o.length - i := by omega
    rw [e2]
    have := hs _ _ ρ (by have := sfx_drop hk; rw [e2] at this; exact this) hi
    rw [show (((o.drop (o.length - i)).length : Nat) : Int) = 0 + (i : Int) by simp; omega] at this
    exact this
  simpa using this
theorem rev_at {α : Type} {o o' : List α} {p : α} (h : (p :: o') <:+ o) : o.reverse[o'.length]? = some p := by
  obtain ⟨pre, rfl⟩ := h
  rw [List.reverse_append, List.reverse_cons, List.getElem?_append_left (by simp), List.getElem?_append_right (by simp)]
  simp
theorem rngD_map (lo : Int) (n : Nat) : rngD lo n = (List.range n).map fun (i : Nat) => PyData.int (lo + (i : Int)) := rfl
/-! ### comprehensions -/
theorem fmO_map {α : Type} {h : D → Option (Option α)} {g : D → α} : ∀ {ds : List D}, (∀ d ∈ ds, h d = some (some (g d))) → fmO h ds = some (ds.map g)
  | [], _ => rfl
  | d :: ds, e => by
    unfold fmO
    rw [e d List.mem_cons_self, fmO_map fun d hd => e d (List.mem_cons_of_mem _ hd)]
    rfl
theorem fmO_filter {α : Type} {h : D → Option (Option α)} {p : D → Bool} {g : D → α} : ∀ {ds : List D}, (∀ d ∈ ds, h d = some (if p d = true then some (g d) else none)) → fmO h ds = some ((ds.filter p).map g)
  | [], _ => rfl
  | d :: ds, e => by
    unfold fmO
    rw [e d List.mem_cons_self, fmO_filter fun d hd => e d (List.mem_cons_of_mem _ hd)]
    by_cases hp : p d = true
    · rw [if_pos hp, List.filter_cons_of_pos hp]; rfl
    · rw [if_neg hp, List.filter_cons_of_neg hp]; rfl
theorem cmp_list {α : Type} {fi : Ev → Rs (List D)} {T : Tg} {vs : List Nat} {tt : Ev → Rs Bool} {fe : Ev → Rs D} {ρ : Ev} (f : α → D) (g : α → D) {xs : List α} (h1 : fi ρ = .ok (xs.map f)) (h2 : xs.length < 1000000) (h : ∀ a ∈ xs, turnC T tt fe (wipeE ρ vs) (f a) = some (some (g a))) :
    cmp fi T vs tt fe ρ = .ok (xs.map g) := by
  rw [cmp_ap, h1, Rs.ok_bd, if_pos (by rw [List.length_map]; exact Nat.lt_of_lt_of_le h2 line_big)]
  have : ∀ xs : List α, (∀ a ∈ xs, turnC T tt fe (wipeE ρ vs) (f a) = some (some (g a))) → fmO (turnC T tt fe (wipeE ρ vs)) (xs.map f) = some (xs.map g) := by
    intro xs
    induction xs with
    | nil => intro _; rfl
    | cons a xs ih =>
      intro h
      rw [List.map_cons, fmO, h a List.mem_cons_self, Option.bind_some, ih fun b hb => h b (List.mem_cons_of_mem _ hb)]
      rfl
  rw [this xs h]
  rfl
theorem cmp_flt {α : Type} {fi : Ev → Rs (List D)} {T : Tg} {vs : List Nat} {tt : Ev → Rs Bool} {fe : Ev → Rs D} {ρ : Ev} (f : α → D) (p : α → Bool) (g : α → D) {xs : List α} (h1 : fi ρ = .ok (xs.map f)) (h2 : xs.length < 1000000) (h : ∀ a ∈ xs, turnC T tt fe (wipeE ρ vs) (f a) = some (if p a = true then some (g a) else none)) :
    cmp fi T vs tt fe ρ = .ok ((xs.filter p).map g) := by
  rw [cmp_ap, h1, Rs.ok_bd, if_pos (by rw [List.length_map]; exact Nat.lt_of_lt_of_le h2 line_big)]
  have : ∀ xs : List α, (∀ a ∈ xs, turnC T tt fe (wipeE ρ vs) (f a) = some (if p a = true then some (g a) else none)) → fmO (turnC T tt fe (wipeE ρ vs)) (xs.map f) = some ((xs.filter p).map g) := by
    intro xs
    induction xs with
    | nil => intro _; rfl
    | cons a xs ih =>
      intro h
      rw [List.map_cons, fmO, h a List.mem_cons_self, Option.bind_some, ih fun b hb => h b (List.mem_cons_of_mem _ hb), List.filter_cons]
      cases p a <;> rfl
  rw [this xs h]
  rfl
theorem cmp_rng {fi : Ev → Rs (List D)} {T : Tg} {vs : List Nat} {tt : Ev → Rs Bool} {fe : Ev → Rs D} {ρ : Ev} (g : Nat → D) {lo : Int} {n : Nat} (h1 : fi ρ = .ok (rngD lo n)) (h2 : n < 1000000) (h : ∀ i, i < n → turnC T tt fe (wipeE ρ vs) (.int (lo + (i : Int))) = some (some (g i))) :
    cmp fi T vs tt fe ρ = .ok ((List.range n).map g) :=
  cmp_list (fun (i : Nat) => PyData.int (lo + (i : Int))) g h1 (by simpa using h2) fun i hi => h i (List.mem_range.mp hi)
/-! ### items of lists -/
@[simp] theorem at2_0 (a b : D) : L2.atI [a, b] 0 = some a := Eq.trans rfl rfl
@[simp] theorem at2_1 (a b : D) : L2.atI [a, b] 1 = some b := Eq.trans rfl rfl
@[simp] theorem at3_0 (a b c : D) : L2.atI [a, b, c] 0 = some a := Eq.trans rfl rfl
@[simp] theorem at3_1 (a b c : D) : L2.atI [a, b, c] 1 = some b := Eq.trans rfl rfl
@[simp] theorem at3_2 (a b c : D) : L2.atI [a, b, c] 2 = some c := Eq.trans rfl rfl
@[simp] theorem at4_0 (a b c d : D) : L2.atI [a, b, c, d] 0 = some a := Eq.trans rfl rfl
@[simp] theorem at4_1 (a b c d : D) : L2.atI [a, b, c, d] 1 = some b := Eq.trans rfl rfl
@[simp] theorem at4_2 (a b c d : D) : L2.atI [a, b, c, d] 2 = some c := Eq.trans rfl rfl
@[simp] theorem at4_3 (a b c d : D) : L2.atI [a, b, c, d] 3 = some d := Eq.trans rfl rfl
theorem at_map {α : Type} {f : α → D} {xs : List α} {i : Nat} {a : α} (h : xs[i]? = some a) : L2.atI (xs.map f) (i : Int) = some (f a) := L2.atI_nat (by rw [List.getElem?_map, h]; rfl)
theorem at_getD {α : Type} {f : α → D} {xs : List α} {i : Nat} {z : α} (h : i < xs.length) : L2.atI (xs.map f) (i : Int) = some (f (xs.getD i z)) := at_map (by rw [List.getD_eq_getElem?_getD, List.getElem?_eq_getElem h]; rfl)
theorem map_set {α : Type} (f : α → D) (xs : List α) (i : Nat) (a : α) : (xs.map f).set i (f a) = (xs.set i a).map f := by rw [List.map_set]
theorem atI_ok {α : Type} {xs : List α} {i : Int} (h0 : 0 ≤ i) (h1 : i < xs.length) : L2.atI xs i = some (xs[i.toNat]'(by omega)) := by
  unfold L2.atI
  have : L2.ixN xs.length i = some i.toNat := by unfold L2.ixN; rw [if_pos h0, if_pos h1]
  rw [this]
  simp
theorem atI_int {ns : List Int} {i : Int} (h0 : 0 ≤ i) (h1 : i < ns.length) : L2.atI (ns.map PyData.int) i = some (.int (ns.getD i.toNat 0)) := by
  rw [atI_ok h0 (by simpa using h1)]
  simp [List.getD_eq_getElem?_getD, List.getElem?_eq_getElem (show i.toNat < ns.length by omega)]
end Pu

set_option Elab.async false
set_option linter.all false
set_option maxRecDepth 100000
set_option maxHeartbeats 4000000
/-! the pure layer, 10: sets of ints in a slot -/
namespace Pu
open PySem PySem.Spec PyProof.Rows L2
section
variable {X : Cx} {W : WX} {pos : Pos} {e : Expr} {f : Ev → Rs D}
def set0B (i : Nat) : Ev → Sr := fun ρ => .nx (ρ.set i (.se (fun _ => false) 0))
theorem boot_set : bootBuiltins ("set" : Str) = some (.type "set") := by decide +kernel
theorem ds_set0 (i : Nat) {x : Str} {pos' p pc : Pos} (hN : X.N.Nodup) (hm : X.mg "set" = none) (hg : Gl X "set" := by rfl) (hi : X.N[i]? = some x := by rfl) (hx : Loc X.env.scope x := by first | exact Or.inl rfl | exact Or.inr rfl) (hs : swapsWith (.Call (.Name "set" p) [] [] pc) (some (.Name x pos')) pos.line X.env = pure false := by rfl) (hf : X.fn x = true ∨ X.env.scope.names.lookup x = some .local := by first | exact .inl rfl | exact .inr rfl) :
    DS X W (.Assign [.Name x pos'] (.Call (.Name "set" p) [] [] pc) pos) (set0B i) := by
  refine ps_mono (ps_set hN hi hx (pe_callTy0 cr_set0 hg hm boot_set) hs hf) fun Dn σ H ⟨G0, H0, G, ρ, R, q⟩ => ?_
  refine ⟨rfl, fun a n => ?_⟩
  exact q _ G _ (R.setOw i n ⟨a, rfl, R.gh.free n, R.hh.free n, upd_same⟩ rfl) (Same.refl _)
/-- k in found -/
def sinV (d : D) : Option En → Rs Bool
  | some (.se S _) => match d with
    | .int k => .ok (S k)
    | _ => .bad
  | _ => .bad
def sinT (i : Nat) (f : Ev → Rs D) : Ev → Rs Bool := fun ρ => f ρ >>= fun d => sinV d ρ[i]?
theorem dt_sin (i : Nat) {x : Str} {px : Pos} (h : DE X W e f) (hN : X.N[i]? = some x := by rfl) (hv : Vis X.env.scope x := by first | exact Or.inl rfl | exact Or.inr (Or.inl rfl) | exact Or.inr (Or.inr rfl)) (hd : (x == ("__debug__" : Str)) = false := by decide)
    (hcd : (x == ("__classdict__" : Str)) = false := by decide) (hm : behindInMarks .In (.Name x px) = false := by first | exact nobehind _ (by decide) (by decide) | rfl) : DT X W (.Compare e [.In] [.Name x px] pos) (sinT i f) := by
  refine pt_mono (pt_cmpR or_sin h (pe_var hN hv hd hcd) hm) fun σ H Q ⟨G0, H0, G, ρ, R, q⟩ => ?_
  refine tD_of R ((postB_iff.mp q).bind.imp fun d p1 v G1 H1 s r => ?_)
  unfold sinV at p1
  split at p1
  · rename_i S n hρ
    split at p1
    · obtain ⟨a, e1, g1, h1, k1⟩ := (R.step s).se hρ
      cases r
      exact ⟨_, e1, _, _, _, _, rfl, rfl, k1, _, rfl, p1 G1 H1 s⟩
    · exact p1.elim
  · exact p1.elim
/-- found.add(k) -/
def saddV (i : Nat) (f : Ev → Rs D) (ρ : Ev) : Option En → Sr
  | some (.se S n) => (f ρ).st ρ fun d => match d with
    | .int k => if n + 1 < 4096 then .nx (ρ.set i (.se (fun j => S j || decide (j = k)) (if S k = true then n else n + 1))) else .bad
    | _ => .bad
  | _ => .bad
def saddB (i : Nat) (f : Ev → Rs D) : Ev → Sr := fun ρ => saddV i f ρ ρ[i]?
theorem scan_eq : scanBound = 4096 := rfl
theorem ds_sadd (i : Nat) {x : Str} {p1 p2 cpos : Pos} (h : DE X W e f) (hN : X.N[i]? = some x := by rfl) (hv : Vis X.env.scope x := by first | exact Or.inl rfl | exact Or.inr (Or.inl rfl) | exact Or.inr (Or.inr rfl)) (hd : (x == ("__debug__" : Str)) = false := by decide)
    (hcd : (x == ("__classdict__" : Str)) = false := by decide)
    (h1 : ∀ ho : PE X (.Name x p1) (tVar i), ∀ ha : PA X [e] (tCons (tD X.K X.w X.mg W f) tNil), PE X (.Call (.Attribute (.Name x p1) "add" p2) [e] [] cpos) (tSAdd X.w (tVar i) (tCons (tD X.K X.w X.mg W f) tNil)) := by
      exact fun ho ha => pe_sadd ho ha)
    (hs : starEach [e] X.env = (false, eval e X.env) :: starEach [] X.env := by rfl)
    (hsw : swapsWith (.Call (.Attribute (.Name x p1) "add" p2) [e] [] cpos) none pos.line X.env = pure false := by rfl) :
    DS X W (.Expr (.Call (.Attribute (.Name x p1) "add" p2) [e] [] cpos) pos) (saddB i f) := by
  refine ps_mono (ps_expr (h1 (pe_var hN hv hd hcd) (pa_cons h pa_nil hs)) hsw) fun Dn σ H ⟨G0, H0, G, ρ, R, p⟩ => ?_
  unfold saddB saddV at p
  split at p
  · rename_i S n hi
    obtain ⟨a, e1, g, h0, hh⟩ := R.se hi
    refine ⟨_, e1, ⟨a, S, n, rfl, hh⟩, tD_of R ((PostS.st R p).imp fun d q v G1 H1 s r1 => ?_)⟩
    have R1 := R.step s
    obtain ⟨a', e1', g', h0', hh'⟩ := R1.se hi
    rw [e1] at e1'; cases e1'
    split at q
    · split at q
      · rename_i hl
        cases r1
        refine ⟨a, _, S, n, rfl, rfl, hh', by rw [scan_eq]; exact hl, ?_⟩
        exact q σ G1 _ (R1.mutd hi rfl e1 g' h0' ⟨a, rfl, g', h0', upd_same⟩ rfl) s.gg
      · exact q.elim
    · exact q.elim
  · exact p.elim
/-! reckoning -/
@[simp] theorem set0B_ap (i : Nat) (ρ : Ev) : set0B i ρ = .nx (ρ.set i (.se (fun _ => false) 0)) := Eq.trans rfl rfl
@[simp] theorem sinT_ap (i : Nat) (f : Ev → Rs D) (ρ : Ev) : sinT i f ρ = (f ρ >>= fun d => sinV d ρ[i]?) := Eq.trans rfl rfl
@[simp] theorem sinV_se (k : Int) (S : Int → Bool) (n : Nat) : sinV (.int k) (some (.se S n)) = .ok (S k) := Eq.trans rfl rfl
@[simp] theorem saddB_ap (i : Nat) (f : Ev → Rs D) (ρ : Ev) : saddB i f ρ = saddV i f ρ ρ[i]? := Eq.trans rfl rfl
theorem saddV_se {i : Nat} {f : Ev → Rs D} {ρ : Ev} {S : Int → Bool} {n : Nat} {k : Int} (h : f ρ = .ok (.int k)) (hn : n < 4000) : saddV i f ρ (some (.se S n)) = .nx (ρ.set i (.se (fun j => S j || decide (j = k)) (if S k = true then n else n + 1))) := by
  unfold saddV
  rw [h]
  exact if_pos (by omega)
end
end Pu

set_option Elab.async false
set_option linter.all false
set_option maxRecDepth 100000
set_option maxHeartbeats 4000000
/-! what many laws share: the draws, the cell, numbers -/
namespace Cm
open PySem Pu
noncomputable def L__law_draws_4 : Ev → Sr :=
  (ifB (tst (bin2 ltO (cal lenO (aCons (vR 2) aNil)) (vE 1)))
    (seqB (setB 7 (lit (.int 0)))
    (seqB (ifB (tst (bin2 gtO (cal lenO (aCons (vR 2) aNil)) (lit (.int 0))))
    (setB 7 (bin2 ixO (vR 2) (bin2 modO (vE 5) (cal lenO (aCons (vR 2) aNil)))))
    nxB)
    (appB 2 (bin2 modO (bin2 addO (bin2 addO (bin2 mulO (vE 7) (lit (.int 16807))) (bin2 mulO (lit (.int 31)) (cal lenO (aCons (vR 2) aNil)))) (lit (.int 17))) (lit (.int 1000003))))))
    nxB)
noncomputable def L__law_draws_3 : Ev → Sr :=
  (seqB (setB 6 (bin2 modO (bin2 addO (bin2 addO (bin2 addO (bin2 mulO (vE 6) (lit (.int 69621))) (bin2 divO (vE 6) (lit (.int 65536)))) (bin2 mulO (lit (.int 13)) (vE 5))) (lit (.int 5))) (lit (.int 2147483629))))
    (appB 2 (bin2 modO (bin2 divO (vE 6) (lit (.int 8))) (lit (.int 1000003)))))
noncomputable def L__law_draws_2 : Ev → Sr :=
  (ifB (tst (bin2 gtO (vE 4) (lit (.int 0))))
    (seqB (appB 2 (bin2 modO (vE 4) (lit (.int 1000003))))
    (setB 4 (bin2 divO (vE 4) (lit (.int 1000003)))))
    nxB)
noncomputable def L__law_draws_1 : Ev → Sr :=
  (seqB (setB 4 (cal absO (aCons (cal intO (aCons (vE 3) aNil)) aNil)))
    (ifB (tst (bin2 geO (vE 4) (bin2 powO (lit (.int 10)) (lit (.int 18)))))
    (forB (.one 5) (cal rng1 (aCons (lit (.int 60)) aNil))
    L__law_draws_2)
    (seqB (setB 6 (bin2 modO (bin2 addO (bin2 addO (bin2 mulO (vE 4) (lit (.int 48271))) (bin2 mulO (lit (.int 7)) (cal lenO (aCons (vR 2) aNil)))) (lit (.int 11))) (lit (.int 2147483647))))
    (forB (.one 5) (cal rng1 (aCons (lit (.int 4)) aNil))
    L__law_draws_3))))
noncomputable def B__law_draws : Ev → Sr :=
  (seqB (setO 2 (lstE aNil))
    (seqB (forB (.one 3) (its (frz (slS 0 noPart (part (lit (.int 63))))))
    L__law_draws_1)
    (seqB (forB (.one 5) (cal rng1 (aCons (vE 1) aNil))
    L__law_draws_4)
    (retF (sl3 slO (vR 2) noPart (part (vE 1)))))))
noncomputable def F__law_draws : List Int → List D → Ans := runFS 2 6 B__law_draws
noncomputable def B__law_cell : Ev → Sr :=
  (seqB (ifB (tst (bin2 ltO (vE 1) (cal lenO (aCons (vE 0) aNil))))
    (retB (bin2 ixO (vE 0) (vE 1)))
    nxB)
    (retB (bin2 modO (bin2 addO (bin2 addO (bin2 mulO (bin2 ixO (vE 0) (bin2 modO (vE 1) (cal lenO (aCons (vE 0) aNil)))) (lit (.int 31))) (bin2 mulO (bin2 ixO (vE 0) (bin2 modO (bin2 mulO (lit (.int 7)) (vE 1)) (cal lenO (aCons (vE 0) aNil)))) (lit (.int 17)))) (bin2 mulO (lit (.int 101)) (vE 1))) (lit (.int 1000003)))))
noncomputable def F__law_cell : List D → Ans := runF 2 0 B__law_cell
noncomputable def B__law_is_number : Ev → Sr :=
  (retB (andV (isiE "int" (vE 0)) (notV (isiE "bool" (vE 0)))))
noncomputable def F__law_is_number : List D → Ans := runF 1 0 B__law_is_number
noncomputable def L__law_is_numbers_1 : Ev → Sr :=
  (ifB (notT (tst (fn ansD F__law_is_number (aCons (vE 2) aNil))))
    (retB (lit (.bool false)))
    nxB)
noncomputable def B__law_is_numbers : Ev → Sr :=
  (seqB (ifB (orT (notT (tst (isiE "list" (vE 0)))) (tst (bin2 neO (cal lenO (aCons (vE 0) aNil)) (vE 1))))
    (retB (lit (.bool false)))
    nxB)
    (seqB (forB (.one 2) (its (vE 0))
    L__law_is_numbers_1)
    (retB (lit (.bool true)))))
noncomputable def F__law_is_numbers : List D → Ans := runF 2 1 B__law_is_numbers
def In (fs : List Int) : Prop := ∀ x ∈ fs, 0 ≤ x ∧ x < 1000003
def Dr (n : Nat) (fs : List Int) : Prop := fs.length = n ∧ In fs
theorem In.app {fs : List Int} {x : Int} (h : In fs) (h0 : 0 ≤ x ∧ x < 1000003) : In (fs ++ [x]) := fun y hy => by
  rcases List.mem_append.mp hy with hy | hy
  · exact h y hy
  · cases List.mem_singleton.mp hy; exact h0
theorem In.take {fs : List Int} (h : In fs) (n : Nat) : In (fs.take n) := fun y hy => h y (List.mem_of_mem_take hy)
theorem In.at {fs : List Int} (h : In fs) (n : Nat) : 0 ≤ fs.getD n 0 ∧ fs.getD n 0 < 1000003 := by
  by_cases hn : n < fs.length
  · rw [List.getD_eq_getElem?_getD, List.getElem?_eq_getElem hn]
    exact h _ (List.getElem_mem hn)
  · rw [List.getD_eq_getElem?_getD, List.getElem?_eq_none (by omega)]
    decide
theorem modIn (x : Int) : 0 ≤ x % 1000003 ∧ x % 1000003 < 1000003 := ⟨Int.emod_nonneg _ (by decide), Int.emod_lt_of_pos _ (by decide)⟩
theorem line_lt {n : Nat} (h : n < 1000000) : n < sizeLine := Nat.lt_of_lt_of_le h line_big
/-- the ints as data -/
def iL (ns : List Int) : List D := ns.map PyData.int
@[simp] theorem iL_len (ns : List Int) : (iL ns).length = ns.length := by simp [iL]
@[simp] theorem iL_nil : iL [] = [] := rfl
theorem iL_cons (n : Int) (ns : List Int) : iL (n :: ns) = .int n :: iL ns := rfl
theorem iL_app (a b : List Int) : iL (a ++ b) = iL a ++ iL b := by simp [iL]
@[simp] theorem iL_snoc (a : List Int) (x : Int) : iL a ++ [.int x] = iL (a ++ [x]) := by simp [iL]
theorem iL_take (a : List Int) (n : Nat) : iL (a.take n) = (iL a).take n := by simp [iL, List.map_take]
theorem iL_get {ns : List Int} {i : Nat} {d : D} (h : (iL ns)[i]? = some d) : ∃ hi : i < ns.length, d = .int ns[i] := by
  unfold iL at h
  rw [List.getElem?_map] at h
  by_cases hi : i < ns.length
  · rw [List.getElem?_eq_getElem hi] at h; cases h; exact ⟨hi, rfl⟩
  · rw [List.getElem?_eq_none (by omega)] at h; cases h
theorem iL_at {ns : List Int} {i : Int} (h0 : 0 ≤ i) (h1 : i < ns.length) : L2.atI (iL ns) i = some (.int (ns.getD i.toNat 0)) := atI_int h0 h1
@[simp] theorem iL_sum (ns : List Int) : sumO [.list (iL ns)] = some (.int ns.sum) := sumO_ints ns
@[simp] theorem iL_sorted (ns : List Int) : sortedO [.list (iL ns)] = some (iL (sortI ns)) := sortedO_ints ns
@[simp] theorem iL_noL (ns : List Int) : (iL ns).all noL = true := by simp [iL]
theorem draws_2 (ns : List Int) (a e3 e5 e6 e7 : En) (fs : List Int) (num : Int) (hf : In fs) (hl : fs.length ≤ 10000) (hn : 0 ≤ num) : ∃ ρ, loopB (.one 5) L__law_draws_2 (rngD 0 60) [.sq ns, a, .ow (iL fs), e3, .sh (.int num), e5, e6, e7] = .nx ρ ∧
    ∃ fs' num' e5', ρ = [.sq ns, a, .ow (iL fs'), e3, .sh (.int num'), e5', e6, e7] ∧ In fs' ∧ fs'.length ≤ fs.length + 60 := by
  have := loop_rng (T := .one 5) (B := L__law_draws_2) (lo := 0) (n := 60) (ρ := [.sq ns, a, .ow (iL fs), e3, .sh (.int num), e5, e6, e7]) (fun i ρ => ∃ fs' num' e5', ρ = [.sq ns, a, .ow (iL fs'), e3, .sh (.int num'), e5', e6, e7] ∧ In fs' ∧ fs'.length ≤ fs.length + i ∧ 0 ≤ num')
    ⟨fs, num, e5, rfl, hf, by omega, hn⟩ fun i ρ hi ⟨fs', num', e5', hρ, h1, h2, h3⟩ => by
      subst hρ
      have hz : fs'.length < sizeLine := line_lt (by omega)
      by_cases hp : 0 < num'
      · refine ⟨_, by simp [L__law_draws_2, hp, modO_p, divO_s, hz]; rfl, fs' ++ [num' % 1000003], num' / 1000003, .sh (.int (0 + i)), by simp, h1.app (modIn _), by simp; omega, by omega⟩
      · exact ⟨_, by simp [L__law_draws_2, hp]; rfl, fs', num', .sh (.int (0 + i)), by simp, h1, by omega, h3⟩
  obtain ⟨ρ, e, fs', num', e5', h1, h2, h3, _⟩ := this
  exact ⟨ρ, e, fs', num', e5', h1, h2, h3⟩
theorem draws_3 (ns : List Int) (a e3 e4 e5 e7 : En) (fs : List Int) (mx : Int) (hf : In fs) (hl : fs.length ≤ 10000) (hm : 0 ≤ mx ∧ mx < 2147483647) : ∃ ρ, loopB (.one 5) L__law_draws_3 (rngD 0 4) [.sq ns, a, .ow (iL fs), e3, e4, e5, .sh (.int mx), e7] = .nx ρ ∧
    ∃ fs' mx' e5', ρ = [.sq ns, a, .ow (iL fs'), e3, e4, e5', .sh (.int mx'), e7] ∧ In fs' ∧ fs'.length ≤ fs.length + 4 := by
  have := loop_rng (T := .one 5) (B := L__law_draws_3) (lo := 0) (n := 4) (ρ := [.sq ns, a, .ow (iL fs), e3, e4, e5, .sh (.int mx), e7]) (fun i ρ => ∃ fs' mx' e5', ρ = [.sq ns, a, .ow (iL fs'), e3, e4, e5', .sh (.int mx'), e7] ∧ In fs' ∧ fs'.length ≤ fs.length + i)
    ⟨fs, mx, e5, rfl, hf, by omega⟩ fun i ρ hi ⟨fs', mx', e5', hρ, h1, h2⟩ => by
      subst hρ
      have hz : fs'.length < sizeLine := line_lt (by omega)
      refine ⟨_, by simp [L__law_draws_3, mulO_r, mulO_l, modO_p, divO_s, hz]; rfl, fs' ++ [_], _, .sh (.int (0 + i)), by simp; exact ⟨rfl, rfl⟩, h1.app (modIn _), by simp; omega⟩
  obtain ⟨ρ, e, fs', num', e5', h1, h2, h3⟩ := this
  exact ⟨ρ, e, fs', num', e5', h1, h2, h3⟩
theorem draws_1 (ns : List Int) (a e3 e4 e5 e6 e7 : En) (cs : List Int) (hc : cs.length ≤ 63) : ∃ ρ, loopB (.one 3) L__law_draws_1 (iL cs) [.sq ns, a, .ow [], e3, e4, e5, e6, e7] = .nx ρ ∧
    ∃ fs e3 e4 e5 e6, ρ = [.sq ns, a, .ow (iL fs), e3, e4, e5, e6, e7] ∧ In fs ∧ fs.length ≤ 60 * 63 := by
  have := loop_list (T := .one 3) (B := L__law_draws_1) (ds := iL cs) (ρ := [.sq ns, a, .ow [], e3, e4, e5, e6, e7]) (fun i ρ => ∃ fs e3 e4 e5 e6, ρ = [.sq ns, a, .ow (iL fs), e3, e4, e5, e6, e7] ∧ In fs ∧ fs.length ≤ 60 * i)
    ⟨[], e3, e4, e5, e6, rfl, (fun _ z => by simp at z), by simp⟩ fun i d ρ hd ⟨fs, e3, e4, e5, e6, hρ, h1, h2⟩ => by
      subst hρ
      obtain ⟨hi, rfl⟩ := iL_get hd
      generalize cs[i] = c
      by_cases hb : 1000000000000000000 ≤ (if c < 0 then -c else c)
      · obtain ⟨ρ, e, fs', num', e5', rfl, g1, g2⟩ := draws_2 ns a (.sh (.int c)) e5 e6 e7 fs (if c < 0 then -c else c) h1 (by omega) (by split <;> omega)
        refine ⟨_, ?_, fs', .sh (.int c), .sh (.int num'), e5', e6, rfl, g1, by omega⟩
        simp [L__law_draws_1, hb, e, rng1_ok]
      · obtain ⟨ρ, e, fs', mx', e5', rfl, g1, g2⟩ := draws_3 ns a (.sh (.int c)) (.sh (.int (if c < 0 then -c else c))) e5 e7 fs (((if c < 0 then -c else c) * 48271 + 7 * fs.length + 11) % 2147483647) h1 (by omega) ⟨Int.emod_nonneg _ (by decide), Int.emod_lt_of_pos _ (by decide)⟩
        refine ⟨_, ?_, fs', .sh (.int c), .sh (.int (if c < 0 then -c else c)), e5', .sh (.int mx'), rfl, g1, by omega⟩
        simp [L__law_draws_1, hb, e, rng1_ok, mulO_r, mulO_l, modO_p]
  obtain ⟨ρ, e, fs, e3, e4, e5, e6, h1, h2, h3⟩ := this
  exact ⟨ρ, e, fs, e3, e4, e5, e6, h1, h2, by simp at h3; omega⟩
theorem draws_4 (ns : List Int) (e3 e4 e5 e6 e7 : En) (fs : List Int) (m : Nat) (hf : In fs) (hl : fs.length ≤ 5000) (hm : m ≤ 1000) : ∃ ρ, loopB (.one 5) L__law_draws_4 (rngD 0 m) [.sq ns, .sh (.int m), .ow (iL fs), e3, e4, e5, e6, e7] = .nx ρ ∧
    ∃ fs' e5 e7, ρ = [.sq ns, .sh (.int m), .ow (iL fs'), e3, e4, e5, e6, e7] ∧ In fs' ∧ fs'.length ≤ 6000 ∧ m ≤ fs'.length := by
  have := loop_rng (T := .one 5) (B := L__law_draws_4) (lo := 0) (n := m) (ρ := [.sq ns, .sh (.int m), .ow (iL fs), e3, e4, e5, e6, e7]) (fun i ρ => ∃ fs' e5 e7, ρ = [.sq ns, .sh (.int m), .ow (iL fs'), e3, e4, e5, e6, e7] ∧ In fs' ∧ fs'.length ≤ 5000 + i ∧ (i ≤ fs'.length ∨ m ≤ fs'.length))
    ⟨fs, e5, e7, rfl, hf, by omega, by omega⟩ fun i ρ hi ⟨fs', e5, e7, hρ, h1, h2, h3⟩ => by
      subst hρ
      have hz : fs'.length < sizeLine := line_lt (by omega)
      by_cases hb : (fs'.length : Int) < m
      · by_cases h0 : (0 : Int) < fs'.length
        · have h0n : 0 < fs'.length := by omega
          have hmod : modO (.int (i : Int)) (.int (fs'.length : Int)) = some (.int ((i : Int) % fs'.length)) := modO_p h0
          have hix : L2.atI (iL fs') ((i : Int) % fs'.length) = some (.int (fs'.getD ((i : Int) % fs'.length).toNat 0)) := iL_at (Int.emod_nonneg _ (by omega)) (Int.emod_lt_of_pos _ h0)
          have hg := h1.at ((i : Int) % fs'.length).toNat
          refine ⟨_, by simp [L__law_draws_4, hb, h0n, hmod, hix, mulO_r, mulO_l, modO_p, hz]; rfl, fs' ++ [_], _, _, by simp; exact ⟨rfl, rfl, rfl⟩, h1.app (modIn _), by simp; omega, by simp; omega⟩
        · have h0n : ¬ 0 < fs'.length := by omega
          refine ⟨_, by simp [L__law_draws_4, hb, h0n, mulO_r, mulO_l, modO_p, hz]; rfl, fs' ++ [_], _, _, by simp; exact ⟨rfl, rfl, rfl⟩, h1.app (modIn _), by simp; omega, by simp; omega⟩
      · exact ⟨_, by simp [L__law_draws_4, hb]; rfl, fs', _, e7, by simp; rfl, h1, by omega, by omega⟩
  obtain ⟨ρ, e, fs', e5', e7', h1, h2, h3, h4⟩ := this
  exact ⟨ρ, e, fs', e5', e7', h1, h2, by omega, by omega⟩
theorem cutL_none (xs : List D) (n : Nat) : cutL xs none (some (n : Int)) = xs.take n := by
  unfold cutL
  rw [HT.sIx_nat, HT.sIx_none]
  simp only [List.drop_zero, Nat.sub_zero]
  rw [Nat.min_comm, List.take_eq_take_iff]
  omega
theorem draws_eq (ns : List Int) (m : Nat) (hm : m ≤ 1000) : ∃ fs, F__law_draws ns [.int m] = .fr (iL fs) ∧ Dr m fs := by
  obtain ⟨ρ1, e1, fs1, e3, e4, e5, e6, rfl, h1, h2⟩ := draws_1 ns (.sh (.int m)) .no .no .no .no .no (ns.take 63) (by simp; omega)
  obtain ⟨ρ2, e2, fs2, e5', e7', rfl, h3, h4, h5⟩ := draws_4 ns e3 e4 e5 e6 .no fs1 m h1 (by omega) hm
  refine ⟨fs2.take m, ?_, by simp; omega, h3.take m⟩
  have c63 : cutL (iL ns) none (some 63) = iL (ns.take 63) := by
    rw [show (63 : Int) = ((63 : Nat) : Int) by rfl, cutL_none, iL_take]
  have hr := rng1_nat (n := m) (by omega)
  unfold F__law_draws runFS B__law_draws
  simp [show List.map PyData.int ns = iL ns from rfl, c63, e1, e2, hr, cutL_none, ← iL_take]
/-! ### a cell: a draw, or one reckoned from two -/
theorem cell_eq (fs : List Int) (k : Nat) (hf : In fs) (h0 : 0 < fs.length) (hl : fs.length ≤ 1000) (hk : k ≤ 100000) : ∃ x, F__law_cell [.list (iL fs), .int k] = .ok (.int x) ∧ 0 ≤ x ∧ x < 1000003 := by
  have h0' : (0 : Int) < fs.length := by omega
  by_cases hb : (k : Int) < fs.length
  · refine ⟨_, ?_, hf.at k⟩
    have : L2.atI (iL fs) (k : Int) = some (.int (fs.getD k 0)) := iL_at (by omega) hb
    unfold F__law_cell runF B__law_cell
    simp [hb, this]
  · have m1 : modO (.int (k : Int)) (.int (fs.length : Int)) = some (.int ((k : Int) % fs.length)) := modO_p h0'
    have m2 : modO (.int (7 * (k : Int))) (.int (fs.length : Int)) = some (.int ((7 * (k : Int)) % fs.length)) := modO_p h0'
    have a1 : L2.atI (iL fs) ((k : Int) % fs.length) = some (.int (fs.getD ((k : Int) % fs.length).toNat 0)) := iL_at (Int.emod_nonneg _ (by omega)) (Int.emod_lt_of_pos _ h0')
    have a2 : L2.atI (iL fs) ((7 * (k : Int)) % fs.length) = some (.int (fs.getD ((7 * (k : Int)) % fs.length).toNat 0)) := iL_at (Int.emod_nonneg _ (by omega)) (Int.emod_lt_of_pos _ h0')
    refine ⟨(fs.getD ((k : Int) % fs.length).toNat 0 * 31 + fs.getD ((7 * (k : Int)) % fs.length).toNat 0 * 17 + 101 * k) % 1000003, ?_, modIn _⟩
    unfold F__law_cell runF B__law_cell
    simp [hb, m1, m2, a1, a2, mulO_r, mulO_l, modO_p]
/-! ### numbers -/
theorem isNum_int (i : Int) : F__law_is_number [.int i] = .ok (.bool true) := by
  unfold F__law_is_number runF B__law_is_number
  simp
@[simp] theorem eqO_iL (a b : List Int) : eqO (.list (iL a)) (.list (iL b)) = some (.bool (decide (a = b))) := (fine_list fine_int).eq a b
@[simp] theorem neO_iL (a b : List Int) : neO (.list (iL a)) (.list (iL b)) = some (.bool (!decide (a = b))) := (fine_list fine_int).ne a b
@[simp] theorem inO_iL (x : Int) (a : List Int) : inO (.int x) (.list (iL a)) = some (.bool (decide (x ∈ a))) := fine_int.inn x a
@[simp] theorem notinO_iL (x : Int) (a : List Int) : notinO (.int x) (.list (iL a)) = some (.bool (!decide (x ∈ a))) := fine_int.nin x a
theorem isNums_iL (ns : List Int) (n : Int) : F__law_is_numbers [.list (iL ns), .int n] = .ok (.bool (decide ((ns.length : Int) = n))) := by
  by_cases hn : (ns.length : Int) = n
  · have := loop_list (T := .one 2) (B := L__law_is_numbers_1) (ds := iL ns) (ρ := [.sh (.list (iL ns)), .sh (.int n), .no]) (fun i ρ => ∃ e, ρ = [.sh (.list (iL ns)), .sh (.int n), e])
      ⟨_, rfl⟩ fun i d ρ hd ⟨e, hρ⟩ => by
        subst hρ
        obtain ⟨hi, rfl⟩ := iL_get hd
        exact ⟨_, by simp [L__law_is_numbers_1, isNum_int]; rfl, _, rfl⟩
    obtain ⟨ρ, e, _, rfl⟩ := this
    unfold F__law_is_numbers runF B__law_is_numbers
    simp [e, hn]
  · unfold F__law_is_numbers runF B__law_is_numbers
    simp [hn]
end Cm

set_option Elab.async false
set_option linter.all false
set_option maxRecDepth 100000
set_option maxHeartbeats 4000000
/-! chains of notes: what several laws share -/
namespace Cc
open PySem Pu Cm
noncomputable def L_chain_scale_1 : Ev → Sr :=
  (seqB (setB 6 (bin2 modO (bin2 mulO (vE 5) (vE 1)) (vE 0)))
    (seqB (ifB (sinT 4 (vE 6))
    (fun _ => .bad)
    nxB)
    (seqB (saddB 4 (vE 6))
    (appB 3 (vE 6)))))
noncomputable def B_chain_scale : Ev → Sr :=
  (seqB (setO 3 (lstE aNil))
    (seqB (set0B 4)
    (seqB (forB (.one 5) (cal rng1 (aCons (vE 2) aNil))
    L_chain_scale_1)
    (retF (cal sortedO (aCons (vR 3) aNil))))))
noncomputable def F_chain_scale : List D → Ans := runF 3 4 B_chain_scale
noncomputable def B_shifted : Ev → Sr :=
  (retF (cal sortedO (aCons (frz (cmp (its (vE 0)) (.one 3) [3] yesT (bin2 modO (bin2 addO (vE 3) (vE 2)) (vE 1)))) aNil)))
noncomputable def F_shifted : List D → Ans := runF 3 1 B_shifted
noncomputable def B_shared : Ev → Sr :=
  (retF (cmp (its (vE 0)) (.one 2) [2] (tst (bin2 inO (vE 2) (vE 1))) (vE 2)))
noncomputable def F_shared : List D → Ans := runF 2 1 B_shared
noncomputable def B_chain_from : Ev → Sr :=
  (retF (cal sortedO (aCons (frz (cmp (cal rng1 (aCons (vE 3) aNil)) (.one 4) [4] yesT (bin2 modO (bin2 addO (vE 0) (bin2 mulO (vE 4) (vE 2))) (vE 1)))) aNil)))
noncomputable def F_chain_from : List D → Ans := runF 4 1 B_chain_from
noncomputable def L__law_same_numbers_1 : Ev → Sr :=
  (ifB (tst (bin2 neO (bin2 ixO (vE 0) (vE 2)) (bin2 ixO (vE 1) (vE 2))))
    (retB (lit (.bool false)))
    nxB)
noncomputable def B__law_same_numbers : Ev → Sr :=
  (seqB (ifB (notT (tst (fn ansD F__law_is_numbers (aCons (vE 0) (aCons (cal lenO (aCons (vE 1) aNil)) aNil)))))
    (retB (lit (.bool false)))
    nxB)
    (seqB (forB (.one 2) (cal rng1 (aCons (cal lenO (aCons (vE 1) aNil)) aNil))
    L__law_same_numbers_1)
    (retB (lit (.bool true)))))
noncomputable def F__law_same_numbers : List D → Ans := runF 2 1 B__law_same_numbers
noncomputable def L__law_gcd_1 : Ev → Sr :=
  (ifB (tst (bin2 gtO (vE 1) (lit (.int 0))))
    (parB 0 1 (aCons (vE 1) (aCons (bin2 modO (vE 0) (vE 1)) aNil)))
    nxB)
noncomputable def B__law_gcd : Ev → Sr :=
  (seqB (setB 0 (cal absO (aCons (vE 0) aNil)))
    (seqB (setB 1 (cal absO (aCons (vE 1) aNil)))
    (seqB (forB (.one 2) (cal rng1 (aCons (lit (.int 80)) aNil))
    L__law_gcd_1)
    (retV 0))))
noncomputable def F__law_gcd : List D → Ans := runF 2 1 B__law_gcd
noncomputable def B__law_chain : Ev → Sr :=
  (retF (cal sortedO (aCons (frz (cmp (cal rng1 (aCons (vE 2) aNil)) (.one 3) [3] yesT (bin2 modO (bin2 mulO (vE 3) (vE 1)) (vE 0)))) aNil)))
noncomputable def F__law_chain : List D → Ans := runF 3 1 B__law_chain
noncomputable def B__law_chain_world : Ev → Sr :=
  (seqB (setB 1 (bin2 addO (lit (.int 1)) (bin2 modO (bin2 ixO (vE 0) (lit (.int 0))) (lit (.int 40)))))
    (seqB (setB 2 (bin2 subO (bin2 modO (bin2 ixO (vE 0) (lit (.int 1))) (lit (.int 121))) (lit (.int 60))))
    (seqB (ifB (tst (bin2 eqO (bin2 modO (bin2 ixO (vE 0) (lit (.int 2))) (lit (.int 8))) (lit (.int 0))))
    (seqB (setB 1 (bin2 addO (lit (.int 1)) (bin2 modO (bin2 ixO (vE 0) (lit (.int 0))) (bin2 powO (lit (.int 10)) (lit (.int 6))))))
    (setB 2 (bin2 subO (bin2 addO (bin2 mulO (bin2 ixO (vE 0) (lit (.int 1))) (lit (.int 1000003))) (bin2 ixO (vE 0) (lit (.int 3)))) (bin2 powO (lit (.int 10)) (lit (.int 11))))))
    nxB)
    (seqB (ifB (tst (bin2 eqO (bin2 modO (bin2 ixO (vE 0) (lit (.int 2))) (lit (.int 8))) (lit (.int 1))))
    (setB 1 (bin2 mulO (bin2 mulO (bin2 mulO (bin2 mulO (lit (.int 2)) (lit (.int 3))) (lit (.int 4))) (lit (.int 5))) (bin2 addO (lit (.int 1)) (bin2 modO (bin2 ixO (vE 0) (lit (.int 0))) (lit (.int 8))))))
    nxB)
    (seqB (setB 3 (bin2 divO (vE 1) (fn ansD F__law_gcd (aCons (vE 1) (aCons (vE 2) aNil)))))
    (seqB (setB 4 (bin2 addO (lit (.int 1)) (bin2 modO (bin2 ixO (vE 0) (lit (.int 4))) (cal min2O (aCons (lit (.int 400)) (aCons (vE 3) aNil))))))
    (seqB (ifB (tst (bin2 eqO (bin2 modO (bin2 divO (bin2 ixO (vE 0) (lit (.int 2))) (lit (.int 8))) (lit (.int 6))) (lit (.int 0))))
    (setB 4 (cal min2O (aCons (lit (.int 400)) (aCons (vE 3) aNil))))
    (ifB (tst (bin2 ltO (bin2 modO (bin2 divO (bin2 ixO (vE 0) (lit (.int 2))) (lit (.int 8))) (lit (.int 6))) (lit (.int 5))))
    (setB 4 (cal min2O (aCons (vE 4) (aCons (bin2 addO (lit (.int 1)) (bin2 modO (bin2 ixO (vE 0) (lit (.int 4))) (lit (.int 30)))) aNil))))
    nxB))
    (retB (tupE (aCons (vE 1) (aCons (vE 2) (aCons (vE 3) (aCons (vE 4) aNil)))))))))))))
noncomputable def F__law_chain_world : List D → Ans := runF 1 4 B__law_chain_world
theorem iL_atN {ns : List Int} {i : Nat} (h : i < ns.length) : L2.atI (iL ns) (i : Int) = some (.int (ns.getD i 0)) := at_getD (f := PyData.int) h
theorem emodN (x : Int) {k : Nat} (h : 0 < k) : ∃ j : Nat, x % (k : Int) = j ∧ j < k := by
  have h1 := Int.emod_nonneg x (show (k : Int) ≠ 0 by omega)
  have h2 := Int.emod_lt_of_pos x (show (0 : Int) < k by omega)
  exact ⟨(x % k).toNat, by omega, by omega⟩
theorem isNums_eq (a : List Int) (n : Int) (h : (a.length : Int) = n) : F__law_is_numbers [.list (iL a), .int n] = .ok (.bool true) := by
  rw [isNums_iL, decide_eq_true h]
theorem same_true (a : List Int) (h : a.length ≤ 1000000) : F__law_same_numbers [.list (iL a), .list (iL a)] = .ok (.bool true) := by
  have h1 := isNums_eq a a.length rfl
  obtain ⟨ρ, e, e2, rfl⟩ := loop_rng (T := .one 2) (B := L__law_same_numbers_1) (lo := 0) (n := a.length) (ρ := [.sh (.list (iL a)), .sh (.list (iL a)), .no]) (fun i ρ => ∃ e2, ρ = [.sh (.list (iL a)), .sh (.list (iL a)), e2]) ⟨.no, rfl⟩ fun i ρ hi ⟨e2, hρ⟩ => by
    subst hρ
    rw [show ((0 : Int) + (i : Int)) = (i : Int) by omega]
    have b1 := iL_atN hi
    refine ⟨_, ?_, .sh (.int i), rfl⟩
    simp [-List.getD_eq_getElem?_getD, -cmp_ap, L__law_same_numbers_1, b1]
  have hrn := rng1_nat (n := a.length) (by omega)
  unfold F__law_same_numbers runF B__law_same_numbers
  simp [-List.getD_eq_getElem?_getD, -cmp_ap, h1, hrn, e]
/-! ### gcd -/
def GI (i x y : Nat) : Prop := if i % 2 = 0 then y * 2 ^ (i / 2) < 2 ^ 40 else (y = 0 ∨ (y < x ∧ x * 2 ^ (i / 2) < 2 ^ 40))
theorem mod_half {x y : Nat} (h0 : 0 < y) (h : y < x) : 2 * (x % y) < x := by
  by_cases h1 : 2 * y ≤ x
  · have := Nat.mod_lt x h0; omega
  · have : x % y = x - y := by rw [Nat.mod_eq_sub_mod (by omega), Nat.mod_eq_of_lt (by omega)]
    omega
theorem gi_pos {i x y : Nat} (h0 : 0 < y) (h : GI i x y) : GI (i + 1) y (x % y) := by
  unfold GI at h ⊢
  by_cases hi : i % 2 = 0
  · rw [if_pos hi] at h
    rw [if_neg (by omega), show (i + 1) / 2 = i / 2 by omega]
    exact .inr ⟨Nat.mod_lt _ h0, h⟩
  · rw [if_neg hi] at h
    rw [if_pos (by omega), show (i + 1) / 2 = i / 2 + 1 by omega]
    rcases h with h | ⟨h1, h2⟩
    · omega
    · have h3 := mod_half h0 h1
      rw [Nat.pow_succ, ← Nat.mul_assoc, Nat.mul_right_comm, Nat.mul_comm (x % y) 2]
      exact Nat.lt_of_le_of_lt (Nat.mul_le_mul_right _ (Nat.le_of_lt h3)) h2
theorem gi_zero {i x : Nat} : GI i x 0 := by
  unfold GI
  split
  · rw [Nat.zero_mul]; exact Nat.two_pow_pos 40
  · exact .inl rfl
theorem abs_nat (a : Int) : (if a < 0 then -a else a) = (a.natAbs : Int) := by split <;> omega
theorem gcd_eq (a b : Int) (hb : b.natAbs < 2 ^ 40) : F__law_gcd [.int a, .int b] = .ok (.int (Nat.gcd a.natAbs b.natAbs : Nat)) := by
  obtain ⟨ρ, e, x, y, e2, rfl, h1, h2⟩ := loop_rng (T := .one 2) (B := L__law_gcd_1) (lo := 0) (n := 80) (ρ := [.sh (.int (a.natAbs : Nat)), .sh (.int (b.natAbs : Nat)), .no]) (fun i ρ => ∃ (x y : Nat) (e2 : En), ρ = [.sh (.int (x : Nat)), .sh (.int (y : Nat)), e2] ∧ Nat.gcd x y = Nat.gcd a.natAbs b.natAbs ∧ GI i x y)
    ⟨_, _, .no, rfl, rfl, by unfold GI; rw [if_pos rfl]; simpa using hb⟩ fun i ρ hi ⟨x, y, e2, hρ, h1, h2⟩ => by
      subst hρ
      by_cases hy : 0 < y
      · have m1 : modO (.int (x : Int)) (.int (y : Int)) = some (.int ((x : Int) % (y : Int))) := modO_p (by omega)
        refine ⟨_, ?_, y, x % y, .sh (.int (0 + i)), rfl, by rw [← h1, Nat.gcd_comm x y, Nat.gcd_rec y x, Nat.gcd_comm], gi_pos hy h2⟩
        simp [-List.getD_eq_getElem?_getD, -cmp_ap, L__law_gcd_1, hy, m1]
      · have : y = 0 := by omega
        subst this
        refine ⟨_, ?_, x, 0, .sh (.int (0 + i)), rfl, h1, gi_zero⟩
        simp [-List.getD_eq_getElem?_getD, -cmp_ap, L__law_gcd_1]
  have hy : y = 0 := by
    unfold GI at h2
    rw [if_pos rfl] at h2
    by_cases hy : y = 0
    · exact hy
    · have : 1 * 2 ^ (80 / 2) ≤ y * 2 ^ (80 / 2) := Nat.mul_le_mul_right _ (by omega)
      omega
  subst hy
  rw [Nat.gcd_zero_right] at h1
  have hr : rng1 [.int 80] = some (rngD 0 80) := rng1_ok (by omega) (by omega)
  unfold F__law_gcd runF B__law_gcd
  simp [-List.getD_eq_getElem?_getD, -cmp_ap, abs_nat, hr]
  rw [e]
  simp [-List.getD_eq_getElem?_getD, -cmp_ap, h1]
/-! ### the order -/
theorem ord_dvd {p : Nat} (hp : 0 < p) (g k : Int) : (p : Int) ∣ k * g ↔ ((p / Nat.gcd p g.natAbs : Nat) : Int) ∣ k := by
  have hd : 0 < Nat.gcd p g.natAbs := Nat.gcd_pos_of_pos_left _ hp
  have e : (p : Int) ∣ k * g ↔ p ∣ k.natAbs * g.natAbs := by rw [← Int.natAbs_dvd_natAbs, Int.natAbs_natCast, Int.natAbs_mul]
  have e2 : ((p / Nat.gcd p g.natAbs : Nat) : Int) ∣ k ↔ p / Nat.gcd p g.natAbs ∣ k.natAbs := by rw [← Int.natAbs_dvd_natAbs, Int.natAbs_natCast]
  rw [e, e2]
  have hc := Nat.coprime_div_gcd_div_gcd hd
  have h1 : p = p / Nat.gcd p g.natAbs * Nat.gcd p g.natAbs := (Nat.div_mul_cancel (Nat.gcd_dvd_left _ _)).symm
  have h2 : g.natAbs = g.natAbs / Nat.gcd p g.natAbs * Nat.gcd p g.natAbs := (Nat.div_mul_cancel (Nat.gcd_dvd_right _ _)).symm
  generalize p / Nat.gcd p g.natAbs = n at *
  generalize g.natAbs / Nat.gcd p g.natAbs = q at *
  generalize Nat.gcd p g.natAbs = d at *
  rw [h1, h2, ← Nat.mul_assoc, Nat.mul_dvd_mul_iff_right hd]
  exact ⟨fun h => Nat.Coprime.dvd_of_dvd_mul_right hc h, fun h => Nat.dvd_trans h (Nat.dvd_mul_right _ _)⟩
/-- the note of place i -/
def res (p : Nat) (g : Int) (i : Int) : Int := i * g % p
theorem res_eq {p n : Nat} (hp : 0 < p) {g : Int} (hn : n = p / Nat.gcd p g.natAbs) (i j : Int) : res p g i = res p g j ↔ (n : Int) ∣ i - j := by
  subst hn
  unfold res
  rw [Int.emod_eq_emod_iff_emod_sub_eq_zero, ← Int.dvd_iff_emod_eq_zero, ← Int.sub_mul]
  exact ord_dvd hp g (i - j)
theorem small_dvd {n : Nat} {d : Int} (h : (n : Int) ∣ d) (h1 : -(n : Int) < d) (h2 : d < n) : d = 0 := by
  obtain ⟨k, rfl⟩ := h
  by_cases hk : k = 0
  · rw [hk]; simp
  · exfalso
    by_cases h0 : 0 < k
    · have : (n : Int) * 1 ≤ n * k := Int.mul_le_mul_of_nonneg_left (by omega) (by omega)
      omega
    · have : (n : Int) * k ≤ n * (-1) := Int.mul_le_mul_of_nonneg_left (by omega) (by omega)
      omega
theorem res_inj {p n : Nat} (hp : 0 < p) {g : Int} (hn : n = p / Nat.gcd p g.natAbs) {i j : Int} (h1 : i - j < n) (h2 : j - i < n) (h : res p g i = res p g j) : i = j := by
  have := small_dvd ((res_eq hp hn i j).mp h) (by omega) h1
  omega
theorem res_0 (p : Nat) (g : Int) : res p g 0 = 0 := by simp [res]
theorem res_nn {p : Nat} (hp : 0 < p) (g i : Int) : 0 ≤ res p g i := Int.emod_nonneg _ (by omega)
theorem res_lt {p : Nat} (hp : 0 < p) (g i : Int) : res p g i < p := Int.emod_lt_of_pos _ (by omega)
/-- the notes of c places from lo on -/
def win (p : Nat) (g : Int) (lo : Int) (c : Nat) : List Int := (List.range c).map fun (k : Nat) => res p g (lo + (k : Int))
theorem mem_win {p : Nat} {g lo : Int} {c : Nat} {x : Int} : x ∈ win p g lo c ↔ ∃ i : Int, lo ≤ i ∧ i < lo + c ∧ x = res p g i := by
  unfold win
  rw [List.mem_map]
  refine ⟨fun ⟨k, hk, e⟩ => ⟨lo + k, by omega, by have := List.mem_range.mp hk; omega, e.symm⟩, fun ⟨i, h1, h2, e⟩ => ⟨(i - lo).toNat, List.mem_range.mpr (by omega), ?_⟩⟩
  rw [e, show lo + ((i - lo).toNat : Int) = i by omega]
theorem win_nodup {p n : Nat} (hp : 0 < p) {g : Int} (hn : n = p / Nat.gcd p g.natAbs) {lo : Int} {c : Nat} (hc : c ≤ n) : (win p g lo c).Nodup := by
  unfold win
  refine List.pairwise_map.mpr (List.Pairwise.imp_of_mem (fun {i j} hi hj (hij : i ≠ j) (e : res p g (lo + (i : Int)) = res p g (lo + (j : Int))) => hij ?_) List.nodup_range)
  have h1 := List.mem_range.mp hi
  have h2 := List.mem_range.mp hj
  have := res_inj hp hn (by omega) (by omega) e
  omega
@[simp] theorem win_len (p : Nat) (g lo : Int) (c : Nat) : (win p g lo c).length = c := by simp [win]
theorem sort_len (l : List Int) : (sortI l).length = l.length := (sortI_perm l).length_eq
theorem sort_mem {l : List Int} {x : Int} : x ∈ sortI l ↔ x ∈ l := (sortI_perm l).mem_iff
theorem sort_nodup {l : List Int} (h : l.Nodup) : (sortI l).Nodup := (sortI_perm l).nodup_iff.mpr h
theorem sort_perm {l m : List Int} (h : l.Perm m) : sortI l = sortI m := sorted_same ((sortI_perm l).trans (h.trans (sortI_perm m).symm)) (sortI_sorted l) (sortI_sorted m)
theorem sort_head {l : List Int} (h0 : (0 : Int) ∈ l) (h : ∀ x ∈ l, 0 ≤ x) : ∃ r, sortI l = 0 :: r := by
  have hm := sort_mem.mpr h0
  have hs := sortI_sorted l
  have hp : ∀ x ∈ sortI l, 0 ≤ x := fun x hx => h x (sort_mem.mp hx)
  cases hl : sortI l with
  | nil => rw [hl] at hm; cases hm
  | cons a r =>
    rw [hl] at hm hs hp
    have h1 := hp a List.mem_cons_self
    rcases List.mem_cons.mp hm with e | hm
    · exact ⟨r, by rw [← e]⟩
    · have := (List.pairwise_cons.mp hs).1 0 hm
      exact ⟨r, by rw [show a = 0 by omega]⟩
/-! ### the world -/
structure Chn (p : Nat) (g : Int) (n c : Nat) : Prop where
  p0 : 0 < p
  p1 : p ≤ 1000000
  g1 : g.natAbs < 2 ^ 40
  on : n = p / Nat.gcd p g.natAbs
  c0 : 0 < c
  c1 : c ≤ n
  c2 : c ≤ 400
theorem world_eq {fs : List Int} (hf : In fs) (hl : 5 ≤ fs.length) : ∃ p g n c, F__law_chain_world [.list (iL fs)] = .ok (.tuple [.int (p : Nat), .int g, .int (n : Nat), .int (c : Nat)]) ∧ Chn p g n c := by
  have a0 : L2.atI (iL fs) 0 = some (.int (fs.getD 0 0)) := iL_atN (i := 0) (by omega)
  have a1 : L2.atI (iL fs) 1 = some (.int (fs.getD 1 0)) := iL_atN (i := 1) (by omega)
  have a2 : L2.atI (iL fs) 2 = some (.int (fs.getD 2 0)) := iL_atN (i := 2) (by omega)
  have a3 : L2.atI (iL fs) 3 = some (.int (fs.getD 3 0)) := iL_atN (i := 3) (by omega)
  have a4 : L2.atI (iL fs) 4 = some (.int (fs.getD 4 0)) := iL_atN (i := 4) (by omega)
  have q0 := hf.at 0
  have q1 := hf.at 1
  have q3 := hf.at 3
  have hp : ∃ p : Nat, (if fs.getD 2 0 % 8 = 1 then 120 * (1 + fs.getD 0 0 % 8) else if fs.getD 2 0 % 8 = 0 then 1 + fs.getD 0 0 % 1000000 else 1 + fs.getD 0 0 % 40) = (p : Int) ∧ 0 < p ∧ p ≤ 1000000 := by
    refine ⟨(if fs.getD 2 0 % 8 = 1 then 120 * (1 + fs.getD 0 0 % 8) else if fs.getD 2 0 % 8 = 0 then 1 + fs.getD 0 0 % 1000000 else 1 + fs.getD 0 0 % 40).toNat, ?_, ?_, ?_⟩ <;> split <;> (try split) <;> omega
  obtain ⟨p, e1, p0, p1⟩ := hp
  have hg : ∃ g : Int, (if fs.getD 2 0 % 8 = 0 then fs.getD 1 0 * 1000003 + fs.getD 3 0 - 100000000000 else fs.getD 1 0 % 121 - 60) = g ∧ g.natAbs < 2 ^ 40 := ⟨_, rfl, by split <;> omega⟩
  obtain ⟨g, e2, g1⟩ := hg
  have hgc := gcd_eq p g g1
  rw [Int.natAbs_natCast] at hgc
  have hd : 0 < Nat.gcd p g.natAbs := Nat.gcd_pos_of_pos_left _ p0
  have hd2 : Nat.gcd p g.natAbs ≤ p := Nat.le_of_dvd p0 (Nat.gcd_dvd_left _ _)
  have hn1 : 0 < p / Nat.gcd p g.natAbs := Nat.div_pos hd2 hd
  have dv : divO (.int (p : Int)) (.int (Nat.gcd p g.natAbs : Nat)) = some (.int (p / Nat.gcd p g.natAbs : Nat)) := by
    rw [divO_s (by omega) (by omega), Int.natCast_ediv]
  generalize hn : p / Nat.gcd p g.natAbs = n at *
  have m1 : modO (.int (fs.getD 4 0)) (.int (min 400 (n : Int))) = some (.int (fs.getD 4 0 % min 400 (n : Int))) := modO_p (by omega)
  have h1 := Int.emod_nonneg (fs.getD 4 0) (show min 400 (n : Int) ≠ 0 by omega)
  have h2 := Int.emod_lt_of_pos (fs.getD 4 0) (show 0 < min 400 (n : Int) by omega)
  have hc : ∃ c : Nat, (if fs.getD 2 0 / 8 % 6 = 0 then min 400 (n : Int) else if fs.getD 2 0 / 8 % 6 < 5 then min (1 + fs.getD 4 0 % min 400 (n : Int)) (1 + fs.getD 4 0 % 30) else 1 + fs.getD 4 0 % min 400 (n : Int)) = (c : Int) ∧ 0 < c ∧ c ≤ n ∧ c ≤ 400 := by
    generalize fs.getD 4 0 % min 400 (n : Int) = X at *
    refine ⟨(if fs.getD 2 0 / 8 % 6 = 0 then min 400 (n : Int) else if fs.getD 2 0 / 8 % 6 < 5 then min (1 + X) (1 + fs.getD 4 0 % 30) else 1 + X).toNat, ?_, ?_, ?_, ?_⟩ <;> split <;> (try split) <;> omega
  obtain ⟨c, e3, c0, c1, c2⟩ := hc
  refine ⟨p, g, n, c, ?_, p0, p1, g1, hn.symm, c0, c1, c2⟩
  have w1 : powO (.int 10) (.int 6) = some (.int 1000000) := by rfl
  have w2 : powO (.int 10) (.int 11) = some (.int 100000000000) := by rfl
  have d1 : ∀ x, divO (.int x) (.int 8) = some (.int (x / 8)) := fun x => divO_s (by decide) (by decide)
  unfold F__law_chain_world runF B__law_chain_world
  by_cases b1 : fs.getD 2 0 % 8 = 0
  · have b2 : ¬ fs.getD 2 0 % 8 = 1 := by omega
    rw [if_neg b2, if_pos b1] at e1
    rw [if_pos b1] at e2
    by_cases b3 : fs.getD 2 0 / 8 % 6 = 0
    · rw [if_pos b3] at e3
      rw [e3] at m1
      simp [-List.getD_eq_getElem?_getD, -cmp_ap, a0, a1, a2, a3, a4, modO_p, mulO_r, mulO_l, w1, w2, b1, b2, e1, e2, hgc, dv, d1, b3, m1, e3]
    · rw [if_neg b3] at e3
      by_cases b4 : fs.getD 2 0 / 8 % 6 < 5
      · rw [if_pos b4] at e3
        simp [-List.getD_eq_getElem?_getD, -cmp_ap, a0, a1, a2, a3, a4, modO_p, mulO_r, mulO_l, w1, w2, b1, b2, e1, e2, hgc, dv, d1, b3, b4, m1, e3]
      · rw [if_neg b4] at e3
        simp [-List.getD_eq_getElem?_getD, -cmp_ap, a0, a1, a2, a3, a4, modO_p, mulO_r, mulO_l, w1, w2, b1, b2, e1, e2, hgc, dv, d1, b3, b4, m1, e3]
  · rw [if_neg b1] at e2
    by_cases b2 : fs.getD 2 0 % 8 = 1
    · rw [if_pos b2] at e1
      by_cases b3 : fs.getD 2 0 / 8 % 6 = 0
      · rw [if_pos b3] at e3
        rw [e3] at m1
        simp [-List.getD_eq_getElem?_getD, -cmp_ap, a0, a1, a2, a3, a4, modO_p, mulO_r, mulO_l, w1, w2, b1, b2, e1, e2, hgc, dv, d1, b3, m1, e3]
      · rw [if_neg b3] at e3
        by_cases b4 : fs.getD 2 0 / 8 % 6 < 5
        · rw [if_pos b4] at e3
          simp [-List.getD_eq_getElem?_getD, -cmp_ap, a0, a1, a2, a3, a4, modO_p, mulO_r, mulO_l, w1, w2, b1, b2, e1, e2, hgc, dv, d1, b3, b4, m1, e3]
        · rw [if_neg b4] at e3
          simp [-List.getD_eq_getElem?_getD, -cmp_ap, a0, a1, a2, a3, a4, modO_p, mulO_r, mulO_l, w1, w2, b1, b2, e1, e2, hgc, dv, d1, b3, b4, m1, e3]
    · rw [if_neg b2, if_neg b1] at e1
      by_cases b3 : fs.getD 2 0 / 8 % 6 = 0
      · rw [if_pos b3] at e3
        rw [e3] at m1
        simp [-List.getD_eq_getElem?_getD, -cmp_ap, a0, a1, a2, a3, a4, modO_p, mulO_r, mulO_l, w1, w2, b1, b2, e1, e2, hgc, dv, d1, b3, m1, e3]
      · rw [if_neg b3] at e3
        by_cases b4 : fs.getD 2 0 / 8 % 6 < 5
        · rw [if_pos b4] at e3
          simp [-List.getD_eq_getElem?_getD, -cmp_ap, a0, a1, a2, a3, a4, modO_p, mulO_r, mulO_l, w1, w2, b1, b2, e1, e2, hgc, dv, d1, b3, b4, m1, e3]
        · rw [if_neg b4] at e3
          simp [-List.getD_eq_getElem?_getD, -cmp_ap, a0, a1, a2, a3, a4, modO_p, mulO_r, mulO_l, w1, w2, b1, b2, e1, e2, hgc, dv, d1, b3, b4, m1, e3]
/-! ### what the functions give -/
theorem sortedO_iL (l : List Int) : sortedO [.list (iL l)] = some (iL (sortI l)) := sortedO_ints l
theorem mod_res {p : Nat} (hp : 0 < p) (x : Int) : modO (.int x) (.int (p : Int)) = some (.int (x % p)) := modO_p (by omega)
theorem win_take (p : Nat) (g : Int) (i : Nat) : win p g 0 (i + 1) = win p g 0 i ++ [res p g i] := by
  unfold win
  rw [List.range_succ, List.map_append]
  simp
theorem chain_scale_eq {p n c : Nat} {g : Int} (h : Chn p g n c) {m : Nat} (hm : m ≤ c) : F_chain_scale [.int p, .int g, .int m] = .fr (iL (sortI (win p g 0 m))) := by
  have hc2 := h.c2
  have hc1 := h.c1
  have mp := mod_res h.p0
  obtain ⟨ρ, e, e4, e5, e6, rfl, -⟩ := loop_rng (T := .one 5) (B := L_chain_scale_1) (lo := 0) (n := m) (ρ := [.sh (.int p), .sh (.int g), .sh (.int m), .ow [], .se (fun _ => false) 0, .no, .no])
    (fun i ρ => ∃ e4 e5 e6, ρ = [.sh (.int p), .sh (.int g), .sh (.int m), .ow (iL (win p g 0 i)), e4, e5, e6] ∧ ∃ S, e4 = .se S i ∧ ∀ x, S x = decide (x ∈ win p g 0 i)) ⟨_, .no, .no, rfl, _, rfl, (fun x => by simp [win])⟩ fun i ρ hi ⟨e4, e5, e6, hρ, S, hS, hS2⟩ => by
      subst hρ hS
      rw [show ((0 : Int) + (i : Int)) = (i : Int) by omega]
      have hnot : res p g i ∉ win p g 0 i := fun hmem => by
        obtain ⟨j, j1, j2, je⟩ := mem_win.mp hmem
        have := res_inj h.p0 h.on (by omega) (by omega) je
        omega
      have hSk : S (i * g % (p : Int)) = false := by
        rw [hS2]
        exact decide_eq_false hnot
      have ml : mulO (.int (i : Int)) (.int g) = some (.int (i * g)) := mulO_l (by omega)
      have hz : i < sizeLine := line_lt (by omega)
      have hr : (i : Int) * g % (p : Int) = res p g i := rfl
      refine ⟨_, ?_, .se (fun j => S j || decide (j = res p g i)) (i + 1), .sh (.int i), .sh (.int (res p g i)), rfl, _, rfl, fun x => ?_⟩
      · simp [-List.getD_eq_getElem?_getD, -cmp_ap, L_chain_scale_1, ml, mp, hSk]
        rw [saddV_se (k := res p g i) (by simp [hr]) (by omega)]
        rw [hr] at hSk ⊢
        simp [-List.getD_eq_getElem?_getD, -cmp_ap, hSk, hz, win_take]
      · rw [hS2, win_take, ← Bool.decide_or]
        simp
  have hrn := rng1_nat (n := m) (by omega)
  unfold F_chain_scale runF B_chain_scale
  simp [-List.getD_eq_getElem?_getD, -cmp_ap, hrn, e, sortedO_iL]
theorem chain_eq {p n c : Nat} {g : Int} (h : Chn p g n c) {m : Nat} (hm : m ≤ c) : F__law_chain [.int p, .int g, .int m] = .fr (iL (sortI (win p g 0 m))) := by
  have hc2 := h.c2
  have mp := mod_res h.p0
  have hrn := rng1_nat (n := m) (by omega)
  have hc : ∀ ρ : Ev, ρ[0]? = some (.sh (.int p)) → ρ[1]? = some (.sh (.int g)) → ρ[2]? = some (.sh (.int m)) → 3 < ρ.length → cmp (cal rng1 (aCons (vE 2) aNil)) (.one 3) [3] yesT (bin2 modO (bin2 mulO (vE 3) (vE 1)) (vE 0)) ρ = .ok (iL (win p g 0 m)) := fun ρ h0 h1 h2 h3 => by
    rw [cmp_rng (fun i => .int (res p g i)) (lo := 0) (n := m) (by simp [-List.getD_eq_getElem?_getD, -cmp_ap, h2, hrn]) (by omega) fun i hi => by
      have ml : mulO (.int (i : Int)) (.int g) = some (.int (i * g)) := mulO_l (by omega)
      simp [-List.getD_eq_getElem?_getD, -cmp_ap, turnC, List.getElem?_set, h0, h1, h3, ml, mp, res]]
    simp [iL, win]
  unfold F__law_chain runF B__law_chain
  simp [-List.getD_eq_getElem?_getD, -cmp_ap, hc, sortedO_iL]
theorem shifted_eq {p : Nat} (hp : 0 < p) (l : List Int) (hl : l.length < 1000000) (by' : Int) : F_shifted [.list (iL l), .int p, .int by'] = .fr (iL (sortI (l.map fun x => (x + by') % p))) := by
  have mp := mod_res hp
  have hc : ∀ ρ : Ev, ρ[0]? = some (.sh (.list (iL l))) → ρ[1]? = some (.sh (.int p)) → ρ[2]? = some (.sh (.int by')) → 3 < ρ.length → cmp (its (vE 0)) (.one 3) [3] yesT (bin2 modO (bin2 addO (vE 3) (vE 2)) (vE 1)) ρ = .ok (iL (l.map fun x => (x + by') % p)) := fun ρ h0 h1 h2 h3 => by
    rw [cmp_list PyData.int (fun x => .int ((x + by') % p)) (xs := l) (by simp [-List.getD_eq_getElem?_getD, -cmp_ap, h0]; rfl) hl fun x hx => by
      simp [-List.getD_eq_getElem?_getD, -cmp_ap, turnC, List.getElem?_set, h1, h2, h3, mp]]
    simp [iL]
  unfold F_shifted runF B_shifted
  simp [-List.getD_eq_getElem?_getD, -cmp_ap, hc, sortedO_iL]
theorem shared_eq (a b : List Int) (ha : a.length < 1000000) : F_shared [.list (iL a), .list (iL b)] = .fr (iL (a.filter fun x => decide (x ∈ b))) := by
  have hc : ∀ ρ : Ev, ρ[0]? = some (.sh (.list (iL a))) → ρ[1]? = some (.sh (.list (iL b))) → 2 < ρ.length → cmp (its (vE 0)) (.one 2) [2] (tst (bin2 inO (vE 2) (vE 1))) (vE 2) ρ = .ok (iL (a.filter fun x => decide (x ∈ b))) := fun ρ h0 h1 h2 => by
    refine cmp_flt PyData.int _ PyData.int (by simp [-List.getD_eq_getElem?_getD, -cmp_ap, h0]; rfl) ha fun x hx => ?_
    simp [-List.getD_eq_getElem?_getD, -cmp_ap, turnC, List.getElem?_set, h1, h2]
    by_cases hb : x ∈ b <;> simp [hb]
  unfold F_shared runF B_shared
  simp [-List.getD_eq_getElem?_getD, -cmp_ap, hc]
theorem chain_from_eq {p n c : Nat} {g : Int} (h : Chn p g n c) {m : Nat} (hm : m ≤ c) (note : Int) : F_chain_from [.int note, .int p, .int g, .int m] = .fr (iL (sortI ((List.range m).map fun (k : Nat) => (note + (k : Int) * g) % p))) := by
  have hc2 := h.c2
  have mp := mod_res h.p0
  have hrn := rng1_nat (n := m) (by omega)
  have hc : ∀ ρ : Ev, ρ[0]? = some (.sh (.int note)) → ρ[1]? = some (.sh (.int p)) → ρ[2]? = some (.sh (.int g)) → ρ[3]? = some (.sh (.int m)) → 4 < ρ.length → cmp (cal rng1 (aCons (vE 3) aNil)) (.one 4) [4] yesT (bin2 modO (bin2 addO (vE 0) (bin2 mulO (vE 4) (vE 2))) (vE 1)) ρ = .ok (iL ((List.range m).map fun (k : Nat) => (note + (k : Int) * g) % p)) := fun ρ h0 h1 h2 h3 h4 => by
    rw [cmp_rng (fun i => .int ((note + (i : Int) * g) % p)) (lo := 0) (n := m) (by simp [-List.getD_eq_getElem?_getD, -cmp_ap, h3, hrn]) (by omega) fun i hi => by
      have ml : mulO (.int (i : Int)) (.int g) = some (.int (i * g)) := mulO_l (by omega)
      simp [-List.getD_eq_getElem?_getD, -cmp_ap, turnC, List.getElem?_set, h0, h1, h2, h4, ml, mp]]
    simp [iL]
  unfold F_chain_from runF B_chain_from
  simp [-List.getD_eq_getElem?_getD, -cmp_ap, hc, sortedO_iL]
end Cc

set_option Elab.async false
set_option linter.all false
set_option maxRecDepth 100000
set_option maxHeartbeats 4000000
namespace K71
open PySem PySem.Spec PyProof.Rows L2 Pu
def topS (i : Nat) : Stmt := PySem.Challenge.pw_keystuned_k71_neighbouring_modes.main.body.getD i (.Pass ⟨0, 0, 0, 0⟩)
section
variable {P : Program} {w : World} {K : PySem.W.Frag} {mg : Str → Option Value} {base : Heap}
/-! ### printed by gen.py: row keystuned_k71_neighbouring_modes -/
abbrev s_chain_scale : Stmt := topS 4
abbrev N_chain_scale : List Str := ["period", "generator", "count", "notes", "seen", "at", "note"]
theorem sc_chain_scale : FnScope N_chain_scale ["period", "generator", "count"] (defScope s_chain_scale) := ⟨rfl, rfl, rfl, by decide +kernel, rfl, by decide +kernel, by decide +kernel⟩
noncomputable def L_chain_scale_1 : Ev → Sr :=
  (seqB (setB 6 (bin2 modO (bin2 mulO (vE 5) (vE 1)) (vE 0)))
    (seqB (ifB (sinT 4 (vE 6))
    (fun _ => .bad)
    nxB)
    (seqB (saddB 4 (vE 6))
    (appB 3 (vE 6)))))
noncomputable def B_chain_scale : Ev → Sr :=
  (seqB (setO 3 (lstE aNil))
    (seqB (set0B 4)
    (seqB (forB (.one 5) (cal rng1 (aCons (vE 2) aNil))
    L_chain_scale_1)
    (retF (cal sortedO (aCons (vR 3) aNil))))))
noncomputable def F_chain_scale : List D → Ans := runF 3 4 B_chain_scale
theorem c_chain_scale {f : Addr} {fd : FuncData} (Fu : Fun K "chain_scale" "chain_scale" s_chain_scale f fd) (gm : mg "chain_scale" = some (.ref f)) (bd : Binds K fd ["period", "generator", "count"] []) (bl : Blt mg) : Cal P w K mg base 2 "chain_scale" F_chain_scale :=
  cal_mk (k := 1) Fu sc_chain_scale (by decide) gm bd fun cdv A outer s H E hr => (fun sc => (dss_cons (ds_setO 3 sc.nd (df_lst da_nil))
    (dss_cons (ds_set0 4 sc.nd bl.set_)
    (dss_cons (ds_for (passes_of rfl) rfl (dg_n 5 sc.nd) (di_rng1 bl.range_ (dar_cons (dr (de_v 2)) dar_nil))
    (dss_cons (ds_set 6 sc.nd (de_op os_mod (dr (de_op os_mul (dr (de_v 5)) (dr (de_v 1)))) (dr (de_v 0))))
    (dss_cons (ds_if (dt_sin 4 (de_v 6))
    (dss_one ds_never)
    dss_nil)
    (dss_cons (ds_sadd 4 (de_v 6))
    (dss_one (ds_app 3 (de_v 6)))))))
    (dss_one (ds_retF (df_blt cf_sorted bl.sorted_ (by decide +kernel) (dar_cons (dr_v 3) dar_nil)))))))) sc_chain_scale
abbrev s_shifted : Stmt := topS 5
abbrev N_shifted : List Str := ["scale", "period", "by", "note"]
theorem sc_shifted : FnScope N_shifted ["scale", "period", "by"] (defScope s_shifted) := ⟨rfl, rfl, rfl, by decide +kernel, rfl, by decide +kernel, by decide +kernel⟩
noncomputable def B_shifted : Ev → Sr :=
  (retF (cal sortedO (aCons (frz (cmp (its (vE 0)) (.one 3) [3] yesT (bin2 modO (bin2 addO (vE 3) (vE 2)) (vE 1)))) aNil)))
noncomputable def F_shifted : List D → Ans := runF 3 1 B_shifted
theorem c_shifted {f : Addr} {fd : FuncData} (Fu : Fun K "shifted" "shifted" s_shifted f fd) (gm : mg "shifted" = some (.ref f)) (bd : Binds K fd ["scale", "period", "by"] []) (bl : Blt mg) : Cal P w K mg base 2 "shifted" F_shifted :=
  cal_mk (k := 1) Fu sc_shifted (by decide) gm bd fun cdv A outer s H E hr => (fun sc => (dss_one (ds_retF (df_blt cf_sorted bl.sorted_ (by decide +kernel) (dar_cons (dr_f (df_lc N_shifted (defScope s_shifted) [("note", 3)] rfl sc.nd (dic (di_seq (de_v 0))) (by decide +kernel) (fun _ _ _ _ _ => (dg_n 3 sc.nd)) (fun _ _ _ _ _ => dts_nil) (fun _ _ _ _ _ => (de_op os_mod (dr (de_op os_add (dr (de_v 3)) (dr (de_v 2)))) (dr (de_v 1)))))) dar_nil))))) sc_shifted
abbrev s_shared : Stmt := topS 6
abbrev N_shared : List Str := ["first", "second", "note"]
theorem sc_shared : FnScope N_shared ["first", "second"] (defScope s_shared) := ⟨rfl, rfl, rfl, by decide +kernel, rfl, by decide +kernel, by decide +kernel⟩
noncomputable def B_shared : Ev → Sr :=
  (retF (cmp (its (vE 0)) (.one 2) [2] (tst (bin2 inO (vE 2) (vE 1))) (vE 2)))
noncomputable def F_shared : List D → Ans := runF 2 1 B_shared
theorem c_shared {f : Addr} {fd : FuncData} (Fu : Fun K "shared" "shared" s_shared f fd) (gm : mg "shared" = some (.ref f)) (bd : Binds K fd ["first", "second"] []) (bl : Blt mg) : Cal P w K mg base 2 "shared" F_shared :=
  cal_mk (k := 1) Fu sc_shared (by decide) gm bd fun cdv A outer s H E hr => (fun sc => (dss_one (ds_retF (df_lc N_shared (defScope s_shared) [("note", 2)] rfl sc.nd (dic (di_seq (de_v 0))) (by decide +kernel) (fun _ _ _ _ _ => (dg_n 2 sc.nd)) (fun _ _ _ _ _ => (dts_one (dt_cmp (os_in hr) (dr (de_v 2)) (dr (de_v 1))))) (fun _ _ _ _ _ => (de_v 2)))))) sc_shared
abbrev s_chain_from : Stmt := topS 7
abbrev N_chain_from : List Str := ["note", "period", "generator", "count", "k"]
theorem sc_chain_from : FnScope N_chain_from ["note", "period", "generator", "count"] (defScope s_chain_from) := ⟨rfl, rfl, rfl, by decide +kernel, rfl, by decide +kernel, by decide +kernel⟩
noncomputable def B_chain_from : Ev → Sr :=
  (retF (cal sortedO (aCons (frz (cmp (cal rng1 (aCons (vE 3) aNil)) (.one 4) [4] yesT (bin2 modO (bin2 addO (vE 0) (bin2 mulO (vE 4) (vE 2))) (vE 1)))) aNil)))
noncomputable def F_chain_from : List D → Ans := runF 4 1 B_chain_from
theorem c_chain_from {f : Addr} {fd : FuncData} (Fu : Fun K "chain_from" "chain_from" s_chain_from f fd) (gm : mg "chain_from" = some (.ref f)) (bd : Binds K fd ["note", "period", "generator", "count"] []) (bl : Blt mg) : Cal P w K mg base 2 "chain_from" F_chain_from :=
  cal_mk (k := 1) Fu sc_chain_from (by decide) gm bd fun cdv A outer s H E hr => (fun sc => (dss_one (ds_retF (df_blt cf_sorted bl.sorted_ (by decide +kernel) (dar_cons (dr_f (df_lc N_chain_from (defScope s_chain_from) [("k", 4)] rfl sc.nd (dic (di_rng1 bl.range_ (dar_cons (dr (de_v 3)) dar_nil))) (by decide +kernel) (fun _ _ _ _ _ => (dg_n 4 sc.nd)) (fun _ _ _ _ _ => dts_nil) (fun _ _ _ _ _ => (de_op os_mod (dr (de_op os_add (dr (de_v 0)) (dr (de_op os_mul (dr (de_v 4)) (dr (de_v 2)))))) (dr (de_v 1)))))) dar_nil))))) sc_chain_from
abbrev s_chain_start : Stmt := topS 8
abbrev N_chain_start : List Str := ["scale", "period", "generator", "note"]
theorem sc_chain_start : FnScope N_chain_start ["scale", "period", "generator"] (defScope s_chain_start) := ⟨rfl, rfl, rfl, by decide +kernel, rfl, by decide +kernel, by decide +kernel⟩
noncomputable def L_chain_start_1 : Ev → Sr :=
  (ifB (tst (bin2 eqO (fn ansD F_chain_from (aCons (vE 3) (aCons (vE 1) (aCons (vE 2) (aCons (cal lenO (aCons (vE 0) aNil)) aNil))))) (vE 0)))
    (retV 3)
    nxB)
noncomputable def B_chain_start : Ev → Sr :=
  (seqB (forB (.one 3) (its (vE 0))
    L_chain_start_1)
    (retB (lit .none)))
noncomputable def F_chain_start : List D → Ans := runF 3 1 B_chain_start
theorem c_chain_start {f : Addr} {fd : FuncData} (Fu : Fun K "chain_start" "chain_start" s_chain_start f fd) (gm : mg "chain_start" = some (.ref f)) (bd : Binds K fd ["scale", "period", "generator"] []) (bl : Blt mg) (c_chain_from : Cal P w K mg base 2 "chain_from" F_chain_from) : Cal P w K mg base 3 "chain_start" F_chain_start :=
  cal_mk (k := 2) Fu sc_chain_start (by decide) gm bd fun cdv A outer s H E hr => (fun sc => (dss_cons (ds_for (passes_of rfl) rfl (dg_n 3 sc.nd) (di_seq (de_v 0))
    (dss_one (ds_if (dt_cmp (os_eq hr) (dr (de_fn c_chain_from (hr.mono (by decide)) (takes_of rfl rfl rfl rfl) (da_cons (de_v 3) (da_cons (de_v 1) (da_cons (de_v 2) (da_cons (de_blt cs_len bl.len_ boot_len (dar_cons (dr (de_v 0)) dar_nil)) da_nil)))))) (dr (de_v 0)))
    (dss_one (ds_retV 3))
    dss_nil)))
    (dss_one (ds_ret de_non)))) sc_chain_start
abbrev s_mode_from : Stmt := topS 10
abbrev N_mode_from : List Str := ["scale", "period", "note"]
theorem sc_mode_from : FnScope N_mode_from ["scale", "period", "note"] (defScope s_mode_from) := ⟨rfl, rfl, rfl, by decide +kernel, rfl, by decide +kernel, by decide +kernel⟩
noncomputable def B_mode_from : Ev → Sr :=
  (retA F_shifted (aCons (vE 0) (aCons (vE 1) (aCons (un1 negO (vE 2)) aNil))))
noncomputable def F_mode_from : List D → Ans := runF 3 0 B_mode_from
theorem c_mode_from {f : Addr} {fd : FuncData} (Fu : Fun K "mode_from" "mode_from" s_mode_from f fd) (gm : mg "mode_from" = some (.ref f)) (bd : Binds K fd ["scale", "period", "note"] []) (bl : Blt mg) (c_shifted : Cal P w K mg base 2 "shifted" F_shifted) : Cal P w K mg base 3 "mode_from" F_mode_from :=
  cal_mk (k := 2) Fu sc_mode_from (by decide) gm bd fun cdv A outer s H E hr => (fun sc => (dss_one (ds_retA c_shifted (hr.mono (by decide)) (takes_of rfl rfl rfl rfl) (da_cons (de_v 0) (da_cons (de_v 1) (da_cons (de_neg (de_v 2)) da_nil)))))) sc_mode_from
abbrev s__law_draws : Stmt := topS 12
abbrev N__law_draws : List Str := ["script", "many", "found", "cell", "number", "k", "mixed", "base"]
theorem sc__law_draws : FnScope N__law_draws ["script", "many"] (defScope s__law_draws) := ⟨rfl, rfl, rfl, by decide +kernel, rfl, by decide +kernel, by decide +kernel⟩
noncomputable def L__law_draws_4 : Ev → Sr :=
  (ifB (tst (bin2 ltO (cal lenO (aCons (vR 2) aNil)) (vE 1)))
    (seqB (setB 7 (lit (.int 0)))
    (seqB (ifB (tst (bin2 gtO (cal lenO (aCons (vR 2) aNil)) (lit (.int 0))))
    (setB 7 (bin2 ixO (vR 2) (bin2 modO (vE 5) (cal lenO (aCons (vR 2) aNil)))))
    nxB)
    (appB 2 (bin2 modO (bin2 addO (bin2 addO (bin2 mulO (vE 7) (lit (.int 16807))) (bin2 mulO (lit (.int 31)) (cal lenO (aCons (vR 2) aNil)))) (lit (.int 17))) (lit (.int 1000003))))))
    nxB)
noncomputable def L__law_draws_3 : Ev → Sr :=
  (seqB (setB 6 (bin2 modO (bin2 addO (bin2 addO (bin2 addO (bin2 mulO (vE 6) (lit (.int 69621))) (bin2 divO (vE 6) (lit (.int 65536)))) (bin2 mulO (lit (.int 13)) (vE 5))) (lit (.int 5))) (lit (.int 2147483629))))
    (appB 2 (bin2 modO (bin2 divO (vE 6) (lit (.int 8))) (lit (.int 1000003)))))
noncomputable def L__law_draws_2 : Ev → Sr :=
  (ifB (tst (bin2 gtO (vE 4) (lit (.int 0))))
    (seqB (appB 2 (bin2 modO (vE 4) (lit (.int 1000003))))
    (setB 4 (bin2 divO (vE 4) (lit (.int 1000003)))))
    nxB)
noncomputable def L__law_draws_1 : Ev → Sr :=
  (seqB (setB 4 (cal absO (aCons (cal intO (aCons (vE 3) aNil)) aNil)))
    (ifB (tst (bin2 geO (vE 4) (bin2 powO (lit (.int 10)) (lit (.int 18)))))
    (forB (.one 5) (cal rng1 (aCons (lit (.int 60)) aNil))
    L__law_draws_2)
    (seqB (setB 6 (bin2 modO (bin2 addO (bin2 addO (bin2 mulO (vE 4) (lit (.int 48271))) (bin2 mulO (lit (.int 7)) (cal lenO (aCons (vR 2) aNil)))) (lit (.int 11))) (lit (.int 2147483647))))
    (forB (.one 5) (cal rng1 (aCons (lit (.int 4)) aNil))
    L__law_draws_3))))
noncomputable def B__law_draws : Ev → Sr :=
  (seqB (setO 2 (lstE aNil))
    (seqB (forB (.one 3) (its (frz (slS 0 noPart (part (lit (.int 63))))))
    L__law_draws_1)
    (seqB (forB (.one 5) (cal rng1 (aCons (vE 1) aNil))
    L__law_draws_4)
    (retF (sl3 slO (vR 2) noPart (part (vE 1)))))))
noncomputable def F__law_draws : List Int → List D → Ans := runFS 2 6 B__law_draws
theorem c__law_draws {f : Addr} {fd : FuncData} (Fu : Fun K "_law_draws" "_law_draws" s__law_draws f fd) (gm : mg "_law_draws" = some (.ref f)) (bd : Binds K fd ["script", "many"] []) (bl : Blt mg) : CalS P w K mg base 2 "_law_draws" F__law_draws :=
  cals_mk (k := 1) Fu sc__law_draws (by decide) gm bd fun cdv A outer s H E hr => (fun sc => (dss_cons (ds_setO 2 sc.nd (df_lst da_nil))
    (dss_cons (ds_for (passes_of rfl) rfl (dg_n 3 sc.nd) (di_seq (de_f (df_sliceS 0 do_none (do_some (dr de_int)))))
    (dss_cons (ds_set 4 sc.nd (de_blt cs_abs bl.abs_ (by decide +kernel) (dar_cons (dr (de_bty cs_int bl.int_ boot_int (dar_cons (dr (de_v 3)) dar_nil))) dar_nil)))
    (dss_one (ds_if (dt_cmp os_ge (dr (de_v 4)) (dr (de_op os_pow (dr de_int) (dr de_int))))
    (dss_one (ds_for (passes_of rfl) rfl (dg_n 5 sc.nd) (di_rng1 bl.range_ (dar_cons (dr de_int) dar_nil))
    (dss_one (ds_if (dt_cmp os_gt (dr (de_v 4)) (dr de_int))
    (dss_cons (ds_app 2 (de_op os_mod (dr (de_v 4)) (dr de_int)))
    (dss_one (ds_set 4 sc.nd (de_op os_div (dr (de_v 4)) (dr de_int)))))
    dss_nil))))
    (dss_cons (ds_set 6 sc.nd (de_op os_mod (dr (de_op os_add (dr (de_op os_add (dr (de_op os_mul (dr (de_v 4)) (dr de_int))) (dr (de_op os_mul (dr de_int) (dr (de_blt cs_len bl.len_ boot_len (dar_cons (dr_v 2) dar_nil))))))) (dr de_int))) (dr de_int)))
    (dss_one (ds_for (passes_of rfl) rfl (dg_n 5 sc.nd) (di_rng1 bl.range_ (dar_cons (dr de_int) dar_nil))
    (dss_cons (ds_set 6 sc.nd (de_op os_mod (dr (de_op os_add (dr (de_op os_add (dr (de_op os_add (dr (de_op os_mul (dr (de_v 6)) (dr de_int))) (dr (de_op os_div (dr (de_v 6)) (dr de_int))))) (dr (de_op os_mul (dr de_int) (dr (de_v 5)))))) (dr de_int))) (dr de_int)))
    (dss_one (ds_app 2 (de_op os_mod (dr (de_op os_div (dr (de_v 6)) (dr de_int))) (dr de_int))))))))))))
    (dss_cons (ds_for (passes_of rfl) rfl (dg_n 5 sc.nd) (di_rng1 bl.range_ (dar_cons (dr (de_v 1)) dar_nil))
    (dss_one (ds_if (dt_cmp os_lt (dr (de_blt cs_len bl.len_ boot_len (dar_cons (dr_v 2) dar_nil))) (dr (de_v 1)))
    (dss_cons (ds_set 7 sc.nd de_int)
    (dss_cons (ds_if (dt_cmp os_gt (dr (de_blt cs_len bl.len_ boot_len (dar_cons (dr_v 2) dar_nil))) (dr de_int))
    (dss_one (ds_set 7 sc.nd (de_ix (dr_v 2) (dr (de_op os_mod (dr (de_v 5)) (dr (de_blt cs_len bl.len_ boot_len (dar_cons (dr_v 2) dar_nil))))))))
    dss_nil)
    (dss_one (ds_app 2 (de_op os_mod (dr (de_op os_add (dr (de_op os_add (dr (de_op os_mul (dr (de_v 7)) (dr de_int))) (dr (de_op os_mul (dr de_int) (dr (de_blt cs_len bl.len_ boot_len (dar_cons (dr_v 2) dar_nil))))))) (dr de_int))) (dr de_int))))))
    dss_nil)))
    (dss_one (ds_retF (df_slice (dr_v 2) do_none (do_some (dr (de_v 1)))))))))) sc__law_draws
abbrev s__law_is_number : Stmt := topS 13
abbrev N__law_is_number : List Str := ["value"]
theorem sc__law_is_number : FnScope N__law_is_number ["value"] (defScope s__law_is_number) := ⟨rfl, rfl, rfl, by decide +kernel, rfl, by decide +kernel, by decide +kernel⟩
noncomputable def B__law_is_number : Ev → Sr :=
  (retB (andV (isiE "int" (vE 0)) (notV (isiE "bool" (vE 0)))))
noncomputable def F__law_is_number : List D → Ans := runF 1 0 B__law_is_number
theorem c__law_is_number {f : Addr} {fd : FuncData} (Fu : Fun K "_law_is_number" "_law_is_number" s__law_is_number f fd) (gm : mg "_law_is_number" = some (.ref f)) (bd : Binds K fd ["value"] []) (bl : Blt mg) : Cal P w K mg base 2 "_law_is_number" F__law_is_number :=
  cal_mk (k := 1) Fu sc__law_is_number (by decide) gm bd fun cdv A outer s H E hr => (fun sc => (dss_one (ds_ret (de_and (de_isi (T := "int") (by decide) bl.isinstance_ bl.int_ boot_int (dr (de_v 0))) (de_one (de_not (de_isi (T := "bool") (by decide) bl.isinstance_ bl.bool_ boot_bool (dr (de_v 0))))))))) sc__law_is_number
abbrev s__law_is_numbers : Stmt := topS 14
abbrev N__law_is_numbers : List Str := ["value", "size", "item"]
theorem sc__law_is_numbers : FnScope N__law_is_numbers ["value", "size"] (defScope s__law_is_numbers) := ⟨rfl, rfl, rfl, by decide +kernel, rfl, by decide +kernel, by decide +kernel⟩
noncomputable def L__law_is_numbers_1 : Ev → Sr :=
  (ifB (notT (tst (fn ansD F__law_is_number (aCons (vE 2) aNil))))
    (retB (lit (.bool false)))
    nxB)
noncomputable def B__law_is_numbers : Ev → Sr :=
  (seqB (ifB (orT (notT (tst (isiE "list" (vE 0)))) (tst (bin2 neO (cal lenO (aCons (vE 0) aNil)) (vE 1))))
    (retB (lit (.bool false)))
    nxB)
    (seqB (forB (.one 2) (its (vE 0))
    L__law_is_numbers_1)
    (retB (lit (.bool true)))))
noncomputable def F__law_is_numbers : List D → Ans := runF 2 1 B__law_is_numbers
theorem c__law_is_numbers {f : Addr} {fd : FuncData} (Fu : Fun K "_law_is_numbers" "_law_is_numbers" s__law_is_numbers f fd) (gm : mg "_law_is_numbers" = some (.ref f)) (bd : Binds K fd ["value", "size"] []) (bl : Blt mg) (c__law_is_number : Cal P w K mg base 2 "_law_is_number" F__law_is_number) : Cal P w K mg base 3 "_law_is_numbers" F__law_is_numbers :=
  cal_mk (k := 2) Fu sc__law_is_numbers (by decide) gm bd fun cdv A outer s H E hr => (fun sc => (dss_cons (ds_if (dt_w (dw_or (dt_not (dt_v (de_isi (T := "list") (by decide) bl.isinstance_ bl.list_ boot_list (dr (de_v 0))))) (dw_or1 (dt_cmp (os_ne hr) (dr (de_blt cs_len bl.len_ boot_len (dar_cons (dr (de_v 0)) dar_nil))) (dr (de_v 1))))))
    (dss_one (ds_ret de_bl))
    dss_nil)
    (dss_cons (ds_for (passes_of rfl) rfl (dg_n 2 sc.nd) (di_seq (de_v 0))
    (dss_one (ds_if (dt_not (dt_v (de_fn c__law_is_number (hr.mono (by decide)) (takes_of rfl rfl rfl rfl) (da_cons (de_v 2) da_nil))))
    (dss_one (ds_ret de_bl))
    dss_nil)))
    (dss_one (ds_ret de_bl))))) sc__law_is_numbers
abbrev s__law_same_numbers : Stmt := topS 15
abbrev N__law_same_numbers : List Str := ["found", "due", "at"]
theorem sc__law_same_numbers : FnScope N__law_same_numbers ["found", "due"] (defScope s__law_same_numbers) := ⟨rfl, rfl, rfl, by decide +kernel, rfl, by decide +kernel, by decide +kernel⟩
noncomputable def L__law_same_numbers_1 : Ev → Sr :=
  (ifB (tst (bin2 neO (bin2 ixO (vE 0) (vE 2)) (bin2 ixO (vE 1) (vE 2))))
    (retB (lit (.bool false)))
    nxB)
noncomputable def B__law_same_numbers : Ev → Sr :=
  (seqB (ifB (notT (tst (fn ansD F__law_is_numbers (aCons (vE 0) (aCons (cal lenO (aCons (vE 1) aNil)) aNil)))))
    (retB (lit (.bool false)))
    nxB)
    (seqB (forB (.one 2) (cal rng1 (aCons (cal lenO (aCons (vE 1) aNil)) aNil))
    L__law_same_numbers_1)
    (retB (lit (.bool true)))))
noncomputable def F__law_same_numbers : List D → Ans := runF 2 1 B__law_same_numbers
theorem c__law_same_numbers {f : Addr} {fd : FuncData} (Fu : Fun K "_law_same_numbers" "_law_same_numbers" s__law_same_numbers f fd) (gm : mg "_law_same_numbers" = some (.ref f)) (bd : Binds K fd ["found", "due"] []) (bl : Blt mg) (c__law_is_numbers : Cal P w K mg base 3 "_law_is_numbers" F__law_is_numbers) : Cal P w K mg base 4 "_law_same_numbers" F__law_same_numbers :=
  cal_mk (k := 3) Fu sc__law_same_numbers (by decide) gm bd fun cdv A outer s H E hr => (fun sc => (dss_cons (ds_if (dt_not (dt_v (de_fn c__law_is_numbers (hr.mono (by decide)) (takes_of rfl rfl rfl rfl) (da_cons (de_v 0) (da_cons (de_blt cs_len bl.len_ boot_len (dar_cons (dr (de_v 1)) dar_nil)) da_nil)))))
    (dss_one (ds_ret de_bl))
    dss_nil)
    (dss_cons (ds_for (passes_of rfl) rfl (dg_n 2 sc.nd) (di_rng1 bl.range_ (dar_cons (dr (de_blt cs_len bl.len_ boot_len (dar_cons (dr (de_v 1)) dar_nil))) dar_nil))
    (dss_one (ds_if (dt_cmp (os_ne hr) (dr (de_ix (dr (de_v 0)) (dr (de_v 2)))) (dr (de_ix (dr (de_v 1)) (dr (de_v 2)))))
    (dss_one (ds_ret de_bl))
    dss_nil)))
    (dss_one (ds_ret de_bl))))) sc__law_same_numbers
abbrev s__law_gcd : Stmt := topS 16
abbrev N__law_gcd : List Str := ["first", "second", "step"]
theorem sc__law_gcd : FnScope N__law_gcd ["first", "second"] (defScope s__law_gcd) := ⟨rfl, rfl, rfl, by decide +kernel, rfl, by decide +kernel, by decide +kernel⟩
noncomputable def L__law_gcd_1 : Ev → Sr :=
  (ifB (tst (bin2 gtO (vE 1) (lit (.int 0))))
    (parB 0 1 (aCons (vE 1) (aCons (bin2 modO (vE 0) (vE 1)) aNil)))
    nxB)
noncomputable def B__law_gcd : Ev → Sr :=
  (seqB (setB 0 (cal absO (aCons (vE 0) aNil)))
    (seqB (setB 1 (cal absO (aCons (vE 1) aNil)))
    (seqB (forB (.one 2) (cal rng1 (aCons (lit (.int 80)) aNil))
    L__law_gcd_1)
    (retV 0))))
noncomputable def F__law_gcd : List D → Ans := runF 2 1 B__law_gcd
theorem c__law_gcd {f : Addr} {fd : FuncData} (Fu : Fun K "_law_gcd" "_law_gcd" s__law_gcd f fd) (gm : mg "_law_gcd" = some (.ref f)) (bd : Binds K fd ["first", "second"] []) (bl : Blt mg) : Cal P w K mg base 2 "_law_gcd" F__law_gcd :=
  cal_mk (k := 1) Fu sc__law_gcd (by decide) gm bd fun cdv A outer s H E hr => (fun sc => (dss_cons (ds_set 0 sc.nd (de_blt cs_abs bl.abs_ (by decide +kernel) (dar_cons (dr (de_v 0)) dar_nil)))
    (dss_cons (ds_set 1 sc.nd (de_blt cs_abs bl.abs_ (by decide +kernel) (dar_cons (dr (de_v 1)) dar_nil)))
    (dss_cons (ds_for (passes_of rfl) rfl (dg_n 2 sc.nd) (di_rng1 bl.range_ (dar_cons (dr de_int) dar_nil))
    (dss_one (ds_if (dt_cmp os_gt (dr (de_v 1)) (dr de_int))
    (dss_one (ds_par 0 1 rfl sc.nd (da_cons (de_v 1) (da_cons (de_op os_mod (dr (de_v 0)) (dr (de_v 1))) da_nil))))
    dss_nil)))
    (dss_one (ds_retV 0)))))) sc__law_gcd
abbrev s__law_chain : Stmt := topS 17
abbrev N__law_chain : List Str := ["period", "generator", "count", "k"]
theorem sc__law_chain : FnScope N__law_chain ["period", "generator", "count"] (defScope s__law_chain) := ⟨rfl, rfl, rfl, by decide +kernel, rfl, by decide +kernel, by decide +kernel⟩
noncomputable def B__law_chain : Ev → Sr :=
  (retF (cal sortedO (aCons (frz (cmp (cal rng1 (aCons (vE 2) aNil)) (.one 3) [3] yesT (bin2 modO (bin2 mulO (vE 3) (vE 1)) (vE 0)))) aNil)))
noncomputable def F__law_chain : List D → Ans := runF 3 1 B__law_chain
theorem c__law_chain {f : Addr} {fd : FuncData} (Fu : Fun K "_law_chain" "_law_chain" s__law_chain f fd) (gm : mg "_law_chain" = some (.ref f)) (bd : Binds K fd ["period", "generator", "count"] []) (bl : Blt mg) : Cal P w K mg base 2 "_law_chain" F__law_chain :=
  cal_mk (k := 1) Fu sc__law_chain (by decide) gm bd fun cdv A outer s H E hr => (fun sc => (dss_one (ds_retF (df_blt cf_sorted bl.sorted_ (by decide +kernel) (dar_cons (dr_f (df_lc N__law_chain (defScope s__law_chain) [("k", 3)] rfl sc.nd (dic (di_rng1 bl.range_ (dar_cons (dr (de_v 2)) dar_nil))) (by decide +kernel) (fun _ _ _ _ _ => (dg_n 3 sc.nd)) (fun _ _ _ _ _ => dts_nil) (fun _ _ _ _ _ => (de_op os_mod (dr (de_op os_mul (dr (de_v 3)) (dr (de_v 1)))) (dr (de_v 0)))))) dar_nil))))) sc__law_chain
abbrev s__law_chain_world : Stmt := topS 18
abbrev N__law_chain_world : List Str := ["draws", "period", "generator", "order", "count"]
theorem sc__law_chain_world : FnScope N__law_chain_world ["draws"] (defScope s__law_chain_world) := ⟨rfl, rfl, rfl, by decide +kernel, rfl, by decide +kernel, by decide +kernel⟩
noncomputable def B__law_chain_world : Ev → Sr :=
  (seqB (setB 1 (bin2 addO (lit (.int 1)) (bin2 modO (bin2 ixO (vE 0) (lit (.int 0))) (lit (.int 40)))))
    (seqB (setB 2 (bin2 subO (bin2 modO (bin2 ixO (vE 0) (lit (.int 1))) (lit (.int 121))) (lit (.int 60))))
    (seqB (ifB (tst (bin2 eqO (bin2 modO (bin2 ixO (vE 0) (lit (.int 2))) (lit (.int 8))) (lit (.int 0))))
    (seqB (setB 1 (bin2 addO (lit (.int 1)) (bin2 modO (bin2 ixO (vE 0) (lit (.int 0))) (bin2 powO (lit (.int 10)) (lit (.int 6))))))
    (setB 2 (bin2 subO (bin2 addO (bin2 mulO (bin2 ixO (vE 0) (lit (.int 1))) (lit (.int 1000003))) (bin2 ixO (vE 0) (lit (.int 3)))) (bin2 powO (lit (.int 10)) (lit (.int 11))))))
    nxB)
    (seqB (ifB (tst (bin2 eqO (bin2 modO (bin2 ixO (vE 0) (lit (.int 2))) (lit (.int 8))) (lit (.int 1))))
    (setB 1 (bin2 mulO (bin2 mulO (bin2 mulO (bin2 mulO (lit (.int 2)) (lit (.int 3))) (lit (.int 4))) (lit (.int 5))) (bin2 addO (lit (.int 1)) (bin2 modO (bin2 ixO (vE 0) (lit (.int 0))) (lit (.int 8))))))
    nxB)
    (seqB (setB 3 (bin2 divO (vE 1) (fn ansD F__law_gcd (aCons (vE 1) (aCons (vE 2) aNil)))))
    (seqB (setB 4 (bin2 addO (lit (.int 1)) (bin2 modO (bin2 ixO (vE 0) (lit (.int 4))) (cal min2O (aCons (lit (.int 400)) (aCons (vE 3) aNil))))))
    (seqB (ifB (tst (bin2 eqO (bin2 modO (bin2 divO (bin2 ixO (vE 0) (lit (.int 2))) (lit (.int 8))) (lit (.int 6))) (lit (.int 0))))
    (setB 4 (cal min2O (aCons (lit (.int 400)) (aCons (vE 3) aNil))))
    (ifB (tst (bin2 ltO (bin2 modO (bin2 divO (bin2 ixO (vE 0) (lit (.int 2))) (lit (.int 8))) (lit (.int 6))) (lit (.int 5))))
    (setB 4 (cal min2O (aCons (vE 4) (aCons (bin2 addO (lit (.int 1)) (bin2 modO (bin2 ixO (vE 0) (lit (.int 4))) (lit (.int 30)))) aNil))))
    nxB))
    (retB (tupE (aCons (vE 1) (aCons (vE 2) (aCons (vE 3) (aCons (vE 4) aNil)))))))))))))
noncomputable def F__law_chain_world : List D → Ans := runF 1 4 B__law_chain_world
theorem c__law_chain_world {f : Addr} {fd : FuncData} (Fu : Fun K "_law_chain_world" "_law_chain_world" s__law_chain_world f fd) (gm : mg "_law_chain_world" = some (.ref f)) (bd : Binds K fd ["draws"] []) (bl : Blt mg) (c__law_gcd : Cal P w K mg base 2 "_law_gcd" F__law_gcd) : Cal P w K mg base 3 "_law_chain_world" F__law_chain_world :=
  cal_mk (k := 2) Fu sc__law_chain_world (by decide) gm bd fun cdv A outer s H E hr => (fun sc => (dss_cons (ds_set 1 sc.nd (de_op os_add (dr de_int) (dr (de_op os_mod (dr (de_ix (dr (de_v 0)) (dr de_int))) (dr de_int)))))
    (dss_cons (ds_set 2 sc.nd (de_op os_sub (dr (de_op os_mod (dr (de_ix (dr (de_v 0)) (dr de_int))) (dr de_int))) (dr de_int)))
    (dss_cons (ds_if (dt_cmp (os_eq hr) (dr (de_op os_mod (dr (de_ix (dr (de_v 0)) (dr de_int))) (dr de_int))) (dr de_int))
    (dss_cons (ds_set 1 sc.nd (de_op os_add (dr de_int) (dr (de_op os_mod (dr (de_ix (dr (de_v 0)) (dr de_int))) (dr (de_op os_pow (dr de_int) (dr de_int)))))))
    (dss_one (ds_set 2 sc.nd (de_op os_sub (dr (de_op os_add (dr (de_op os_mul (dr (de_ix (dr (de_v 0)) (dr de_int))) (dr de_int))) (dr (de_ix (dr (de_v 0)) (dr de_int))))) (dr (de_op os_pow (dr de_int) (dr de_int)))))))
    dss_nil)
    (dss_cons (ds_if (dt_cmp (os_eq hr) (dr (de_op os_mod (dr (de_ix (dr (de_v 0)) (dr de_int))) (dr de_int))) (dr de_int))
    (dss_one (ds_set 1 sc.nd (de_op os_mul (dr (de_op os_mul (dr (de_op os_mul (dr (de_op os_mul (dr de_int) (dr de_int))) (dr de_int))) (dr de_int))) (dr (de_op os_add (dr de_int) (dr (de_op os_mod (dr (de_ix (dr (de_v 0)) (dr de_int))) (dr de_int))))))))
    dss_nil)
    (dss_cons (ds_set 3 sc.nd (de_op os_div (dr (de_v 1)) (dr (de_fn c__law_gcd (hr.mono (by decide)) (takes_of rfl rfl rfl rfl) (da_cons (de_v 1) (da_cons (de_v 2) da_nil))))))
    (dss_cons (ds_set 4 sc.nd (de_op os_add (dr de_int) (dr (de_op os_mod (dr (de_ix (dr (de_v 0)) (dr de_int))) (dr (de_blt (cs_min2 rfl) bl.min_ (by decide +kernel) (dar_cons (dr de_int) (dar_cons (dr (de_v 3)) dar_nil))))))))
    (dss_cons (ds_if (dt_cmp (os_eq hr) (dr (de_op os_mod (dr (de_op os_div (dr (de_ix (dr (de_v 0)) (dr de_int))) (dr de_int))) (dr de_int))) (dr de_int))
    (dss_one (ds_set 4 sc.nd (de_blt (cs_min2 rfl) bl.min_ (by decide +kernel) (dar_cons (dr de_int) (dar_cons (dr (de_v 3)) dar_nil)))))
    (dss_one (ds_if (dt_cmp os_lt (dr (de_op os_mod (dr (de_op os_div (dr (de_ix (dr (de_v 0)) (dr de_int))) (dr de_int))) (dr de_int))) (dr de_int))
    (dss_one (ds_set 4 sc.nd (de_blt (cs_min2 rfl) bl.min_ (by decide +kernel) (dar_cons (dr (de_v 4)) (dar_cons (dr (de_op os_add (dr de_int) (dr (de_op os_mod (dr (de_ix (dr (de_v 0)) (dr de_int))) (dr de_int))))) dar_nil)))))
    dss_nil)))
    (dss_one (ds_ret (de_tup (da_cons (de_v 1) (da_cons (de_v 2) (da_cons (de_v 3) (da_cons (de_v 4) da_nil))))))))))))))) sc__law_chain_world
abbrev s__law_mode : Stmt := topS 19
abbrev N__law_mode : List Str := ["scale", "period", "note", "other"]
theorem sc__law_mode : FnScope N__law_mode ["scale", "period", "note"] (defScope s__law_mode) := ⟨rfl, rfl, rfl, by decide +kernel, rfl, by decide +kernel, by decide +kernel⟩
noncomputable def B__law_mode : Ev → Sr :=
  (retF (cal sortedO (aCons (frz (cmp (its (vE 0)) (.one 3) [3] yesT (bin2 modO (bin2 subO (vE 3) (vE 2)) (vE 1)))) aNil)))
noncomputable def F__law_mode : List D → Ans := runF 3 1 B__law_mode
theorem c__law_mode {f : Addr} {fd : FuncData} (Fu : Fun K "_law_mode" "_law_mode" s__law_mode f fd) (gm : mg "_law_mode" = some (.ref f)) (bd : Binds K fd ["scale", "period", "note"] []) (bl : Blt mg) : Cal P w K mg base 2 "_law_mode" F__law_mode :=
  cal_mk (k := 1) Fu sc__law_mode (by decide) gm bd fun cdv A outer s H E hr => (fun sc => (dss_one (ds_retF (df_blt cf_sorted bl.sorted_ (by decide +kernel) (dar_cons (dr_f (df_lc N__law_mode (defScope s__law_mode) [("other", 3)] rfl sc.nd (dic (di_seq (de_v 0))) (by decide +kernel) (fun _ _ _ _ _ => (dg_n 3 sc.nd)) (fun _ _ _ _ _ => dts_nil) (fun _ _ _ _ _ => (de_op os_mod (dr (de_op os_sub (dr (de_v 3)) (dr (de_v 2)))) (dr (de_v 1)))))) dar_nil))))) sc__law_mode
abbrev s__law_without : Stmt := topS 20
abbrev N__law_without : List Str := ["first", "second", "note"]
theorem sc__law_without : FnScope N__law_without ["first", "second"] (defScope s__law_without) := ⟨rfl, rfl, rfl, by decide +kernel, rfl, by decide +kernel, by decide +kernel⟩
noncomputable def B__law_without : Ev → Sr :=
  (retF (cmp (its (vE 0)) (.one 2) [2] (tst (bin2 notinO (vE 2) (vE 1))) (vE 2)))
noncomputable def F__law_without : List D → Ans := runF 2 1 B__law_without
theorem c__law_without {f : Addr} {fd : FuncData} (Fu : Fun K "_law_without" "_law_without" s__law_without f fd) (gm : mg "_law_without" = some (.ref f)) (bd : Binds K fd ["first", "second"] []) (bl : Blt mg) : Cal P w K mg base 2 "_law_without" F__law_without :=
  cal_mk (k := 1) Fu sc__law_without (by decide) gm bd fun cdv A outer s H E hr => (fun sc => (dss_one (ds_retF (df_lc N__law_without (defScope s__law_without) [("note", 2)] rfl sc.nd (dic (di_seq (de_v 0))) (by decide +kernel) (fun _ _ _ _ _ => (dg_n 2 sc.nd)) (fun _ _ _ _ _ => (dts_one (dt_cmp (os_notin hr) (dr (de_v 2)) (dr (de_v 1))))) (fun _ _ _ _ _ => (de_v 2)))))) sc__law_without
abbrev s__law_asks_pair : Stmt := topS 21
abbrev N__law_asks_pair : List Str := ["scale", "period", "generator", "order", "links", "count", "near", "far", "first", "second", "apart", "both", "note"]
theorem sc__law_asks_pair : FnScope N__law_asks_pair ["scale", "period", "generator", "order", "links"] (defScope s__law_asks_pair) := ⟨rfl, rfl, rfl, by decide +kernel, rfl, by decide +kernel, by decide +kernel⟩
noncomputable def B__law_asks_pair : Ev → Sr :=
  (seqB (setB 5 (cal lenO (aCons (vE 0) aNil)))
    (seqB (unpB (.tup [6, 7]) (vE 4))
    (seqB (setB 8 (fn ansD F_mode_from (aCons (vE 0) (aCons (vE 1) (aCons (bin2 modO (bin2 mulO (vE 6) (vE 2)) (vE 1)) aNil)))))
    (seqB (setB 9 (fn ansD F_mode_from (aCons (vE 0) (aCons (vE 1) (aCons (bin2 modO (bin2 mulO (vE 7) (vE 2)) (vE 1)) aNil)))))
    (seqB (ifB (notT (tst (fn ansD F__law_same_numbers (aCons (vE 8) (aCons (fn ansD F__law_mode (aCons (vE 0) (aCons (vE 1) (aCons (bin2 modO (bin2 mulO (vE 6) (vE 2)) (vE 1)) aNil)))) aNil)))))
    (retB (lit (.bool false)))
    nxB)
    (seqB (ifB (orT (notT (tst (fn ansD F__law_same_numbers (aCons (vE 9) (aCons (fn ansD F__law_mode (aCons (vE 0) (aCons (vE 1) (aCons (bin2 modO (bin2 mulO (vE 7) (vE 2)) (vE 1)) aNil)))) aNil))))) (tst (bin2 neO (bin2 ixO (vE 9) (lit (.int 0))) (lit (.int 0)))))
    (retB (lit (.bool false)))
    nxB)
    (seqB (setB 10 (bin2 subO (vE 7) (vE 6)))
    (seqB (setB 11 (fn ansD F_shared (aCons (vE 8) (aCons (vE 9) aNil))))
    (seqB (ifB (notT (tst (fn ansD F__law_same_numbers (aCons (vE 11) (aCons (frz (cmp (its (vE 8)) (.one 12) [12] (tst (bin2 inO (vE 12) (vE 9))) (vE 12))) aNil)))))
    (retB (lit (.bool false)))
    nxB)
    (retB (bin2 eqO (cal lenO (aCons (vE 11) aNil)) (bin2 addO (bin2 subO (vE 5) (vE 10)) (cal max2O (aCons (lit (.int 0)) (aCons (bin2 subO (bin2 addO (vE 10) (vE 5)) (vE 3)) aNil)))))))))))))))
noncomputable def F__law_asks_pair : List D → Ans := runF 5 8 B__law_asks_pair
theorem c__law_asks_pair {f : Addr} {fd : FuncData} (Fu : Fun K "_law_asks_pair" "_law_asks_pair" s__law_asks_pair f fd) (gm : mg "_law_asks_pair" = some (.ref f)) (bd : Binds K fd ["scale", "period", "generator", "order", "links"] []) (bl : Blt mg) (c_mode_from : Cal P w K mg base 3 "mode_from" F_mode_from) (c__law_same_numbers : Cal P w K mg base 4 "_law_same_numbers" F__law_same_numbers) (c__law_mode : Cal P w K mg base 2 "_law_mode" F__law_mode) (c_shared : Cal P w K mg base 2 "shared" F_shared) : Cal P w K mg base 5 "_law_asks_pair" F__law_asks_pair :=
  cal_mk (k := 4) Fu sc__law_asks_pair (by decide) gm bd fun cdv A outer s H E hr => (fun sc => (dss_cons (ds_set 5 sc.nd (de_blt cs_len bl.len_ boot_len (dar_cons (dr (de_v 0)) dar_nil)))
    (dss_cons (ds_unp (dg_t rfl (dgs_cons 6 sc.nd (dgs_cons 7 sc.nd dgs_nil))) (de_v 4))
    (dss_cons (ds_set 8 sc.nd (de_fn c_mode_from (hr.mono (by decide)) (takes_of rfl rfl rfl rfl) (da_cons (de_v 0) (da_cons (de_v 1) (da_cons (de_op os_mod (dr (de_op os_mul (dr (de_v 6)) (dr (de_v 2)))) (dr (de_v 1))) da_nil)))))
    (dss_cons (ds_set 9 sc.nd (de_fn c_mode_from (hr.mono (by decide)) (takes_of rfl rfl rfl rfl) (da_cons (de_v 0) (da_cons (de_v 1) (da_cons (de_op os_mod (dr (de_op os_mul (dr (de_v 7)) (dr (de_v 2)))) (dr (de_v 1))) da_nil)))))
    (dss_cons (ds_if (dt_not (dt_v (de_fn c__law_same_numbers (hr.mono (by decide)) (takes_of rfl rfl rfl rfl) (da_cons (de_v 8) (da_cons (de_fn c__law_mode (hr.mono (by decide)) (takes_of rfl rfl rfl rfl) (da_cons (de_v 0) (da_cons (de_v 1) (da_cons (de_op os_mod (dr (de_op os_mul (dr (de_v 6)) (dr (de_v 2)))) (dr (de_v 1))) da_nil)))) da_nil)))))
    (dss_one (ds_ret de_bl))
    dss_nil)
    (dss_cons (ds_if (dt_w (dw_or (dt_not (dt_v (de_fn c__law_same_numbers (hr.mono (by decide)) (takes_of rfl rfl rfl rfl) (da_cons (de_v 9) (da_cons (de_fn c__law_mode (hr.mono (by decide)) (takes_of rfl rfl rfl rfl) (da_cons (de_v 0) (da_cons (de_v 1) (da_cons (de_op os_mod (dr (de_op os_mul (dr (de_v 7)) (dr (de_v 2)))) (dr (de_v 1))) da_nil)))) da_nil))))) (dw_or1 (dt_cmp (os_ne hr) (dr (de_ix (dr (de_v 9)) (dr de_int))) (dr de_int)))))
    (dss_one (ds_ret de_bl))
    dss_nil)
    (dss_cons (ds_set 10 sc.nd (de_op os_sub (dr (de_v 7)) (dr (de_v 6))))
    (dss_cons (ds_set 11 sc.nd (de_fn c_shared (hr.mono (by decide)) (takes_of rfl rfl rfl rfl) (da_cons (de_v 8) (da_cons (de_v 9) da_nil))))
    (dss_cons (ds_if (dt_not (dt_v (de_fn c__law_same_numbers (hr.mono (by decide)) (takes_of rfl rfl rfl rfl) (da_cons (de_v 11) (da_cons (de_f (df_lc N__law_asks_pair (defScope s__law_asks_pair) [("note", 12)] rfl sc.nd (dic (di_seq (de_v 8))) (by decide +kernel) (fun _ _ _ _ _ => (dg_n 12 sc.nd)) (fun _ _ _ _ _ => (dts_one (dt_cmp (os_in hr) (dr (de_v 12)) (dr (de_v 9))))) (fun _ _ _ _ _ => (de_v 12)))) da_nil)))))
    (dss_one (ds_ret de_bl))
    dss_nil)
    (dss_one (ds_ret (de_cmp (os_eq hr) (dr (de_blt cs_len bl.len_ boot_len (dar_cons (dr (de_v 11)) dar_nil))) (dr (de_op os_add (dr (de_op os_sub (dr (de_v 5)) (dr (de_v 10)))) (dr (de_blt (cs_max2 rfl) bl.max_ (by decide +kernel) (dar_cons (dr de_int) (dar_cons (dr (de_op os_sub (dr (de_op os_add (dr (de_v 10)) (dr (de_v 5)))) (dr (de_v 3)))) dar_nil))))))))))))))))))) sc__law_asks_pair
abbrev s__law_asks_neighbours : Stmt := topS 22
abbrev N__law_asks_neighbours : List Str := ["scale", "period", "generator", "order", "at", "count", "first", "second", "both"]
theorem sc__law_asks_neighbours : FnScope N__law_asks_neighbours ["scale", "period", "generator", "order", "at"] (defScope s__law_asks_neighbours) := ⟨rfl, rfl, rfl, by decide +kernel, rfl, by decide +kernel, by decide +kernel⟩
noncomputable def B__law_asks_neighbours : Ev → Sr :=
  (seqB (setB 5 (cal lenO (aCons (vE 0) aNil)))
    (seqB (setB 6 (fn ansD F_mode_from (aCons (vE 0) (aCons (vE 1) (aCons (bin2 modO (bin2 mulO (vE 4) (vE 2)) (vE 1)) aNil)))))
    (seqB (setB 7 (fn ansD F_mode_from (aCons (vE 0) (aCons (vE 1) (aCons (bin2 modO (bin2 mulO (bin2 addO (vE 4) (lit (.int 1))) (vE 2)) (vE 1)) aNil)))))
    (seqB (ifB (orT (notT (tst (fn ansD F__law_is_numbers (aCons (vE 6) (aCons (vE 5) aNil))))) (orT (notT (tst (fn ansD F__law_is_numbers (aCons (vE 7) (aCons (vE 5) aNil))))) (orT (tst (bin2 neO (bin2 ixO (vE 6) (lit (.int 0))) (lit (.int 0)))) (tst (bin2 neO (bin2 ixO (vE 7) (lit (.int 0))) (lit (.int 0)))))))
    (retB (lit (.bool false)))
    nxB)
    (seqB (setB 8 (fn ansD F_shared (aCons (vE 6) (aCons (vE 7) aNil))))
    (seqB (ifB (tst (bin2 eqO (vE 5) (vE 3)))
    (retB (andV (fn ansD F__law_same_numbers (aCons (vE 8) (aCons (vE 6) aNil))) (fn ansD F__law_same_numbers (aCons (vE 8) (aCons (vE 7) aNil)))))
    nxB)
    (seqB (ifB (notT (tst (fn ansD F__law_is_numbers (aCons (vE 8) (aCons (bin2 subO (vE 5) (lit (.int 1))) aNil)))))
    (retB (lit (.bool false)))
    nxB)
    (seqB (ifB (tst (bin2 neO (fn ansD F__law_without (aCons (vE 6) (aCons (vE 7) aNil))) (frz (lstE (aCons (bin2 modO (bin2 mulO (bin2 subO (bin2 subO (vE 5) (lit (.int 1))) (vE 4)) (vE 2)) (vE 1)) aNil)))))
    (retB (lit (.bool false)))
    nxB)
    (retB (bin2 eqO (fn ansD F__law_without (aCons (vE 7) (aCons (vE 6) aNil))) (frz (lstE (aCons (bin2 modO (bin2 mulO (bin2 subO (bin2 subO (lit (.int 0)) (vE 4)) (lit (.int 1))) (vE 2)) (vE 1)) aNil)))))))))))))
noncomputable def F__law_asks_neighbours : List D → Ans := runF 5 4 B__law_asks_neighbours
theorem c__law_asks_neighbours {f : Addr} {fd : FuncData} (Fu : Fun K "_law_asks_neighbours" "_law_asks_neighbours" s__law_asks_neighbours f fd) (gm : mg "_law_asks_neighbours" = some (.ref f)) (bd : Binds K fd ["scale", "period", "generator", "order", "at"] []) (bl : Blt mg) (c_mode_from : Cal P w K mg base 3 "mode_from" F_mode_from) (c__law_is_numbers : Cal P w K mg base 3 "_law_is_numbers" F__law_is_numbers) (c_shared : Cal P w K mg base 2 "shared" F_shared) (c__law_same_numbers : Cal P w K mg base 4 "_law_same_numbers" F__law_same_numbers) (c__law_without : Cal P w K mg base 2 "_law_without" F__law_without) : Cal P w K mg base 5 "_law_asks_neighbours" F__law_asks_neighbours :=
  cal_mk (k := 4) Fu sc__law_asks_neighbours (by decide) gm bd fun cdv A outer s H E hr => (fun sc => (dss_cons (ds_set 5 sc.nd (de_blt cs_len bl.len_ boot_len (dar_cons (dr (de_v 0)) dar_nil)))
    (dss_cons (ds_set 6 sc.nd (de_fn c_mode_from (hr.mono (by decide)) (takes_of rfl rfl rfl rfl) (da_cons (de_v 0) (da_cons (de_v 1) (da_cons (de_op os_mod (dr (de_op os_mul (dr (de_v 4)) (dr (de_v 2)))) (dr (de_v 1))) da_nil)))))
    (dss_cons (ds_set 7 sc.nd (de_fn c_mode_from (hr.mono (by decide)) (takes_of rfl rfl rfl rfl) (da_cons (de_v 0) (da_cons (de_v 1) (da_cons (de_op os_mod (dr (de_op os_mul (dr (de_op os_add (dr (de_v 4)) (dr de_int))) (dr (de_v 2)))) (dr (de_v 1))) da_nil)))))
    (dss_cons (ds_if (dt_w (dw_or (dt_not (dt_v (de_fn c__law_is_numbers (hr.mono (by decide)) (takes_of rfl rfl rfl rfl) (da_cons (de_v 6) (da_cons (de_v 5) da_nil))))) (dw_or (dt_not (dt_v (de_fn c__law_is_numbers (hr.mono (by decide)) (takes_of rfl rfl rfl rfl) (da_cons (de_v 7) (da_cons (de_v 5) da_nil))))) (dw_or (dt_cmp (os_ne hr) (dr (de_ix (dr (de_v 6)) (dr de_int))) (dr de_int)) (dw_or1 (dt_cmp (os_ne hr) (dr (de_ix (dr (de_v 7)) (dr de_int))) (dr de_int)))))))
    (dss_one (ds_ret de_bl))
    dss_nil)
    (dss_cons (ds_set 8 sc.nd (de_fn c_shared (hr.mono (by decide)) (takes_of rfl rfl rfl rfl) (da_cons (de_v 6) (da_cons (de_v 7) da_nil))))
    (dss_cons (ds_if (dt_cmp (os_eq hr) (dr (de_v 5)) (dr (de_v 3)))
    (dss_one (ds_ret (de_and (de_fn c__law_same_numbers (hr.mono (by decide)) (takes_of rfl rfl rfl rfl) (da_cons (de_v 8) (da_cons (de_v 6) da_nil))) (de_one (de_fn c__law_same_numbers (hr.mono (by decide)) (takes_of rfl rfl rfl rfl) (da_cons (de_v 8) (da_cons (de_v 7) da_nil)))))))
    dss_nil)
    (dss_cons (ds_if (dt_not (dt_v (de_fn c__law_is_numbers (hr.mono (by decide)) (takes_of rfl rfl rfl rfl) (da_cons (de_v 8) (da_cons (de_op os_sub (dr (de_v 5)) (dr de_int)) da_nil)))))
    (dss_one (ds_ret de_bl))
    dss_nil)
    (dss_cons (ds_if (dt_cmp (os_ne hr) (dr (de_fn c__law_without (hr.mono (by decide)) (takes_of rfl rfl rfl rfl) (da_cons (de_v 6) (da_cons (de_v 7) da_nil)))) (dr_f (df_lst (da_cons (de_op os_mod (dr (de_op os_mul (dr (de_op os_sub (dr (de_op os_sub (dr (de_v 5)) (dr de_int))) (dr (de_v 4)))) (dr (de_v 2)))) (dr (de_v 1))) da_nil))))
    (dss_one (ds_ret de_bl))
    dss_nil)
    (dss_one (ds_ret (de_cmp (os_eq hr) (dr (de_fn c__law_without (hr.mono (by decide)) (takes_of rfl rfl rfl rfl) (da_cons (de_v 7) (da_cons (de_v 6) da_nil)))) (dr_f (df_lst (da_cons (de_op os_mod (dr (de_op os_mul (dr (de_op os_sub (dr (de_op os_sub (dr de_int) (dr (de_v 4)))) (dr de_int))) (dr (de_v 2)))) (dr (de_v 1))) da_nil))))))))))))))) sc__law_asks_neighbours
abbrev s_law : Stmt := topS 23
abbrev N_law : List Str := ["script", "draws", "period", "generator", "order", "count", "scale", "kept", "told", "at", "k", "near", "far"]
theorem sc_law : FnScope N_law ["script"] (defScope s_law) := ⟨rfl, rfl, rfl, by decide +kernel, rfl, by decide +kernel, by decide +kernel⟩
noncomputable def L_law_2 : Ev → Sr :=
  (seqB (setB 11 (bin2 modO (bin2 ixO (vE 1) (bin2 addO (lit (.int 10)) (vE 10))) (vE 5)))
    (seqB (setB 12 (bin2 addO (vE 11) (bin2 modO (bin2 ixO (vE 1) (bin2 addO (lit (.int 16)) (vE 10))) (bin2 subO (vE 5) (vE 11)))))
    (ifB (notT (tst (fn ansD F__law_asks_pair (aCons (vE 6) (aCons (vE 2) (aCons (vE 3) (aCons (vE 4) (aCons (tupE (aCons (vE 11) (aCons (vE 12) aNil))) aNil))))))))
    (retB (lit (.bool false)))
    nxB)))
noncomputable def L_law_1 : Ev → Sr :=
  (ifB (notT (tst (fn ansD F__law_asks_neighbours (aCons (vE 6) (aCons (vE 2) (aCons (vE 3) (aCons (vE 4) (aCons (vE 9) aNil))))))))
    (retB (lit (.bool false)))
    nxB)
noncomputable def B_law : Ev → Sr :=
  (seqB (setB 1 (fnS 0 ansD F__law_draws (aCons (lit (.int 30)) aNil)))
    (seqB (unpB (.tup [2, 3, 4, 5]) (fn ansD F__law_chain_world (aCons (vE 1) aNil)))
    (seqB (setB 5 (cal min2O (aCons (vE 5) (aCons (bin2 addO (lit (.int 1)) (bin2 modO (bin2 ixO (vE 1) (lit (.int 5))) (lit (.int 30)))) aNil))))
    (seqB (ifB (andT (tst (bin2 leO (vE 4) (lit (.int 30)))) (tst (bin2 eqO (bin2 modO (bin2 ixO (vE 1) (lit (.int 6))) (lit (.int 5))) (lit (.int 0)))))
    (setB 5 (vE 4))
    nxB)
    (seqB (setB 6 (fn ansD F_chain_scale (aCons (vE 2) (aCons (vE 3) (aCons (vE 5) aNil)))))
    (seqB (ifB (notT (tst (fn ansD F__law_same_numbers (aCons (vE 6) (aCons (fn ansD F__law_chain (aCons (vE 2) (aCons (vE 3) (aCons (vE 5) aNil)))) aNil)))))
    (retB (lit (.bool false)))
    nxB)
    (seqB (setB 7 (frz (cal listO (aCons (vE 6) aNil))))
    (seqB (setB 8 (fn ansD F_chain_start (aCons (vE 6) (aCons (vE 2) (aCons (vE 3) aNil)))))
    (seqB (ifB (orT (notT (tst (fn ansD F__law_is_number (aCons (vE 8) aNil)))) (tst (bin2 neO (vE 8) (lit (.int 0)))))
    (retB (lit (.bool false)))
    nxB)
    (seqB (forB (.one 9) (cal rng1 (aCons (bin2 subO (vE 5) (lit (.int 1))) aNil))
    L_law_1)
    (seqB (forB (.one 10) (cal rng1 (aCons (lit (.int 6)) aNil))
    L_law_2)
    (retB (bin2 eqO (vE 6) (vE 7))))))))))))))
noncomputable def F_law : List Int → List D → Ans := runFS 1 12 B_law
theorem c_law {f : Addr} {fd : FuncData} (Fu : Fun K "law" "law" s_law f fd) (bl : Blt mg) (c__law_draws : CalS P w K mg base 2 "_law_draws" F__law_draws) (c__law_chain_world : Cal P w K mg base 3 "_law_chain_world" F__law_chain_world) (c_chain_scale : Cal P w K mg base 2 "chain_scale" F_chain_scale) (c__law_same_numbers : Cal P w K mg base 4 "_law_same_numbers" F__law_same_numbers) (c__law_chain : Cal P w K mg base 2 "_law_chain" F__law_chain) (c_chain_start : Cal P w K mg base 3 "chain_start" F_chain_start) (c__law_is_number : Cal P w K mg base 2 "_law_is_number" F__law_is_number) (c__law_asks_neighbours : Cal P w K mg base 5 "_law_asks_neighbours" F__law_asks_neighbours) (c__law_asks_pair : Cal P w K mg base 5 "_law_asks_pair" F__law_asks_pair) : FnOk P w K mg base (L2.CX P w) 6 f fd ["script"] (spFS (K := K) (mg := mg) F_law) :=
  cals_fn (k := 5) Fu sc_law (by decide) fun cdv A outer s H E hr => (fun sc => (dss_cons (ds_set 1 sc.nd (de_fnS 0 c__law_draws (hr.mono (by decide)) (takes_of rfl rfl rfl rfl) (da_cons de_int da_nil)))
    (dss_cons (ds_unp (dg_t rfl (dgs_cons 2 sc.nd (dgs_cons 3 sc.nd (dgs_cons 4 sc.nd (dgs_cons 5 sc.nd dgs_nil))))) (de_fn c__law_chain_world (hr.mono (by decide)) (takes_of rfl rfl rfl rfl) (da_cons (de_v 1) da_nil)))
    (dss_cons (ds_set 5 sc.nd (de_blt (cs_min2 rfl) bl.min_ (by decide +kernel) (dar_cons (dr (de_v 5)) (dar_cons (dr (de_op os_add (dr de_int) (dr (de_op os_mod (dr (de_ix (dr (de_v 1)) (dr de_int))) (dr de_int))))) dar_nil))))
    (dss_cons (ds_if (dt_w (dw_and (dt_cmp os_le (dr (de_v 4)) (dr de_int)) (dw_and1 (dt_cmp (os_eq hr) (dr (de_op os_mod (dr (de_ix (dr (de_v 1)) (dr de_int))) (dr de_int))) (dr de_int)))))
    (dss_one (ds_set 5 sc.nd (de_v 4)))
    dss_nil)
    (dss_cons (ds_set 6 sc.nd (de_fn c_chain_scale (hr.mono (by decide)) (takes_of rfl rfl rfl rfl) (da_cons (de_v 2) (da_cons (de_v 3) (da_cons (de_v 5) da_nil)))))
    (dss_cons (ds_if (dt_not (dt_v (de_fn c__law_same_numbers (hr.mono (by decide)) (takes_of rfl rfl rfl rfl) (da_cons (de_v 6) (da_cons (de_fn c__law_chain (hr.mono (by decide)) (takes_of rfl rfl rfl rfl) (da_cons (de_v 2) (da_cons (de_v 3) (da_cons (de_v 5) da_nil)))) da_nil)))))
    (dss_one (ds_ret de_bl))
    dss_nil)
    (dss_cons (ds_set 7 sc.nd (de_f (df_bty cf_list bl.list_ boot_list (dar_cons (dr (de_v 6)) dar_nil))))
    (dss_cons (ds_set 8 sc.nd (de_fn c_chain_start (hr.mono (by decide)) (takes_of rfl rfl rfl rfl) (da_cons (de_v 6) (da_cons (de_v 2) (da_cons (de_v 3) da_nil)))))
    (dss_cons (ds_if (dt_w (dw_or (dt_not (dt_v (de_fn c__law_is_number (hr.mono (by decide)) (takes_of rfl rfl rfl rfl) (da_cons (de_v 8) da_nil)))) (dw_or1 (dt_cmp (os_ne hr) (dr (de_v 8)) (dr de_int)))))
    (dss_one (ds_ret de_bl))
    dss_nil)
    (dss_cons (ds_for (passes_of rfl) rfl (dg_n 9 sc.nd) (di_rng1 bl.range_ (dar_cons (dr (de_op os_sub (dr (de_v 5)) (dr de_int))) dar_nil))
    (dss_one (ds_if (dt_not (dt_v (de_fn c__law_asks_neighbours (hr.mono (by decide)) (takes_of rfl rfl rfl rfl) (da_cons (de_v 6) (da_cons (de_v 2) (da_cons (de_v 3) (da_cons (de_v 4) (da_cons (de_v 9) da_nil))))))))
    (dss_one (ds_ret de_bl))
    dss_nil)))
    (dss_cons (ds_for (passes_of rfl) rfl (dg_n 10 sc.nd) (di_rng1 bl.range_ (dar_cons (dr de_int) dar_nil))
    (dss_cons (ds_set 11 sc.nd (de_op os_mod (dr (de_ix (dr (de_v 1)) (dr (de_op os_add (dr de_int) (dr (de_v 10)))))) (dr (de_v 5))))
    (dss_cons (ds_set 12 sc.nd (de_op os_add (dr (de_v 11)) (dr (de_op os_mod (dr (de_ix (dr (de_v 1)) (dr (de_op os_add (dr de_int) (dr (de_v 10)))))) (dr (de_op os_sub (dr (de_v 5)) (dr (de_v 11))))))))
    (dss_one (ds_if (dt_not (dt_v (de_fn c__law_asks_pair (hr.mono (by decide)) (takes_of rfl rfl rfl rfl) (da_cons (de_v 6) (da_cons (de_v 2) (da_cons (de_v 3) (da_cons (de_v 4) (da_cons (de_tup (da_cons (de_v 11) (da_cons (de_v 12) da_nil))) da_nil))))))))
    (dss_one (ds_ret de_bl))
    dss_nil)))))
    (dss_one (ds_ret (de_cmp (os_eq hr) (dr (de_v 6)) (dr (de_v 7))))))))))))))))) sc_law
end
end K71

set_option Elab.async false
set_option linter.all false
set_option maxRecDepth 100000
set_option maxHeartbeats 4000000
/-! law k71: neighbouring modes -/
namespace K71
open PySem Pu Cm Cc
section
variable {p n c : Nat} {g : Int} {fs : List Int}
theorem draws_k (ns : List Int) : ∃ fs, F__law_draws ns [.int 30] = .fr (iL fs) ∧ fs.length = 30 ∧ In fs := by
  obtain ⟨fs, hd, hl, hf⟩ := draws_eq ns 30 (by decide)
  exact ⟨fs, hd, hl, hf⟩
theorem k_world (hf : In fs) (hl : 5 ≤ fs.length) : ∃ p g n c, F__law_chain_world [.list (iL fs)] = .ok (.tuple [.int (p : Nat), .int g, .int (n : Nat), .int (c : Nat)]) ∧ Chn p g n c := world_eq hf hl
theorem k_scale (h : Chn p g n c) : F_chain_scale [.int p, .int g, .int c] = .fr (iL (sortI (win p g 0 c))) := chain_scale_eq h (Nat.le_refl _)
theorem k_chain (h : Chn p g n c) : F__law_chain [.int p, .int g, .int c] = .fr (iL (sortI (win p g 0 c))) := chain_eq h (Nat.le_refl _)
theorem k_same (a : List Int) (h : a.length ≤ 1000000) : F__law_same_numbers [.list (iL a), .list (iL a)] = .ok (.bool true) := same_true a h
theorem k_nums (a : List Int) (n : Int) (h : (a.length : Int) = n) : F__law_is_numbers [.list (iL a), .int n] = .ok (.bool true) := isNums_eq a n h
theorem k_num (a : Int) : F__law_is_number [.int a] = .ok (.bool true) := isNum_int a
theorem k_shared (a b : List Int) (ha : a.length < 1000000) : F_shared [.list (iL a), .list (iL b)] = .fr (iL (a.filter fun x => decide (x ∈ b))) := shared_eq a b ha
theorem k_shifted (hp : 0 < p) (l : List Int) (hl : l.length < 1000000) (by' : Int) : F_shifted [.list (iL l), .int p, .int by'] = .fr (iL (sortI (l.map fun x => (x + by') % p))) := shifted_eq hp l hl by'
theorem k_from (h : Chn p g n c) (note : Int) : F_chain_from [.int note, .int p, .int g, .int c] = .fr (iL (sortI ((List.range c).map fun (k : Nat) => (note + (k : Int) * g) % p))) := chain_from_eq h (Nat.le_refl _) note
theorem without_eq (a b : List Int) (ha : a.length < 1000000) : F__law_without [.list (iL a), .list (iL b)] = .fr (iL (a.filter fun x => !decide (x ∈ b))) := by
  have hc : ∀ ρ : Ev, ρ[0]? = some (.sh (.list (iL a))) → ρ[1]? = some (.sh (.list (iL b))) → 2 < ρ.length → cmp (its (vE 0)) (.one 2) [2] (tst (bin2 notinO (vE 2) (vE 1))) (vE 2) ρ = .ok (iL (a.filter fun x => !decide (x ∈ b))) := fun ρ h0 h1 h2 => by
    refine cmp_flt PyData.int _ PyData.int (by simp [-List.getD_eq_getElem?_getD, -cmp_ap, h0]; rfl) ha fun x hx => ?_
    simp [-List.getD_eq_getElem?_getD, -cmp_ap, turnC, List.getElem?_set, h1, h2]
    by_cases hb : x ∈ b <;> simp [hb]
  unfold F__law_without runF B__law_without
  simp [-List.getD_eq_getElem?_getD, -cmp_ap, hc]
/-! ### modes -/
theorem res_sub (p : Nat) (g a i : Int) : (res p g i + -(res p g a)) % (p : Int) = res p g (i - a) := by
  unfold res
  rw [← Int.sub_eq_add_neg, ← Int.sub_emod, Int.sub_mul]
theorem mode_perm (a : Int) : sortI ((sortI (win p g 0 c)).map fun x => (x + -(res p g a)) % (p : Int)) = sortI (win p g (-a) c) := by
  refine sort_perm (((sortI_perm _).map _).trans (List.Perm.of_eq ?_))
  unfold win
  rw [List.map_map]
  refine List.map_congr_left fun k _ => ?_
  show (res p g (0 + (k : Int)) + -(res p g a)) % (p : Int) = res p g (-a + (k : Int))
  rw [res_sub]
  congr 1
  omega
theorem mode_eq (h : Chn p g n c) (a : Int) : F_mode_from [.list (iL (sortI (win p g 0 c))), .int p, .int (res p g a)] = .fr (iL (sortI (win p g (-a) c))) := by
  have h2 := h.c2
  have hs := k_shifted h.p0 (sortI (win p g 0 c)) (by rw [sort_len, win_len]; omega) (-(res p g a))
  rw [mode_perm] at hs
  unfold F_mode_from runF B_mode_from
  simp [-List.getD_eq_getElem?_getD, -cmp_ap, hs]
theorem lmode_eq (h : Chn p g n c) (a : Int) : F__law_mode [.list (iL (sortI (win p g 0 c))), .int p, .int (res p g a)] = .fr (iL (sortI (win p g (-a) c))) := by
  have h2 := h.c2
  have mp := mod_res h.p0
  have hc : ∀ ρ : Ev, ρ[0]? = some (.sh (.list (iL (sortI (win p g 0 c))))) → ρ[1]? = some (.sh (.int p)) → ρ[2]? = some (.sh (.int (res p g a))) → 3 < ρ.length → cmp (its (vE 0)) (.one 3) [3] yesT (bin2 modO (bin2 subO (vE 3) (vE 2)) (vE 1)) ρ = .ok (iL ((sortI (win p g 0 c)).map fun x => (x + -(res p g a)) % p)) := fun ρ h0 h1 h2 h3 => by
    rw [cmp_list PyData.int (fun x => .int ((x + -(res p g a)) % p)) (xs := sortI (win p g 0 c)) (by simp [-List.getD_eq_getElem?_getD, -cmp_ap, h0]; rfl) (by rw [sort_len, win_len]; omega) fun x hx => by
      simp [-List.getD_eq_getElem?_getD, -cmp_ap, turnC, List.getElem?_set, h1, h2, h3, mp, Int.sub_eq_add_neg]]
    simp [iL]
  have hs := mode_perm (p := p) (g := g) (c := c) a
  unfold F__law_mode runF B__law_mode
  simp [-List.getD_eq_getElem?_getD, -cmp_ap, hc, sortedO_iL, hs]
/-! ### the windows -/
theorem win_full (h : Chn p g n c) (lo lo' : Int) {x : Int} (hx : x ∈ win p g lo n) : x ∈ win p g lo' n := by
  obtain ⟨i, h1, h2, rfl⟩ := mem_win.mp hx
  have hn : 0 < n := by have := h.c0; have := h.c1; omega
  have q1 := Int.emod_nonneg (i - lo') (show (n : Int) ≠ 0 by omega)
  have q2 := Int.emod_lt_of_pos (i - lo') (show (0 : Int) < n by omega)
  refine mem_win.mpr ⟨lo' + (i - lo') % n, by omega, by omega, (res_eq h.p0 h.on _ _).mpr ?_⟩
  refine ⟨(i - lo') / n, ?_⟩
  have := Int.mul_ediv_add_emod (i - lo') n
  omega
theorem win_same (h : Chn p g n c) (lo lo' : Int) : sortI (win p g lo n) = sortI (win p g lo' n) :=
  sort_perm ((List.perm_ext_iff_of_nodup (win_nodup h.p0 h.on (Nat.le_refl _)) (win_nodup h.p0 h.on (Nat.le_refl _))).mpr fun x => ⟨win_full h lo lo', win_full h lo' lo⟩)
theorem filter_single {a : List Int} {q : Int → Bool} {x : Int} (nd : a.Nodup) (h : ∀ y, (y ∈ a ∧ q y = true) ↔ y = x) : a.filter q = [x] := by
  refine List.perm_singleton.mp ((List.perm_ext_iff_of_nodup (nd.sublist List.filter_sublist) (by simp)).mpr fun y => ?_)
  rw [List.mem_filter, h]
  simp
theorem head_0 (h : Chn p g n c) {lo : Int} (h1 : lo ≤ 0) (h2 : 0 < lo + c) : L2.atI (iL (sortI (win p g lo c))) 0 = some (.int 0) := by
  obtain ⟨r, hr⟩ := sort_head (l := win p g lo c) (mem_win.mpr ⟨0, h1, h2, (res_0 p g).symm⟩) fun x hx => by
    obtain ⟨i, _, _, rfl⟩ := mem_win.mp hx
    exact res_nn h.p0 g i
  rw [hr]
  exact at_map (f := PyData.int) (xs := 0 :: r) (i := 0) (a := 0) rfl
theorem diff_hi (h : Chn p g n c) (hc : c < n) (at' : Int) : (sortI (win p g (-at') c)).filter (fun x => !decide (x ∈ sortI (win p g (-(at' + 1)) c))) = [res p g ((c : Int) - 1 - at')] := by
  have c0 := h.c0
  refine filter_single (sort_nodup (win_nodup h.p0 h.on h.c1)) fun y => ?_
  simp only [sort_mem, Bool.not_eq_true', decide_eq_false_iff_not]
  refine ⟨fun ⟨h1, h2⟩ => ?_, fun e => ?_⟩
  · obtain ⟨i, i1, i2, rfl⟩ := mem_win.mp h1
    have : i = (c : Int) - 1 - at' := Classical.byContradiction fun hne => h2 (mem_win.mpr ⟨i, by omega, by omega, rfl⟩)
    rw [this]
  · subst e
    refine ⟨mem_win.mpr ⟨_, by omega, by omega, rfl⟩, fun hm => ?_⟩
    obtain ⟨i, i1, i2, e⟩ := mem_win.mp hm
    have := res_inj h.p0 h.on (by omega) (by omega) e
    omega
theorem diff_lo (h : Chn p g n c) (hc : c < n) (at' : Int) : (sortI (win p g (-(at' + 1)) c)).filter (fun x => !decide (x ∈ sortI (win p g (-at') c))) = [res p g (0 - at' - 1)] := by
  have c0 := h.c0
  refine filter_single (sort_nodup (win_nodup h.p0 h.on h.c1)) fun y => ?_
  simp only [sort_mem, Bool.not_eq_true', decide_eq_false_iff_not]
  refine ⟨fun ⟨h1, h2⟩ => ?_, fun e => ?_⟩
  · obtain ⟨i, i1, i2, rfl⟩ := mem_win.mp h1
    have : i = 0 - at' - 1 := Classical.byContradiction fun hne => h2 (mem_win.mpr ⟨i, by omega, by omega, rfl⟩)
    rw [this]
  · subst e
    refine ⟨mem_win.mpr ⟨_, by omega, by omega, rfl⟩, fun hm => ?_⟩
    obtain ⟨i, i1, i2, e⟩ := mem_win.mp hm
    have := res_inj h.p0 h.on (by omega) (by omega) e
    omega
theorem filter_two (q : Int → Bool) : ∀ l : List Int, (l.filter q).length + (l.filter fun x => !q x).length = l.length
  | [] => rfl
  | a :: l => by
    have := filter_two q l
    rw [List.filter_cons, List.filter_cons]
    cases q a <;> simp <;> omega
theorem ne_one (x : Int) : neO (.list (iL [x])) (.list [.int x]) = some (.bool false) := by
  have := neO_iL [x] [x]
  rw [decide_eq_true rfl] at this
  exact this
theorem eq_one (x : Int) : eqO (.list (iL [x])) (.list [.int x]) = some (.bool true) := by
  have := eqO_iL [x] [x]
  rw [decide_eq_true rfl] at this
  exact this
theorem filter_self (l : List Int) : l.filter (fun x => decide (x ∈ l)) = l := List.filter_eq_self.mpr fun x hx => decide_eq_true hx
theorem neighbours_eq (h : Chn p g n c) {at' : Nat} (ha : at' + 1 < c) : F__law_asks_neighbours [.list (iL (sortI (win p g 0 c))), .int p, .int g, .int n, .int at'] = .ok (.bool true) := by
  have c2 := h.c2
  have mp := mod_res h.p0
  have m1 := mode_eq h (at' : Int)
  have m2 := mode_eq h ((at' : Int) + 1)
  have r1 : ∀ i : Int, i * g % (p : Int) = res p g i := fun _ => rfl
  have ml : ∀ i : Int, -1000 ≤ i → i ≤ 1000 → mulO (.int i) (.int g) = some (.int (i * g)) := fun i h1 h2 => mulO_l (by omega)
  have ml1 := ml at' (by omega) (by omega)
  have ml2 := ml (at' + 1) (by omega) (by omega)
  have ml3 := ml (c - 1 - at') (by omega) (by omega)
  have ml4 := ml (0 - at' - 1) (by omega) (by omega)
  have lenA : (sortI (win p g (-(at' : Int)) c)).length = c := by rw [sort_len, win_len]
  have lenB : (sortI (win p g (-((at' : Int) + 1)) c)).length = c := by rw [sort_len, win_len]
  have hA := head_0 h (lo := -(at' : Int)) (by omega) (by omega)
  have hB := head_0 h (lo := -((at' : Int) + 1)) (by omega) (by omega)
  have s0 : (sortI (win p g 0 c)).length = c := by rw [sort_len, win_len]
  by_cases hcn : c = n
  · have hAB : sortI (win p g (-(at' : Int)) c) = sortI (win p g (-((at' : Int) + 1)) c) := by rw [hcn]; exact win_same h _ _
    rw [hAB] at m1 hA
    generalize sortI (win p g (-((at' : Int) + 1)) c) = B at *
    have n2 := k_nums B c (by omega)
    have sh := k_shared B B (by omega)
    rw [filter_self] at sh
    have sm := k_same B (by omega)
    subst hcn
    unfold F__law_asks_neighbours runF B__law_asks_neighbours
    simp [-List.getD_eq_getElem?_getD, -cmp_ap, ml1, ml2, mp, r1, m1, m2, s0, n2, hA, hB, sh, sm]
  · have hcl : c < n := by have := h.c1; omega
    have d1 := diff_hi h hcl at'
    have d2 := diff_lo h hcl at'
    rw [show (0 : Int) - at' - 1 = -(at' : Int) - 1 by omega] at d2
    have hcn' : ¬ (c : Int) = n := by omega
    generalize sortI (win p g (-(at' : Int)) c) = A at *
    generalize sortI (win p g (-((at' : Int) + 1)) c) = B at *
    have n1 := k_nums A c (by omega)
    have n2 := k_nums B c (by omega)
    have sh := k_shared A B (by omega)
    have w1 := without_eq A B (by omega)
    have w2 := without_eq B A (by omega)
    have ft := filter_two (fun x => decide (x ∈ B)) A
    rw [d1] at w1 ft
    rw [d2] at w2
    have n3 := k_nums (A.filter fun x => decide (x ∈ B)) ((c : Int) - 1) (by simp only [List.length_cons, List.length_nil] at ft; omega)
    generalize A.filter (fun x => decide (x ∈ B)) = C at *
    have o1 := ne_one (res p g ((c : Int) - 1 - at'))
    have o2 := eq_one (res p g (-(at' : Int) - 1))
    generalize hX : iL [res p g ((c : Int) - 1 - at')] = X at *
    generalize hY : iL [res p g (-(at' : Int) - 1)] = Y at *
    unfold F__law_asks_neighbours runF B__law_asks_neighbours
    have ml4' : mulO (.int (-(at' : Int) - 1)) (.int g) = some (.int ((-(at' : Int) - 1) * g)) := ml _ (by omega) (by omega)
    simp [-List.getD_eq_getElem?_getD, -cmp_ap, ml1, ml2, mp, r1, m1, m2, s0, n1, n2, hA, hB, sh, hcn', n3, ml3, w1, o1, ml4', w2, o2]
theorem cnt {a b : Nat} (h : a ≤ b) : ∀ m : Nat, ((List.range m).filter fun k => decide (k < a) || decide (b ≤ k)).length = min m a + (m - b)
  | 0 => by simp
  | m + 1 => by
    rw [List.range_succ, List.filter_append, List.length_append, cnt h m]
    by_cases h1 : m < a
    · have : ([m].filter fun k => decide (k < a) || decide (b ≤ k)) = [m] := by simp [h1]
      rw [this]
      simp only [List.length_cons, List.length_nil]
      omega
    · by_cases h2 : b ≤ m
      · have : ([m].filter fun k => decide (k < a) || decide (b ≤ k)) = [m] := by simp [h2]
        rw [this]
        simp only [List.length_cons, List.length_nil]
        omega
      · have : ([m].filter fun k => decide (k < a) || decide (b ≤ k)) = [] := by simp [h1, h2]
        rw [this]
        simp only [List.length_nil]
        omega
/-- how many notes two modes share -/
theorem share_len (h : Chn p g n c) {near far : Nat} (h1 : near ≤ far) (h2 : far < c) : ((sortI (win p g (-(near : Int)) c)).filter fun x => decide (x ∈ sortI (win p g (-(far : Int)) c))).length = (c - (far - near)) + (c - (n - (far - near))) := by
  have hc1 := h.c1
  have e1 : ((sortI (win p g (-(near : Int)) c)).filter fun x => decide (x ∈ sortI (win p g (-(far : Int)) c))).length = ((win p g (-(near : Int)) c).filter fun x => decide (x ∈ win p g (-(far : Int)) c)).length := by
    rw [((sortI_perm (win p g (-(near : Int)) c)).filter _).length_eq]
    congr 1
    exact List.filter_congr fun x _ => by simp only [sort_mem]
  rw [e1]
  have e2 : ((win p g (-(near : Int)) c).filter fun x => decide (x ∈ win p g (-(far : Int)) c)).length = ((List.range c).filter fun k => decide (k < c - (far - near)) || decide (n - (far - near) ≤ k)).length := by
    unfold win
    rw [List.filter_map, List.length_map]
    congr 1
    refine List.filter_congr fun k hk => ?_
    have hk := List.mem_range.mp hk
    show decide (res p g (-(near : Int) + (k : Int)) ∈ win p g (-(far : Int)) c) = _
    rw [← Bool.decide_or]
    refine decide_eq_decide.mpr ⟨fun hm => ?_, fun hm => ?_⟩
    · obtain ⟨i, i1, i2, e⟩ := mem_win.mp hm
      have hd := (res_eq h.p0 h.on _ _).mp e
      by_cases hA : k < c - (far - near)
      · exact .inl hA
      · refine .inr (Classical.byContradiction fun hB => ?_)
        have := small_dvd hd (by omega) (by omega)
        omega
    · rcases hm with hm | hm
      · exact mem_win.mpr ⟨_, by omega, by omega, rfl⟩
      · refine mem_win.mpr ⟨-(near : Int) + k - n, by omega, by omega, (res_eq h.p0 h.on _ _).mpr ⟨1, by omega⟩⟩
  rw [e2, cnt (by omega)]
  omega
theorem pair_eq (h : Chn p g n c) {near far : Nat} (h1 : near ≤ far) (h2 : far < c) : F__law_asks_pair [.list (iL (sortI (win p g 0 c))), .int p, .int g, .int n, .tuple [.int near, .int far]] = .ok (.bool true) := by
  have c2 := h.c2
  have hc1 := h.c1
  have mp := mod_res h.p0
  have r1 : ∀ i : Int, i * g % (p : Int) = res p g i := fun _ => rfl
  have m1 := mode_eq h (near : Int)
  have m2 := mode_eq h (far : Int)
  have l1 := lmode_eq h (near : Int)
  have l2 := lmode_eq h (far : Int)
  have ml1 : mulO (.int (near : Int)) (.int g) = some (.int (near * g)) := mulO_l (by omega)
  have ml2 : mulO (.int (far : Int)) (.int g) = some (.int (far * g)) := mulO_l (by omega)
  have s0 : (sortI (win p g 0 c)).length = c := by rw [sort_len, win_len]
  have lenA : (sortI (win p g (-(near : Int)) c)).length = c := by rw [sort_len, win_len]
  have lenB : (sortI (win p g (-(far : Int)) c)).length = c := by rw [sort_len, win_len]
  have hB := head_0 h (lo := -(far : Int)) (by omega) (by omega)
  have sl := share_len h h1 h2
  generalize sortI (win p g (-(near : Int)) c) = A at *
  generalize sortI (win p g (-(far : Int)) c) = B at *
  have sA := k_same A (by omega)
  have sB := k_same B (by omega)
  have sh := k_shared A B (by omega)
  have hcmp : ∀ ρ : Ev, ρ[8]? = some (.sh (.list (iL A))) → ρ[9]? = some (.sh (.list (iL B))) → 12 < ρ.length → cmp (its (vE 8)) (.one 12) [12] (tst (bin2 inO (vE 12) (vE 9))) (vE 12) ρ = .ok (iL (A.filter fun x => decide (x ∈ B))) := fun ρ e8 e9 e12 => by
    refine cmp_flt PyData.int _ PyData.int (by simp [-List.getD_eq_getElem?_getD, -cmp_ap, e8]; rfl) (by omega) fun x hx => ?_
    simp [-List.getD_eq_getElem?_getD, -cmp_ap, turnC, List.getElem?_set, e9, e12]
    by_cases hb : x ∈ B <;> simp [hb]
  have lenC := List.length_filter_le (fun x => decide (x ∈ B)) A
  generalize A.filter (fun x => decide (x ∈ B)) = C at *
  have sC := k_same C (by omega)
  unfold F__law_asks_pair runF B__law_asks_pair
  simp [-List.getD_eq_getElem?_getD, -cmp_ap, ml1, ml2, mp, r1, m1, m2, l1, l2, s0, sA, sB, hB, sh, hcmp, sC]
  rw [sl]
  omega
/-! ### the start of a chain -/
theorem start_eq (h : Chn p g n c) : F_chain_start [.list (iL (sortI (win p g 0 c))), .int p, .int g] = .ok (.int 0) := by
  have c0 := h.c0
  have hf := k_from h 0
  have e1 : (List.range c).map (fun (k : Nat) => ((0 : Int) + (k : Int) * g) % (p : Int)) = win p g 0 c := by
    unfold win res
    refine List.map_congr_left fun k _ => ?_
    simp
  rw [e1] at hf
  have s0 : (sortI (win p g 0 c)).length = c := by rw [sort_len, win_len]
  obtain ⟨r, hr⟩ := sort_head (l := win p g 0 c) (mem_win.mpr ⟨0, by omega, by omega, (res_0 p g).symm⟩) fun x hx => by
    obtain ⟨i, _, _, rfl⟩ := mem_win.mp hx
    exact res_nn h.p0 g i
  have hq := eqO_iL (sortI (win p g 0 c)) (sortI (win p g 0 c))
  rw [decide_eq_true rfl] at hq
  have hi : iL (sortI (win p g 0 c)) = .int 0 :: iL r := by rw [hr]; rfl
  have hS : (iL (sortI (win p g 0 c))).length = c := by rw [iL_len, s0]
  generalize iL (sortI (win p g 0 c)) = S at *
  have ht : turn (.one 3) L_chain_start_1 (.int 0) [.sh (.list S), .sh (.int p), .sh (.int g), .no] = .rt (.int 0) := by
    simp [-List.getD_eq_getElem?_getD, -cmp_ap, L_chain_start_1, hS, hf, hq, retV]
  have hlp : loopB (.one 3) L_chain_start_1 S [.sh (.list S), .sh (.int p), .sh (.int g), .no] = .rt (.int 0) := by
    conv => lhs; arg 3; rw [hi]
    rw [loop_cons, ht]
  unfold F_chain_start runF B_chain_start
  simp [-List.getD_eq_getElem?_getD, -cmp_ap, hlp]
/-! ### the law -/
theorem law_true (ns : List Int) (hns : ns.length ≤ 63) : F_law ns [] = .ok (.bool true) := by
  obtain ⟨fs, hd, hl, hf⟩ := draws_k ns
  obtain ⟨p, g, n, c0, hw, h0⟩ := k_world hf (by omega)
  have q5 := hf.at 5
  have a5 : L2.atI (iL fs) 5 = some (.int (fs.getD 5 0)) := Cc.iL_atN (i := 5) (by omega)
  have a6 : L2.atI (iL fs) 6 = some (.int (fs.getD 6 0)) := Cc.iL_atN (i := 6) (by omega)
  have hc : ∃ c : Nat, (if (n : Int) ≤ 30 ∧ fs.getD 6 0 % 5 = 0 then (n : Int) else min (c0 : Int) (1 + fs.getD 5 0 % 30)) = c ∧ 0 < c ∧ c ≤ n ∧ c ≤ 400 := by
    have x1 := h0.c0
    have x2 := h0.c1
    have x3 := h0.c2
    refine ⟨(if (n : Int) ≤ 30 ∧ fs.getD 6 0 % 5 = 0 then (n : Int) else min (c0 : Int) (1 + fs.getD 5 0 % 30)).toNat, ?_, ?_, ?_, ?_⟩ <;> split <;> omega
  obtain ⟨c, e1, c1, c2, c3⟩ := hc
  have h : Chn p g n c := ⟨h0.p0, h0.p1, h0.g1, h0.on, c1, c2, c3⟩
  have s0 : (sortI (win p g 0 c)).length = c := by rw [sort_len, win_len]
  have sc := k_scale h
  have ch := k_chain h
  have sm := k_same (sortI (win p g 0 c)) (by omega)
  have st := start_eq h
  have nu := k_num 0
  have heq := eqO_iL (sortI (win p g 0 c)) (sortI (win p g 0 c))
  rw [decide_eq_true rfl] at heq
  have lp1 := loop_rng (T := .one 9) (B := L_law_1) (lo := 0) (n := c - 1) (ρ := [.sq ns, .sh (.list (iL fs)), .sh (.int p), .sh (.int g), .sh (.int n), .sh (.int c), .sh (.list (iL (sortI (win p g 0 c)))), .sh (.list (iL (sortI (win p g 0 c)))), .sh (.int 0), .no, .no, .no, .no])
    (fun i ρ => ∃ e9, ρ = [.sq ns, .sh (.list (iL fs)), .sh (.int p), .sh (.int g), .sh (.int n), .sh (.int c), .sh (.list (iL (sortI (win p g 0 c)))), .sh (.list (iL (sortI (win p g 0 c)))), .sh (.int 0), e9, .no, .no, .no]) ⟨_, rfl⟩ fun i ρ hi ⟨e9, hρ⟩ => by
      subst hρ
      rw [show ((0 : Int) + (i : Int)) = (i : Int) by omega]
      have nb := neighbours_eq h (at' := i) (by omega)
      refine ⟨_, ?_, .sh (.int i), rfl⟩
      simp [-List.getD_eq_getElem?_getD, -cmp_ap, L_law_1, nb]
  obtain ⟨ρ1, l1, e9, rfl⟩ := lp1
  have lp2 := loop_rng (T := .one 10) (B := L_law_2) (lo := 0) (n := 6) (ρ := [.sq ns, .sh (.list (iL fs)), .sh (.int p), .sh (.int g), .sh (.int n), .sh (.int c), .sh (.list (iL (sortI (win p g 0 c)))), .sh (.list (iL (sortI (win p g 0 c)))), .sh (.int 0), e9, .no, .no, .no])
    (fun i ρ => ∃ e10 e11 e12, ρ = [.sq ns, .sh (.list (iL fs)), .sh (.int p), .sh (.int g), .sh (.int n), .sh (.int c), .sh (.list (iL (sortI (win p g 0 c)))), .sh (.list (iL (sortI (win p g 0 c)))), .sh (.int 0), e9, e10, e11, e12]) ⟨_, _, _, rfl⟩ fun i ρ hi ⟨e10, e11, e12, hρ⟩ => by
      subst hρ
      rw [show ((0 : Int) + (i : Int)) = (i : Int) by omega]
      have b1 : L2.atI (iL fs) (10 + (i : Int)) = some (.int (fs.getD (10 + i) 0)) := Cc.iL_atN (ns := fs) (i := 10 + i) (by omega)
      have b2 : L2.atI (iL fs) (16 + (i : Int)) = some (.int (fs.getD (16 + i) 0)) := Cc.iL_atN (ns := fs) (i := 16 + i) (by omega)
      obtain ⟨near, n1, n2⟩ := Cc.emodN (fs.getD (10 + i) 0) c1
      obtain ⟨far, f1, f2⟩ := Cc.emodN (fs.getD (16 + i) 0) (show 0 < c - near by omega)
      rw [show ((c - near : Nat) : Int) = (c : Int) - near by omega] at f1
      have m1 : ∀ x, modO (.int x) (.int (c : Int)) = some (.int (x % c)) := fun x => modO_p (by omega)
      have m2 : ∀ x, modO (.int x) (.int ((c : Int) - near)) = some (.int (x % ((c : Int) - near))) := fun x => modO_p (by omega)
      have pr := pair_eq h (near := near) (far := near + far) (by omega) (by omega)
      rw [Int.natCast_add] at pr
      refine ⟨_, ?_, .sh (.int i), .sh (.int near), .sh (.int (near + far)), rfl⟩
      simp [-List.getD_eq_getElem?_getD, -cmp_ap, L_law_2, b1, m1, n1, b2, m2, f1, pr]
  obtain ⟨ρ2, l2, e10, e11, e12, rfl⟩ := lp2
  have hr1 : rng1 [.int ((c : Int) - 1)] = some (rngD 0 (c - 1)) := by
    rw [rng1_ok (by omega) (by omega), show ((c : Int) - 1).toNat = c - 1 by omega]
  have hr2 : rng1 [.int 6] = some (rngD 0 6) := rng1_ok (by omega) (by omega)
  unfold F_law runFS B_law
  by_cases b1 : (n : Int) ≤ 30
  · by_cases b2 : fs.getD 6 0 % 5 = 0
    · rw [if_pos ⟨b1, b2⟩] at e1
      have hnc : n = c := by omega
      subst hnc
      simp [-List.getD_eq_getElem?_getD, -cmp_ap, hns, hd, hw, a5, a6, modO_p, b1, b2, sc, ch, sm, st, nu, hr1, l1, hr2, l2, heq]
    · rw [if_neg fun z => b2 z.2] at e1
      simp [-List.getD_eq_getElem?_getD, -cmp_ap, hns, hd, hw, a5, a6, modO_p, b1, b2, e1, sc, ch, sm, st, nu, hr1, l1, hr2, l2, heq]
  · rw [if_neg fun z => b1 z.1] at e1
    simp [-List.getD_eq_getElem?_getD, -cmp_ap, hns, hd, hw, a5, a6, modO_p, b1, e1, sc, ch, sm, st, nu, hr1, l1, hr2, l2, heq]
end
end K71

set_option Elab.async false
set_option linter.all false
set_option maxRecDepth 100000
set_option maxHeartbeats 4000000
namespace K71
open PySem PySem.Spec PyProof.Rows L2 Pu
section
theorem all_mk {l : PySem.W.OpenLaw} {w : World} {K : PySem.W.Frag} {h : Heap} {mg : Str → Option Value} {fa : Addr} (X : K.In h) (G : h.Ns mainGlobals mg) (hfa : mg "law" = some (.ref fa))
    {f0 f1 f2 f3 f4 f5 f6 f7 f8 f9 f10 f11 f12 f13 f14 f15 f16 f17 : Addr} {od0 an0 od1 an1 od2 an2 od3 an3 od4 an4 od5 an5 od6 an6 od7 an7 od8 an8 od9 an9 od10 an10 od11 an11 od12 an12 od13 an13 od14 an14 od15 an15 od16 an16 od17 an17 : Option Addr} {sl0 sl1 sl2 sl3 sl4 sl5 sl6 sl7 sl8 sl9 sl10 sl11 sl12 sl13 sl14 sl15 sl16 sl17 : Array (Option Value)} {oc0 kV0 dc0 pm0 cd0 ct0 oc1 kV1 dc1 pm1 cd1 ct1 oc2 kV2 dc2 pm2 cd2 ct2 oc3 kV3 dc3 pm3 cd3 ct3 oc4 kV4 dc4 pm4 cd4 ct4 oc5 kV5 dc5 pm5 cd5 ct5 oc6 kV6 dc6 pm6 cd6 ct6 oc7 kV7 dc7 pm7 cd7 ct7 oc8 kV8 dc8 pm8 cd8 ct8 oc9 kV9 dc9 pm9 cd9 ct9 oc10 kV10 dc10 pm10 cd10 ct10 oc11 kV11 dc11 pm11 cd11 ct11 oc12 kV12 dc12 pm12 cd12 ct12 oc13 kV13 dc13 pm13 cd13 ct13 oc14 kV14 dc14 pm14 cd14 ct14 oc15 kV15 dc15 pm15 cd15 ct15 oc16 kV16 dc16 pm16 cd16 ct16 oc17 kV17 dc17 pm17 cd17 ct17 : Value}
    (a0 : PySem.W.nsIn K mainGlobals "chain_scale" = some (some (.ref f0))) (l0 : K.lookup f0 = some ⟨oc0, od0, .func (PySem.W.fnOf "chain_scale" "chain_scale" (defArgs s_chain_scale) (defBody s_chain_scale) (defScope s_chain_scale) .none kV0 dc0 pm0 an0 cd0 ct0), sl0⟩) (c0 : PySem.W.codeIn K cd0 "chain_scale" = true) (k0 : PySem.W.keepIn K (.ref f0) = true)
    (a1 : PySem.W.nsIn K mainGlobals "shifted" = some (some (.ref f1))) (l1 : K.lookup f1 = some ⟨oc1, od1, .func (PySem.W.fnOf "shifted" "shifted" (defArgs s_shifted) (defBody s_shifted) (defScope s_shifted) .none kV1 dc1 pm1 an1 cd1 ct1), sl1⟩) (c1 : PySem.W.codeIn K cd1 "shifted" = true) (k1 : PySem.W.keepIn K (.ref f1) = true)
    (a2 : PySem.W.nsIn K mainGlobals "shared" = some (some (.ref f2))) (l2 : K.lookup f2 = some ⟨oc2, od2, .func (PySem.W.fnOf "shared" "shared" (defArgs s_shared) (defBody s_shared) (defScope s_shared) .none kV2 dc2 pm2 an2 cd2 ct2), sl2⟩) (c2 : PySem.W.codeIn K cd2 "shared" = true) (k2 : PySem.W.keepIn K (.ref f2) = true)
    (a3 : PySem.W.nsIn K mainGlobals "chain_from" = some (some (.ref f3))) (l3 : K.lookup f3 = some ⟨oc3, od3, .func (PySem.W.fnOf "chain_from" "chain_from" (defArgs s_chain_from) (defBody s_chain_from) (defScope s_chain_from) .none kV3 dc3 pm3 an3 cd3 ct3), sl3⟩) (c3 : PySem.W.codeIn K cd3 "chain_from" = true) (k3 : PySem.W.keepIn K (.ref f3) = true)
    (a4 : PySem.W.nsIn K mainGlobals "chain_start" = some (some (.ref f4))) (l4 : K.lookup f4 = some ⟨oc4, od4, .func (PySem.W.fnOf "chain_start" "chain_start" (defArgs s_chain_start) (defBody s_chain_start) (defScope s_chain_start) .none kV4 dc4 pm4 an4 cd4 ct4), sl4⟩) (c4 : PySem.W.codeIn K cd4 "chain_start" = true) (k4 : PySem.W.keepIn K (.ref f4) = true)
    (a5 : PySem.W.nsIn K mainGlobals "mode_from" = some (some (.ref f5))) (l5 : K.lookup f5 = some ⟨oc5, od5, .func (PySem.W.fnOf "mode_from" "mode_from" (defArgs s_mode_from) (defBody s_mode_from) (defScope s_mode_from) .none kV5 dc5 pm5 an5 cd5 ct5), sl5⟩) (c5 : PySem.W.codeIn K cd5 "mode_from" = true) (k5 : PySem.W.keepIn K (.ref f5) = true)
    (a6 : PySem.W.nsIn K mainGlobals "_law_draws" = some (some (.ref f6))) (l6 : K.lookup f6 = some ⟨oc6, od6, .func (PySem.W.fnOf "_law_draws" "_law_draws" (defArgs s__law_draws) (defBody s__law_draws) (defScope s__law_draws) .none kV6 dc6 pm6 an6 cd6 ct6), sl6⟩) (c6 : PySem.W.codeIn K cd6 "_law_draws" = true) (k6 : PySem.W.keepIn K (.ref f6) = true)
    (a7 : PySem.W.nsIn K mainGlobals "_law_is_number" = some (some (.ref f7))) (l7 : K.lookup f7 = some ⟨oc7, od7, .func (PySem.W.fnOf "_law_is_number" "_law_is_number" (defArgs s__law_is_number) (defBody s__law_is_number) (defScope s__law_is_number) .none kV7 dc7 pm7 an7 cd7 ct7), sl7⟩) (c7 : PySem.W.codeIn K cd7 "_law_is_number" = true) (k7 : PySem.W.keepIn K (.ref f7) = true)
    (a8 : PySem.W.nsIn K mainGlobals "_law_is_numbers" = some (some (.ref f8))) (l8 : K.lookup f8 = some ⟨oc8, od8, .func (PySem.W.fnOf "_law_is_numbers" "_law_is_numbers" (defArgs s__law_is_numbers) (defBody s__law_is_numbers) (defScope s__law_is_numbers) .none kV8 dc8 pm8 an8 cd8 ct8), sl8⟩) (c8 : PySem.W.codeIn K cd8 "_law_is_numbers" = true) (k8 : PySem.W.keepIn K (.ref f8) = true)
    (a9 : PySem.W.nsIn K mainGlobals "_law_same_numbers" = some (some (.ref f9))) (l9 : K.lookup f9 = some ⟨oc9, od9, .func (PySem.W.fnOf "_law_same_numbers" "_law_same_numbers" (defArgs s__law_same_numbers) (defBody s__law_same_numbers) (defScope s__law_same_numbers) .none kV9 dc9 pm9 an9 cd9 ct9), sl9⟩) (c9 : PySem.W.codeIn K cd9 "_law_same_numbers" = true) (k9 : PySem.W.keepIn K (.ref f9) = true)
    (a10 : PySem.W.nsIn K mainGlobals "_law_gcd" = some (some (.ref f10))) (l10 : K.lookup f10 = some ⟨oc10, od10, .func (PySem.W.fnOf "_law_gcd" "_law_gcd" (defArgs s__law_gcd) (defBody s__law_gcd) (defScope s__law_gcd) .none kV10 dc10 pm10 an10 cd10 ct10), sl10⟩) (c10 : PySem.W.codeIn K cd10 "_law_gcd" = true) (k10 : PySem.W.keepIn K (.ref f10) = true)
    (a11 : PySem.W.nsIn K mainGlobals "_law_chain" = some (some (.ref f11))) (l11 : K.lookup f11 = some ⟨oc11, od11, .func (PySem.W.fnOf "_law_chain" "_law_chain" (defArgs s__law_chain) (defBody s__law_chain) (defScope s__law_chain) .none kV11 dc11 pm11 an11 cd11 ct11), sl11⟩) (c11 : PySem.W.codeIn K cd11 "_law_chain" = true) (k11 : PySem.W.keepIn K (.ref f11) = true)
    (a12 : PySem.W.nsIn K mainGlobals "_law_chain_world" = some (some (.ref f12))) (l12 : K.lookup f12 = some ⟨oc12, od12, .func (PySem.W.fnOf "_law_chain_world" "_law_chain_world" (defArgs s__law_chain_world) (defBody s__law_chain_world) (defScope s__law_chain_world) .none kV12 dc12 pm12 an12 cd12 ct12), sl12⟩) (c12 : PySem.W.codeIn K cd12 "_law_chain_world" = true) (k12 : PySem.W.keepIn K (.ref f12) = true)
    (a13 : PySem.W.nsIn K mainGlobals "_law_mode" = some (some (.ref f13))) (l13 : K.lookup f13 = some ⟨oc13, od13, .func (PySem.W.fnOf "_law_mode" "_law_mode" (defArgs s__law_mode) (defBody s__law_mode) (defScope s__law_mode) .none kV13 dc13 pm13 an13 cd13 ct13), sl13⟩) (c13 : PySem.W.codeIn K cd13 "_law_mode" = true) (k13 : PySem.W.keepIn K (.ref f13) = true)
    (a14 : PySem.W.nsIn K mainGlobals "_law_without" = some (some (.ref f14))) (l14 : K.lookup f14 = some ⟨oc14, od14, .func (PySem.W.fnOf "_law_without" "_law_without" (defArgs s__law_without) (defBody s__law_without) (defScope s__law_without) .none kV14 dc14 pm14 an14 cd14 ct14), sl14⟩) (c14 : PySem.W.codeIn K cd14 "_law_without" = true) (k14 : PySem.W.keepIn K (.ref f14) = true)
    (a15 : PySem.W.nsIn K mainGlobals "_law_asks_pair" = some (some (.ref f15))) (l15 : K.lookup f15 = some ⟨oc15, od15, .func (PySem.W.fnOf "_law_asks_pair" "_law_asks_pair" (defArgs s__law_asks_pair) (defBody s__law_asks_pair) (defScope s__law_asks_pair) .none kV15 dc15 pm15 an15 cd15 ct15), sl15⟩) (c15 : PySem.W.codeIn K cd15 "_law_asks_pair" = true) (k15 : PySem.W.keepIn K (.ref f15) = true)
    (a16 : PySem.W.nsIn K mainGlobals "_law_asks_neighbours" = some (some (.ref f16))) (l16 : K.lookup f16 = some ⟨oc16, od16, .func (PySem.W.fnOf "_law_asks_neighbours" "_law_asks_neighbours" (defArgs s__law_asks_neighbours) (defBody s__law_asks_neighbours) (defScope s__law_asks_neighbours) .none kV16 dc16 pm16 an16 cd16 ct16), sl16⟩) (c16 : PySem.W.codeIn K cd16 "_law_asks_neighbours" = true) (k16 : PySem.W.keepIn K (.ref f16) = true)
    (a17 : PySem.W.nsIn K mainGlobals "law" = some (some (.ref f17))) (l17 : K.lookup f17 = some ⟨oc17, od17, .func (PySem.W.fnOf "law" "law" (defArgs s_law) (defBody s_law) (defScope s_law) .none kV17 dc17 pm17 an17 cd17 ct17), sl17⟩) (c17 : PySem.W.codeIn K cd17 "law" = true) (k17 : PySem.W.keepIn K (.ref f17) = true)
    (z_len : PySem.W.nsIn K mainGlobals "len" = some none) (z_abs : PySem.W.nsIn K mainGlobals "abs" = some none) (z_int : PySem.W.nsIn K mainGlobals "int" = some none) (z_bool : PySem.W.nsIn K mainGlobals "bool" = some none) (z_str : PySem.W.nsIn K mainGlobals "str" = some none) (z_list : PySem.W.nsIn K mainGlobals "list" = some none) (z_tuple : PySem.W.nsIn K mainGlobals "tuple" = some none) (z_set : PySem.W.nsIn K mainGlobals "set" = some none) (z_sorted : PySem.W.nsIn K mainGlobals "sorted" = some none) (z_sum : PySem.W.nsIn K mainGlobals "sum" = some none) (z_min : PySem.W.nsIn K mainGlobals "min" = some none) (z_max : PySem.W.nsIn K mainGlobals "max" = some none) (z_range : PySem.W.nsIn K mainGlobals "range" = some none) (z_isinstance : PySem.W.nsIn K mainGlobals "isinstance" = some none) (z_zip : PySem.W.nsIn K mainGlobals "zip" = some none) (z_repr : PySem.W.nsIn K mainGlobals "repr" = some none) :
    ∃ fd : FuncData, (∀ (s : Shared) (v : Value), BindsTo s fd ⟨[v], []⟩ [("script", v)]) ∧ ∀ base : Heap, K.In base → base.Ns mainGlobals mg → FnOk l.prog w K mg base (L2.CX l.prog w) 6 fa fd ["script"] (spLaw K) := by
  have e := hfa.symm.trans (PySem.W.mg_of X G a17)
  cases e
  have bl : Blt mg := ⟨PySem.W.mg_none_of X G z_len, PySem.W.mg_none_of X G z_abs, PySem.W.mg_none_of X G z_int, PySem.W.mg_none_of X G z_bool, PySem.W.mg_none_of X G z_str, PySem.W.mg_none_of X G z_list, PySem.W.mg_none_of X G z_tuple, PySem.W.mg_none_of X G z_set, PySem.W.mg_none_of X G z_sorted, PySem.W.mg_none_of X G z_sum, PySem.W.mg_none_of X G z_min, PySem.W.mg_none_of X G z_max, PySem.W.mg_none_of X G z_range, PySem.W.mg_none_of X G z_isinstance, PySem.W.mg_none_of X G z_zip, PySem.W.mg_none_of X G z_repr⟩
  have F0 := fun_mk (st := s_chain_scale) l0 c0 k0
  have b0 := F0.binds (ps := ["period", "generator", "count"]) fun _ _ _ _ _ _ us hl => match us, hl with | [_, _, _], _ => rfl
  have F1 := fun_mk (st := s_shifted) l1 c1 k1
  have b1 := F1.binds (ps := ["scale", "period", "by"]) fun _ _ _ _ _ _ us hl => match us, hl with | [_, _, _], _ => rfl
  have F2 := fun_mk (st := s_shared) l2 c2 k2
  have b2 := F2.binds (ps := ["first", "second"]) fun _ _ _ _ _ _ us hl => match us, hl with | [_, _], _ => rfl
  have F3 := fun_mk (st := s_chain_from) l3 c3 k3
  have b3 := F3.binds (ps := ["note", "period", "generator", "count"]) fun _ _ _ _ _ _ us hl => match us, hl with | [_, _, _, _], _ => rfl
  have F4 := fun_mk (st := s_chain_start) l4 c4 k4
  have b4 := F4.binds (ps := ["scale", "period", "generator"]) fun _ _ _ _ _ _ us hl => match us, hl with | [_, _, _], _ => rfl
  have F5 := fun_mk (st := s_mode_from) l5 c5 k5
  have b5 := F5.binds (ps := ["scale", "period", "note"]) fun _ _ _ _ _ _ us hl => match us, hl with | [_, _, _], _ => rfl
  have F6 := fun_mk (st := s__law_draws) l6 c6 k6
  have b6 := F6.binds (ps := ["script", "many"]) fun _ _ _ _ _ _ us hl => match us, hl with | [_, _], _ => rfl
  have F7 := fun_mk (st := s__law_is_number) l7 c7 k7
  have b7 := F7.binds (ps := ["value"]) fun _ _ _ _ _ _ us hl => match us, hl with | [_], _ => rfl
  have F8 := fun_mk (st := s__law_is_numbers) l8 c8 k8
  have b8 := F8.binds (ps := ["value", "size"]) fun _ _ _ _ _ _ us hl => match us, hl with | [_, _], _ => rfl
  have F9 := fun_mk (st := s__law_same_numbers) l9 c9 k9
  have b9 := F9.binds (ps := ["found", "due"]) fun _ _ _ _ _ _ us hl => match us, hl with | [_, _], _ => rfl
  have F10 := fun_mk (st := s__law_gcd) l10 c10 k10
  have b10 := F10.binds (ps := ["first", "second"]) fun _ _ _ _ _ _ us hl => match us, hl with | [_, _], _ => rfl
  have F11 := fun_mk (st := s__law_chain) l11 c11 k11
  have b11 := F11.binds (ps := ["period", "generator", "count"]) fun _ _ _ _ _ _ us hl => match us, hl with | [_, _, _], _ => rfl
  have F12 := fun_mk (st := s__law_chain_world) l12 c12 k12
  have b12 := F12.binds (ps := ["draws"]) fun _ _ _ _ _ _ us hl => match us, hl with | [_], _ => rfl
  have F13 := fun_mk (st := s__law_mode) l13 c13 k13
  have b13 := F13.binds (ps := ["scale", "period", "note"]) fun _ _ _ _ _ _ us hl => match us, hl with | [_, _, _], _ => rfl
  have F14 := fun_mk (st := s__law_without) l14 c14 k14
  have b14 := F14.binds (ps := ["first", "second"]) fun _ _ _ _ _ _ us hl => match us, hl with | [_, _], _ => rfl
  have F15 := fun_mk (st := s__law_asks_pair) l15 c15 k15
  have b15 := F15.binds (ps := ["scale", "period", "generator", "order", "links"]) fun _ _ _ _ _ _ us hl => match us, hl with | [_, _, _, _, _], _ => rfl
  have F16 := fun_mk (st := s__law_asks_neighbours) l16 c16 k16
  have b16 := F16.binds (ps := ["scale", "period", "generator", "order", "at"]) fun _ _ _ _ _ _ us hl => match us, hl with | [_, _, _, _, _], _ => rfl
  have F17 := fun_mk (st := s_law) l17 c17 k17
  have b17 := F17.binds (ps := ["script"]) fun _ _ _ _ _ _ us hl => match us, hl with | [_], _ => rfl
  refine ⟨PySem.W.fnOf "law" "law" (defArgs s_law) (defBody s_law) (defScope s_law) .none kV17 dc17 pm17 an17 cd17 ct17, fun s v => .of_eq rfl, fun base _ _ => ?_⟩
  have q__law_draws := c__law_draws (P := l.prog) (w := w) (base := base) F6 (PySem.W.mg_of X G a6) b6 bl
  have q__law_gcd := c__law_gcd (P := l.prog) (w := w) (base := base) F10 (PySem.W.mg_of X G a10) b10 bl
  have q__law_chain_world := c__law_chain_world (P := l.prog) (w := w) (base := base) F12 (PySem.W.mg_of X G a12) b12 bl q__law_gcd
  have q_chain_scale := c_chain_scale (P := l.prog) (w := w) (base := base) F0 (PySem.W.mg_of X G a0) b0 bl
  have q__law_is_number := c__law_is_number (P := l.prog) (w := w) (base := base) F7 (PySem.W.mg_of X G a7) b7 bl
  have q__law_is_numbers := c__law_is_numbers (P := l.prog) (w := w) (base := base) F8 (PySem.W.mg_of X G a8) b8 bl q__law_is_number
  have q__law_same_numbers := c__law_same_numbers (P := l.prog) (w := w) (base := base) F9 (PySem.W.mg_of X G a9) b9 bl q__law_is_numbers
  have q__law_chain := c__law_chain (P := l.prog) (w := w) (base := base) F11 (PySem.W.mg_of X G a11) b11 bl
  have q_chain_from := c_chain_from (P := l.prog) (w := w) (base := base) F3 (PySem.W.mg_of X G a3) b3 bl
  have q_chain_start := c_chain_start (P := l.prog) (w := w) (base := base) F4 (PySem.W.mg_of X G a4) b4 bl q_chain_from
  have q_shifted := c_shifted (P := l.prog) (w := w) (base := base) F1 (PySem.W.mg_of X G a1) b1 bl
  have q_mode_from := c_mode_from (P := l.prog) (w := w) (base := base) F5 (PySem.W.mg_of X G a5) b5 bl q_shifted
  have q_shared := c_shared (P := l.prog) (w := w) (base := base) F2 (PySem.W.mg_of X G a2) b2 bl
  have q__law_without := c__law_without (P := l.prog) (w := w) (base := base) F14 (PySem.W.mg_of X G a14) b14 bl
  have q__law_asks_neighbours := c__law_asks_neighbours (P := l.prog) (w := w) (base := base) F16 (PySem.W.mg_of X G a16) b16 bl q_mode_from q__law_is_numbers q_shared q__law_same_numbers q__law_without
  have q__law_mode := c__law_mode (P := l.prog) (w := w) (base := base) F13 (PySem.W.mg_of X G a13) b13 bl
  have q__law_asks_pair := c__law_asks_pair (P := l.prog) (w := w) (base := base) F15 (PySem.W.mg_of X G a15) b15 bl q_mode_from q__law_same_numbers q__law_mode q_shared
  exact law_fn (c_law (P := l.prog) (w := w) (base := base) F17 bl q__law_draws q__law_chain_world q_chain_scale q__law_same_numbers q__law_chain q_chain_start q__law_is_number q__law_asks_neighbours q__law_asks_pair) law_true
end
end K71
open PySem PySem.W PyProof.Rows
set_option maxHeartbeats 0 in
theorem PySem.Challenge.cw_keystuned_k71_neighbouring_modes_holds : PySem.Challenge.rw_keystuned_k71_neighbouring_modes.Holds := by
  w_on; o_law; k_head; (case hw => w_witness2)
  k_fill
  refine L2.walk_of (l := PySem.Challenge.rw_keystuned_k71_neighbouring_modes) (n := 63) (k := 6) (x := "script") (CX := fun w => L2.CX PySem.Challenge.rw_keystuned_k71_neighbouring_modes.prog w) (sp := fun w => Pu.spLaw _) rfl (by decide) rfl ⟨rfl, by decide, by decide⟩ (fun w h Y => PySem.W.kIn_of Y) ?F (fun _ _ a ns hl _ hS => ⟨a, ns, rfl, hS, hl, fun _ => rfl⟩) (fun _ _ _ _ _ h => Pu.cx_none h)
  case F =>
    intro w mg fa h KX G hmg
    refine' K71.all_mk KX G hmg ?a0 ?l0 ?c0 ?k0 ?a1 ?l1 ?c1 ?k1 ?a2 ?l2 ?c2 ?k2 ?a3 ?l3 ?c3 ?k3 ?a4 ?l4 ?c4 ?k4 ?a5 ?l5 ?c5 ?k5 ?a6 ?l6 ?c6 ?k6 ?a7 ?l7 ?c7 ?k7 ?a8 ?l8 ?c8 ?k8 ?a9 ?l9 ?c9 ?k9 ?a10 ?l10 ?c10 ?k10 ?a11 ?l11 ?c11 ?k11 ?a12 ?l12 ?c12 ?k12 ?a13 ?l13 ?c13 ?k13 ?a14 ?l14 ?c14 ?k14 ?a15 ?l15 ?c15 ?k15 ?a16 ?l16 ?c16 ?k16 ?a17 ?l17 ?c17 ?k17 ?z_len ?z_abs ?z_int ?z_bool ?z_str ?z_list ?z_tuple ?z_set ?z_sorted ?z_sum ?z_min ?z_max ?z_range ?z_isinstance ?z_zip ?z_repr
    (case a0 => k_is); (case l0 => k_is); (case c0 => k_is); (case k0 => k_is); (case a1 => k_is); (case l1 => k_is); (case c1 => k_is); (case k1 => k_is); (case a2 => k_is); (case l2 => k_is); (case c2 => k_is); (case k2 => k_is); (case a3 => k_is); (case l3 => k_is); (case c3 => k_is); (case k3 => k_is); (case a4 => k_is); (case l4 => k_is); (case c4 => k_is); (case k4 => k_is); (case a5 => k_is); (case l5 => k_is); (case c5 => k_is); (case k5 => k_is); (case a6 => k_is); (case l6 => k_is); (case c6 => k_is); (case k6 => k_is); (case a7 => k_is); (case l7 => k_is); (case c7 => k_is); (case k7 => k_is); (case a8 => k_is); (case l8 => k_is); (case c8 => k_is); (case k8 => k_is); (case a9 => k_is); (case l9 => k_is); (case c9 => k_is); (case k9 => k_is); (case a10 => k_is); (case l10 => k_is); (case c10 => k_is); (case k10 => k_is); (case a11 => k_is); (case l11 => k_is); (case c11 => k_is); (case k11 => k_is); (case a12 => k_is); (case l12 => k_is); (case c12 => k_is); (case k12 => k_is); (case a13 => k_is); (case l13 => k_is); (case c13 => k_is); (case k13 => k_is); (case a14 => k_is); (case l14 => k_is); (case c14 => k_is); (case k14 => k_is); (case a15 => k_is); (case l15 => k_is); (case c15 => k_is); (case k15 => k_is); (case a16 => k_is); (case l16 => k_is); (case c16 => k_is); (case k16 => k_is); (case a17 => k_is); (case l17 => k_is); (case c17 => k_is); (case k17 => k_is); (case z_len => k_is); (case z_abs => k_is); (case z_int => k_is); (case z_bool => k_is); (case z_str => k_is); (case z_list => k_is); (case z_tuple => k_is); (case z_set => k_is); (case z_sorted => k_is); (case z_sum => k_is); (case z_min => k_is); (case z_max => k_is); (case z_range => k_is); (case z_isinstance => k_is); (case z_zip => k_is); (case z_repr => k_is)

