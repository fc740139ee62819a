import PyProof.Rows.All
import Wide.All
import OpenK.AllK
import Wide.FinOn
import HandS.ForMost
import HandS.ForExc
import HandS.Walk
import HandS.CallSlots
import HandS.IsInst
import HandS.TupAny
import HandS.Style
import HandS.TupLe
import PyProof.P3In
import PyProof.P3Eq
import PyProof.NeData
import HandS.Text
import KE.SortData
import KE.Datum
import PySem.Challenge.RW_barsets_k31_whole_mended
set_option Elab.async false
set_option linter.all false
set_option maxRecDepth 100000
/-! Data in place of the heap: a def's body read as a function over data. -/
namespace DS
open PySem L2

abbrev D := PyData
/-- what a slot holds: nothing, data, a list of the def's own that may change, a dict, an instance under way -/
inductive Sl where
  | un | im (d : D) | ml (ds : List D) | md (kvs : List (D × D)) | mi (c : Str) (fs : List (D × D))
abbrev Rho := List Sl
structure Exn where
  cls : Str
  fs : List (D × D)
inductive Res (α : Type) where
  | ok (a : α) (r : Rho) | ex (e : Exn) (r : Rho) | no
abbrev M (α : Type) := Rho → Res α
inductive Flow where
  | nx | rt (d : D) | ro (ds : List D) | bk | ct
@[reducible] def ret {α : Type} (a : α) : M α := fun r => .ok a r
@[reducible] def stop {α : Type} : M α := fun _ => .no
def bnd {α β : Type} (m : M α) (f : α → M β) : M β := fun r => match m r with
  | .ok a r1 => f a r1
  | .ex e r1 => .ex e r1
  | .no => .no
@[reducible] def opt {α : Type} : Option α → M α
  | some a => fun r => .ok a r
  | none => fun _ => .no

/-- the world of a text -/
structure Wd where
  P : Program
  w : World
  K : PySem.W.Frag
  mg : Str → Option Value
  base : Heap

mutual
/-- the data d stands at v -/
def Rp (T : Wd) (H : Hp) : D → V → Prop
  | .none, v => v = .non
  | .bool b, v => v = .bl b
  | .int i, v => v = .int i
  | .str x, v => v = .str x ∧ PyData.strOk x = true
  | .list ds, v => ∃ a xs, v = .ref a ∧ SqL T.K H a xs ∧ RpA T H ds xs
  | .tuple ds, v => ∃ a xs, v = .ref a ∧ SqT T.K H a xs ∧ RpA T H ds xs
  | .dict kvs, v => ∃ a C dx fs c r, v = .ref a ∧ kvs = (.str c, .none) :: r ∧ H a = some (.ins C dx fs) ∧ T.mg c = some (.ref C) ∧ RpF T H kvs ((c, .non) :: fs)
def RpA (T : Wd) (H : Hp) : List D → List V → Prop
  | [], vs => vs = []
  | d :: ds, vs => ∃ v r, vs = v :: r ∧ Rp T H d v ∧ RpA T H ds r
def RpF (T : Wd) (H : Hp) : List (D × D) → List (Str × V) → Prop
  | [], fs => fs = []
  | p :: r, fs => ∃ f v q, fs = (f, v) :: q ∧ RpP T H p f v ∧ RpF T H r q
def RpP (T : Wd) (H : Hp) : D × D → Str → V → Prop
  | (k, d), f, v => k = .str f ∧ Rp T H d v
end

theorem Same.sqT {K : PySem.W.Frag} {H H' : Hp} {a : Addr} {xs : List V} (e : Same H H') (h : SqT K H a xs) : SqT K H' a xs := by
  rcases h with (h | ⟨o, h⟩) | h
  · exact .inl (.inl (e _ _ h))
  · exact .inl (.inr ⟨o, e _ _ h⟩)
  · exact .inr h

section
variable {T : Wd} {H H' : Hp}
mutual
theorem Rp.mono (s : Same H H') : ∀ (d : D) (v : V), Rp T H d v → Rp T H' d v
  | .none, v, h => by simpa only [Rp] using h
  | .bool b, v, h => by simpa only [Rp] using h
  | .int i, v, h => by simpa only [Rp] using h
  | .str x, v, h => by simpa only [Rp] using h
  | .list ds, v, h => by
    simp only [Rp] at h ⊢
    obtain ⟨a, xs, e, q, r⟩ := h
    exact ⟨a, xs, e, s.seq q, RpA.mono s ds xs r⟩
  | .tuple ds, v, h => by
    simp only [Rp] at h ⊢
    obtain ⟨a, xs, e, q, r⟩ := h
    exact ⟨a, xs, e, Same.sqT s q, RpA.mono s ds xs r⟩
  | .dict kvs, v, h => by
    simp only [Rp] at h ⊢
    obtain ⟨a, C, dx, fs, c, r, e, e2, q, m, z⟩ := h
    exact ⟨a, C, dx, fs, c, r, e, e2, s _ _ q, m, RpF.mono s kvs _ z⟩
theorem RpA.mono (s : Same H H') : ∀ (ds : List D) (vs : List V), RpA T H ds vs → RpA T H' ds vs
  | [], vs, h => by simpa only [RpA] using h
  | d :: ds, vs, h => by
    simp only [RpA] at h ⊢
    obtain ⟨v, r, e, q, z⟩ := h
    exact ⟨v, r, e, Rp.mono s d v q, RpA.mono s ds r z⟩
theorem RpF.mono (s : Same H H') : ∀ (ds : List (D × D)) (vs : List (Str × V)), RpF T H ds vs → RpF T H' ds vs
  | [], vs, h => by simpa only [RpF] using h
  | d :: ds, vs, h => by
    simp only [RpF] at h ⊢
    obtain ⟨f, v, r, e, q, z⟩ := h
    exact ⟨f, v, r, e, RpP.mono s d f v q, RpF.mono s ds r z⟩
theorem RpP.mono (s : Same H H') : ∀ (p : D × D) (f : Str) (v : V), RpP T H p f v → RpP T H' p f v
  | (k, d), f, v, h => by
    simp only [RpP] at h ⊢
    exact ⟨h.1, Rp.mono s d v h.2⟩
end
end
section
variable {T : Wd} {H : Hp}
theorem RpA.length : ∀ {ds : List D} {vs : List V}, RpA T H ds vs → vs.length = ds.length
  | [], vs, h => by simp only [RpA] at h; subst h; rfl
  | d :: ds, vs, h => by
    simp only [RpA] at h
    obtain ⟨v, r, e, _, z⟩ := h
    subst e
    simp only [List.length_cons, RpA.length z]
theorem RpA.nil : RpA T H [] [] := by simp only [RpA]
theorem RpA.cons {d : D} {v : V} {ds : List D} {vs : List V} (a : Rp T H d v) (b : RpA T H ds vs) : RpA T H (d :: ds) (v :: vs) := by
  simp only [RpA]
  exact ⟨v, vs, rfl, a, b⟩
theorem RpA.uncons {d : D} {ds : List D} {vs : List V} (h : RpA T H (d :: ds) vs) : ∃ v r, vs = v :: r ∧ Rp T H d v ∧ RpA T H ds r := by
  simpa only [RpA] using h
theorem RpA.unnil {vs : List V} (h : RpA T H [] vs) : vs = [] := by simpa only [RpA] using h
theorem RpA.append : ∀ {as bs : List D} {us vs : List V}, RpA T H as us → RpA T H bs vs → RpA T H (as ++ bs) (us ++ vs)
  | [], _, us, _, a, b => by rw [RpA.unnil a]; exact b
  | d :: as, _, us, _, a, b => by
    obtain ⟨v, r, e, q, z⟩ := RpA.uncons a
    subst e
    exact RpA.cons q (RpA.append z b)
theorem RpA.get : ∀ {ds : List D} {vs : List V} {i : Nat} {d : D}, RpA T H ds vs → ds[i]? = some d → ∃ v, vs[i]? = some v ∧ Rp T H d v
  | [], _, _, _, _, e => by simp at e
  | x :: ds, vs, 0, d, a, e => by
    obtain ⟨v, r, q, p, _⟩ := RpA.uncons a
    subst q
    simp at e
    subst e
    exact ⟨v, rfl, p⟩
  | x :: ds, vs, i + 1, d, a, e => by
    obtain ⟨v, r, q, _, z⟩ := RpA.uncons a
    subst q
    simpa using RpA.get (i := i) z (by simpa using e)
theorem RpA.getV : ∀ {ds : List D} {vs : List V} {i : Nat} {v : V}, RpA T H ds vs → vs[i]? = some v → ∃ d, ds[i]? = some d ∧ Rp T H d v
  | [], _, _, _, a, e => by rw [RpA.unnil a] at e; simp at e
  | x :: ds, vs, 0, d, a, e => by
    obtain ⟨v, r, q, p, _⟩ := RpA.uncons a
    subst q
    simp at e
    subst e
    exact ⟨x, rfl, p⟩
  | x :: ds, vs, i + 1, d, a, e => by
    obtain ⟨v, r, q, _, z⟩ := RpA.uncons a
    subst q
    simpa using RpA.getV (i := i) z (by simpa using e)
theorem RpA.take : ∀ {ds : List D} {vs : List V} (n : Nat), RpA T H ds vs → RpA T H (ds.take n) (vs.take n)
  | _, _, 0, _ => by simp only [List.take_zero]; exact RpA.nil
  | [], _, n + 1, a => by rw [RpA.unnil a]; exact RpA.nil
  | d :: ds, _, n + 1, a => by
    obtain ⟨v, r, q, p, z⟩ := RpA.uncons a
    subst q
    exact RpA.cons p (RpA.take n z)
theorem RpA.drop : ∀ {ds : List D} {vs : List V} (n : Nat), RpA T H ds vs → RpA T H (ds.drop n) (vs.drop n)
  | _, _, 0, a => a
  | [], _, n + 1, a => by rw [RpA.unnil a]; exact RpA.nil
  | d :: ds, _, n + 1, a => by
    obtain ⟨v, r, q, p, z⟩ := RpA.uncons a
    subst q
    exact RpA.drop n z
theorem RpA.set : ∀ {ds : List D} {vs : List V} {d : D} {v : V} (i : Nat), RpA T H ds vs → Rp T H d v → RpA T H (ds.set i d) (vs.set i v)
  | [], _, _, _, i, a, _ => by rw [RpA.unnil a]; exact RpA.nil
  | x :: ds, _, _, _, 0, a, b => by
    obtain ⟨v, r, q, p, z⟩ := RpA.uncons a
    subst q
    exact RpA.cons b z
  | x :: ds, _, _, _, i + 1, a, b => by
    obtain ⟨v, r, q, p, z⟩ := RpA.uncons a
    subst q
    exact RpA.cons p (RpA.set i z b)
theorem RpA.rev : ∀ {ds : List D} {vs : List V}, RpA T H ds vs → RpA T H ds.reverse vs.reverse
  | [], _, a => by rw [RpA.unnil a]; exact RpA.nil
  | d :: ds, _, a => by
    obtain ⟨v, r, q, p, z⟩ := RpA.uncons a
    subst q
    rw [List.reverse_cons, List.reverse_cons]
    exact RpA.append (RpA.rev z) (RpA.cons p RpA.nil)
theorem RpA.dropLast {ds : List D} {vs : List V} (a : RpA T H ds vs) : RpA T H ds.dropLast vs.dropLast := by
  rw [List.dropLast_eq_take, List.dropLast_eq_take, RpA.length a]
  exact RpA.take _ a
theorem RpA.rep {ds : List D} {vs : List V} (a : RpA T H ds vs) : ∀ k : Nat, RpA T H (List.replicate k ds).flatten (List.replicate k vs).flatten
  | 0 => RpA.nil
  | k + 1 => by
    rw [List.replicate_succ, List.replicate_succ, List.flatten_cons, List.flatten_cons]
    exact RpA.append a (RpA.rep a k)
end

/-! ### the state -/
def owns : Sl → Bool
  | .ml _ => true | .md _ => true | .mi _ _ => true | _ => false
/-- a dict at p: its keys stand in Hf -/
def DictAt (T : Wd) (Hf H : Hp) (p : Addr) (kvs : List (D × D)) : Prop := False
def SlOk (T : Wd) (Hf G H : Hp) (o : Option (Option V)) : Sl → Prop
  | .un => True
  | .im d => ∃ v, o = some (some v) ∧ Rp T Hf d v
  | .ml ds => ∃ p vs, o = some (some (.ref p)) ∧ Hf p = none ∧ G p = none ∧ H p = some (.lst vs) ∧ RpA T Hf ds vs
  | .md kvs => ∃ p, o = some (some (.ref p)) ∧ Hf p = none ∧ G p = none ∧ DictAt T Hf H p kvs
  | .mi c fs => ∃ p C dx vs, o = some (some (.ref p)) ∧ Hf p = none ∧ G p = none ∧ H p = some (.ins C dx vs) ∧ T.mg c = some (.ref C) ∧ RpF T Hf fs vs
/-- the frame's fixed part: the world, the slots that callers share, the slots at the start -/
structure Fx where
  T : Wd
  mp : List Nat
  s0 : St
structure RR (F : Fx) (Hf G : Hp) (σ : St) (H : Hp) (ρ : Rho) : Prop where
  fz : Same Hf H
  fg : Same G H
  dj : ∀ b o, G b = some o → Hf b = none
  len : ρ.length = σ.length
  sl : ∀ (i : Nat) x, ρ[i]? = some x → SlOk F.T Hf G H σ[i]? x
  ds : ∀ (i j : Nat) x y p, i ≠ j → ρ[i]? = some x → ρ[j]? = some y → owns x = true → owns y = true → σ[i]? = some (some (.ref p)) → σ[j]? = some (some (.ref p)) → False
  kp : ∀ i ∈ F.mp, σ[i]? = F.s0[i]?

theorem SlOk.at {T : Wd} {Hf G H H' : Hp} {o : Option (Option V)} : ∀ {x : Sl}, SlOk T Hf G H o x → (∀ p u, owns x = true → o = some (some (.ref p)) → H p = some u → H' p = some u) → SlOk T Hf G H' o x
  | .un, h, _ => trivial
  | .im d, h, _ => h
  | .ml ds, ⟨p, vs, a, b, c, d, e⟩, k => ⟨p, vs, a, b, c, k p _ rfl a d, e⟩
  | .md kvs, ⟨p, a, b, c, d⟩, k => d.elim
  | .mi c fs, ⟨p, C, dx, vs, a, b, c1, d, e⟩, k => ⟨p, C, dx, vs, a, b, c1, k p _ rfl a d, e⟩
theorem SlOk.fz {T : Wd} {Hf Hf' G H : Hp} {o : Option (Option V)} (s : Same Hf Hf') : ∀ {x : Sl}, SlOk T Hf G H o x → (∀ p, owns x = true → o = some (some (.ref p)) → Hf' p = none) → SlOk T Hf' G H o x
  | .un, h, _ => trivial
  | .im d, ⟨v, e, h⟩, _ => ⟨v, e, Rp.mono s d v h⟩
  | .ml ds, ⟨p, vs, a, b, c, d, e⟩, k => ⟨p, vs, a, k p rfl a, c, d, RpA.mono s _ _ e⟩
  | .md kvs, ⟨p, a, b, c, d⟩, k => d.elim
  | .mi c fs, ⟨p, C, dx, vs, a, b, c1, d, m, e⟩, k => ⟨p, C, dx, vs, a, k p rfl a, c1, d, m, RpF.mono s _ _ e⟩

theorem Same.updN {H : Hp} {p : Addr} {o : HO} (n : H p = none) : Same H (upd H p o) := fun b u e => by
  rw [upd_ne (ne_of_none e n)]
  exact e

section
variable {F : Fx} {Hf G H : Hp} {σ : St} {ρ : Rho}
/-- an owned slot's address is not in the frozen heap and stands -/
theorem RR.own (R : RR F Hf G σ H ρ) {i : Nat} {x : Sl} {p : Addr} (e : ρ[i]? = some x) (ho : owns x = true) (hp : σ[i]? = some (some (.ref p))) : Hf p = none ∧ G p = none ∧ ∃ u, H p = some u := by
  have h := R.sl i x e
  rw [hp] at h
  cases x with
  | un => cases ho
  | im d => cases ho
  | ml ds => obtain ⟨q, vs, a, b, c, d, _⟩ := h; cases a; exact ⟨b, c, _, d⟩
  | md kvs => obtain ⟨q, a, b, c, d⟩ := h; exact d.elim
  | mi c fs => obtain ⟨q, C, dx, vs, a, b, c1, d, _⟩ := h; cases a; exact ⟨b, c1, _, d⟩
/-- the heap grows -/
theorem RR.grow {H' : Hp} (R : RR F Hf G σ H ρ) (s : Same H H') : RR F Hf G σ H' ρ :=
  ⟨R.fz.trans s, R.fg.trans s, R.dj, R.len, fun i x e => (R.sl i x e).at fun p u _ _ q => s _ _ q, R.ds, R.kp⟩
/-- what stands apart is frozen -/
theorem RR.freeze {p : Addr} {o : HO} (R : RR F Hf G σ H ρ) (h : H p = some o) (n : Hf p = none) (g : G p = none) (k : ∀ (i : Nat) x, ρ[i]? = some x → owns x = true → σ[i]? ≠ some (some (.ref p))) : RR F (upd Hf p o) G σ H ρ := by
  refine ⟨fun b u e => ?_, R.fg, fun b u e => ?_, R.len, fun i x e => (R.sl i x e).fz (Same.updN n) fun q ho hq => ?_, R.ds, R.kp⟩
  · by_cases hb : b = p
    · subst hb; rw [upd_same] at e; rw [h]; exact e
    · rw [upd_ne hb] at e; exact R.fz b u e
  · have hb : b ≠ p := fun z => by subst z; rw [g] at e; cases e
    rw [upd_ne hb]; exact R.dj b u e
  · have hb : q ≠ p := fun z => by subst z; exact k i x e ho hq
    rw [upd_ne hb]; exact (R.own e ho hq).1
/-- a new object, frozen at once -/
theorem RR.new {p : Addr} {o : HO} (R : RR F Hf G σ H ρ) (n : H p = none) : RR F (upd Hf p o) G σ (upd H p o) ρ := by
  refine (R.grow (Same.updN n)).freeze upd_same (R.fz.free n) (R.fg.free n) fun i x e ho q => ?_
  obtain ⟨_, _, u, z⟩ := R.own e ho q
  rw [n] at z; cases z
theorem RR.sameN {p : Addr} {o : HO} (R : RR F Hf G σ H ρ) (n : H p = none) : Same Hf (upd Hf p o) := Same.updN (R.fz.free n)
/-- a fresh owned object -/
def Fresh (Hf G : Hp) (σ : St) (ρ : Rho) (p : Addr) : Prop := Hf p = none ∧ G p = none ∧ ∀ (i : Nat) x, ρ[i]? = some x → owns x = true → σ[i]? ≠ some (some (.ref p))
theorem RR.fresh {p : Addr} (R : RR F Hf G σ H ρ) (n : H p = none) : Fresh Hf G σ ρ p :=
  ⟨R.fz.free n, R.fg.free n, fun i x e ho q => by obtain ⟨_, _, u, z⟩ := R.own e ho q; rw [n] at z; cases z⟩
theorem lt_of_get {α : Type} {l : List α} {i : Nat} {x : α} (h : l[i]? = some x) : i < l.length := (List.getElem?_eq_some_iff.mp h).1
theorem get_set_cases {α : Type} {l : List α} {i j : Nat} {x y : α} (h : (l.set i x)[j]? = some y) : (j = i ∧ y = x ∧ i < l.length) ∨ (j ≠ i ∧ l[j]? = some y) := by
  by_cases e : j = i
  · subst e
    have hl : j < l.length := by simpa using lt_of_get h
    rw [List.getElem?_set_self hl] at h
    exact .inl ⟨rfl, (Option.some.inj h).symm, hl⟩
  · rw [List.getElem?_set_ne (Ne.symm e)] at h
    exact .inr ⟨e, h⟩
/-- a slot takes data -/
theorem RR.set {i : Nat} {d : D} {v : V} (R : RR F Hf G σ H ρ) (hm : i ∉ F.mp) (r : Rp F.T Hf d v) : RR F Hf G (σ.set i (some v)) H (ρ.set i (.im d)) := by
  refine ⟨R.fz, R.fg, R.dj, by simpa using R.len, fun j x e => ?_, fun j k x y p hjk ex ey ox oy hx hy => ?_, fun j hj => ?_⟩
  · rcases get_set_cases e with ⟨rfl, rfl, hl⟩ | ⟨hj, e⟩
    · rw [List.getElem?_set_self (by rw [← R.len]; exact hl)]
      exact ⟨v, rfl, r⟩
    · rw [List.getElem?_set_ne (Ne.symm hj)]
      exact R.sl j x e
  · rcases get_set_cases ex with ⟨rfl, rfl, _⟩ | ⟨hj, ex⟩
    · cases ox
    · rcases get_set_cases ey with ⟨rfl, rfl, _⟩ | ⟨hk, ey⟩
      · cases oy
      · rw [List.getElem?_set_ne (Ne.symm hj)] at hx
        rw [List.getElem?_set_ne (Ne.symm hk)] at hy
        exact R.ds j k x y p hjk ex ey ox oy hx hy
  · have : j ≠ i := fun z => hm (z ▸ hj)
    rw [List.getElem?_set_ne (Ne.symm this)]
    exact R.kp j hj
/-- a slot is forgotten -/
theorem RR.drop {i : Nat} (R : RR F Hf G σ H ρ) (hm : i ∉ F.mp) (o : Option V) : RR F Hf G (σ.set i o) H (ρ.set i .un) := by
  refine ⟨R.fz, R.fg, R.dj, by simpa using R.len, fun j x e => ?_, fun j k x y p hjk ex ey ox oy hx hy => ?_, fun j hj => ?_⟩
  · rcases get_set_cases e with ⟨rfl, rfl, hl⟩ | ⟨hj, e⟩
    · trivial
    · rw [List.getElem?_set_ne (Ne.symm hj)]
      exact R.sl j x e
  · rcases get_set_cases ex with ⟨rfl, rfl, _⟩ | ⟨hj, ex⟩
    · cases ox
    · rcases get_set_cases ey with ⟨rfl, rfl, _⟩ | ⟨hk, ey⟩
      · cases oy
      · rw [List.getElem?_set_ne (Ne.symm hj)] at hx
        rw [List.getElem?_set_ne (Ne.symm hk)] at hy
        exact R.ds j k x y p hjk ex ey ox oy hx hy
  · have : j ≠ i := fun z => hm (z ▸ hj)
    rw [List.getElem?_set_ne (Ne.symm this)]
    exact R.kp j hj
/-- a slot takes a fresh list -/
theorem RR.setO {i : Nat} {x : Sl} {p : Addr} (R : RR F Hf G σ H ρ) (hm : i ∉ F.mp) (f : Fresh Hf G σ ρ p) (hx : SlOk F.T Hf G H (some (some (.ref p))) x) : RR F Hf G (σ.set i (some (.ref p))) H (ρ.set i x) := by
  refine ⟨R.fz, R.fg, R.dj, by simpa using R.len, fun j y e => ?_, fun j k y z q hjk ey ez oy oz hy hz => ?_, fun j hj => ?_⟩
  · rcases get_set_cases e with ⟨rfl, rfl, hl⟩ | ⟨hj, e⟩
    · rw [List.getElem?_set_self (by rw [← R.len]; exact hl)]
      exact hx
    · rw [List.getElem?_set_ne (Ne.symm hj)]
      exact R.sl j y e
  · rcases get_set_cases ey with ⟨rfl, rfl, hl⟩ | ⟨hj, ey⟩
    · rw [List.getElem?_set_self (by rw [← R.len]; exact hl)] at hy
      cases hy
      rcases get_set_cases ez with ⟨rfl, _, _⟩ | ⟨hk, ez⟩
      · exact hjk rfl
      · rw [List.getElem?_set_ne (Ne.symm hk)] at hz
        exact f.2.2 k z ez oz hz
    · rw [List.getElem?_set_ne (Ne.symm hj)] at hy
      have ey2 := ey
      rcases get_set_cases ez with ⟨e1, e2, hl⟩ | ⟨hk, ez⟩
      · subst e1
        rw [List.getElem?_set_self (by rw [← R.len]; exact hl)] at hz
        cases hz
        exact f.2.2 j y ey2 oy hy
      · rw [List.getElem?_set_ne (Ne.symm hk)] at hz
        exact R.ds j k y z q hjk ey ez oy oz hy hz
  · have : j ≠ i := fun z => hm (z ▸ hj)
    rw [List.getElem?_set_ne (Ne.symm this)]
    exact R.kp j hj
/-- an owned object is changed in place -/
theorem RR.wr {i : Nat} {x y : Sl} {p : Addr} {o : HO} (R : RR F Hf G σ H ρ) (e : ρ[i]? = some x) (ho : owns x = true) (hp : σ[i]? = some (some (.ref p))) (hy : SlOk F.T Hf G (upd H p o) (some (some (.ref p))) y) : RR F Hf G σ (upd H p o) (ρ.set i y) := by
  obtain ⟨n, g, u, hu⟩ := R.own e ho hp
  have kH : ∀ b v, b ≠ p → H b = some v → upd H p o b = some v := fun b v hb q => by rw [upd_ne hb]; exact q
  refine ⟨fun b v q => kH b v (fun z => by subst z; rw [n] at q; cases q) (R.fz b v q), fun b v q => kH b v (fun z => by subst z; rw [g] at q; cases q) (R.fg b v q), R.dj, by simpa using R.len, fun j z ez => ?_, fun j k z z' q hjk ez ez' oz oz' hz hz' => ?_, R.kp⟩
  · rcases get_set_cases ez with ⟨rfl, rfl, _⟩ | ⟨hj, ez⟩
    · rw [hp]; exact hy
    · refine (R.sl j z ez).at fun q v hoz hq hv => kH q v (fun w => ?_) hv
      subst w
      exact R.ds j i z x q hj ez e hoz ho hq hp
  · have back : ∀ {j : Nat} {z : Sl}, (ρ.set i y)[j]? = some z → owns z = true → ∃ z', ρ[j]? = some z' ∧ owns z' = true := fun {j z} ez oz => by
      rcases get_set_cases ez with ⟨rfl, _, _⟩ | ⟨_, ez⟩
      · exact ⟨x, e, ho⟩
      · exact ⟨z, ez, oz⟩
    obtain ⟨a, ea, oa⟩ := back ez oz
    obtain ⟨b, eb, ob⟩ := back ez' oz'
    exact R.ds j k a b q hjk ea eb oa ob hz hz'
end
end DS
namespace DS
open PySem L2

/-- an expression that is read as it stands -/
def okE : Expr → Bool
  | .Starred .. => false | .Set .. => false | .SetComp .. => false | .DictComp .. => false | .Slice .. => false
  | _ => true
def noLc : Expr → Bool
  | .ListComp .. => false
  | _ => true
theorem star_ok {e : Expr} (h : okE e = true) (es : List Expr) (env : Env) : starEach (e :: es) env = (false, eval e env) :: starEach es env := by
  cases e <;> first | rfl | cases h
theorem sw_ok {e : Expr} (h : okE e = true) (h2 : noLc e = true) (t : Option Expr) (l : Nat) (env : Env) : swapsWith e t l env = pure false := by
  cases e <;> first | rfl | exact Bool.noConfusion h | exact Bool.noConfusion h2
theorem sws_ok {e : Expr} (h : okE e = true) (h2 : noLc e = true) (t : Expr) (l : Nat) (env : Env) : swapsWithSole [t] e l env = pure false := sw_ok h h2 (some t) l env
theorem fold_ok {e : Expr} (h : okE e = true) (env : Env) (x : Value) : foldedSetIterable e env x = pure x := by
  cases e <;> first | rfl | cases h
theorem ix_ok {e : Expr} (h : okE e = true) : PlainIx e := fun o i => by
  cases e <;> first | rfl | cases h
theorem mark_ok {e : Expr} {op : CmpOp} (h : okE e = true) : behindInMarks op e = false := by
  cases e <;> first | rfl | cases h

structure DC where
  X : Cx
  W : WX
  mp : List Nat
  s0 : St
@[reducible] def DC.T (C : DC) : Wd := ⟨C.X.prog, C.X.w, C.X.K, C.X.mg, C.X.base⟩
@[reducible] def DC.F (C : DC) : Fx := ⟨C.T, C.mp, C.s0⟩
def XR (T : Wd) (Hf : Hp) (e : Exn) (cls : Value) (dd : Option Addr) : Prop :=
  T.mg e.cls = some cls ∧ ((e.fs = [] ∧ dd = none) ∨ ∃ d vs, dd = some d ∧ Hf d = some (.xd vs) ∧ RpF T Hf e.fs vs)

abbrev Rel (β α : Type) := Hp → Hp → St → Hp → Rho → β → α → Prop
def Post (C : DC) {α β : Type} (rel : Rel β α) (Hf G : Hp) (σ : St) (Q : β → Hp → Prop) : Res α → Prop
  | .ok a ρ => ∀ b H Hf', Same Hf Hf' → RR C.F Hf' G σ H ρ → rel Hf' G σ H ρ b a → Q b H
  | .ex e ρ => ∀ cls dd H Hf', Same Hf Hf' → RR C.F Hf' G σ H ρ → XR C.T Hf' e cls dd → C.W cls dd σ H
  | .no => False
def Lft (C : DC) {α β : Type} (rel : Rel β α) (m : M α) : St → Hp → (β → Hp → Prop) → Prop := fun σ H Q => ∃ Hf G ρ, RR C.F Hf G σ H ρ ∧ Post C rel Hf G σ Q (m ρ)
theorem Post.up {C : DC} {α β : Type} {rel : Rel β α} {Hf Hf1 G : Hp} {σ : St} {Q : β → Hp → Prop} (s : Same Hf Hf1) : ∀ {r : Res α}, Post C rel Hf G σ Q r → Post C rel Hf1 G σ Q r
  | .ok a ρ, h => fun b H Hf' s' => h b H Hf' (s.trans s')
  | .ex e ρ, h => fun cls dd H Hf' s' => h cls dd H Hf' (s.trans s')
  | .no, h => h
/-- one part, then the rest -/
theorem post_bind {C : DC} {α β γ δ : Type} {rel : Rel β α} {rel2 : Rel δ γ} {ma : M α} {f : α → M γ} {Hf G : Hp} {σ : St} {H : Hp} {ρ : Rho} {Q : δ → Hp → Prop} {R : β → Hp → Prop} (rr : RR C.F Hf G σ H ρ) (h : Post C rel2 Hf G σ Q (bnd ma f ρ))
    (k : ∀ b a H1 Hf1 ρ1, Same Hf Hf1 → RR C.F Hf1 G σ H1 ρ1 → rel Hf1 G σ H1 ρ1 b a → Post C rel2 Hf1 G σ Q (f a ρ1) → R b H1) : Lft C rel ma σ H R := by
  refine ⟨Hf, G, ρ, rr, ?_⟩
  unfold bnd at h
  cases e : ma ρ with
  | ok a ρ1 =>
    rw [e] at h
    exact fun b H1 Hf1 s r1 r => k b a H1 Hf1 ρ1 s r1 r (h.up s)
  | ex x ρ1 => rw [e] at h; exact h
  | no => rw [e] at h; exact h
theorem opt_post {C : DC} {α β : Type} {rel : Rel β α} {Hf G : Hp} {σ : St} {ρ : Rho} {Q : β → Hp → Prop} {o : Option α} (h : Post C rel Hf G σ Q (opt o ρ)) : ∃ a, o = some a ∧ ∀ b H Hf', Same Hf Hf' → RR C.F Hf' G σ H ρ → rel Hf' G σ H ρ b a → Q b H := by
  cases o with
  | none => exact h.elim
  | some a => exact ⟨a, rfl, h⟩

/-- data whose outermost list stands in the whole heap -/
def RpT (T : Wd) (Hf H : Hp) : D → V → Prop
  | .list ds, v => ∃ a xs, v = .ref a ∧ SqL T.K H a xs ∧ RpA T Hf ds xs
  | d, v => Rp T Hf d v
theorem Rp.top {T : Wd} {Hf H : Hp} (s : Same Hf H) {d : D} {v : V} (h : Rp T Hf d v) : RpT T Hf H d v := by
  cases d with
  | list ds =>
    simp only [Rp] at h
    obtain ⟨a, xs, e, q, r⟩ := h
    exact ⟨a, xs, e, s.seq q, r⟩
  | none => exact h
  | bool b => exact h
  | int i => exact h
  | str x => exact h
  | tuple ds => exact h
  | dict kvs => exact h
theorem RpT.low {T : Wd} {Hf H : Hp} (s : Same Hf H) {d : D} {v : V} (h : RpT T Hf H d v) : Rp T H d v := by
  cases d with
  | list ds =>
    obtain ⟨a, xs, e, q, r⟩ := h
    simp only [Rp]
    exact ⟨a, xs, e, q, RpA.mono s _ _ r⟩
  | none => exact Rp.mono s _ _ h
  | bool b => exact Rp.mono s _ _ h
  | int i => exact Rp.mono s _ _ h
  | str x => exact Rp.mono s _ _ h
  | tuple ds => exact Rp.mono s _ _ h
  | dict kvs => exact Rp.mono s _ _ h

abbrev relE (T : Wd) : Rel V D := fun Hf _ _ _ _ v d => Rp T Hf d v
abbrev relK (T : Wd) : Rel V D := fun Hf _ _ H _ v d => RpT T Hf H d v
abbrev relB : Rel Bool Bool := fun _ _ _ _ _ b a => b = a
abbrev relF (T : Wd) : Rel V (List D) := fun Hf G σ H ρ v ds => ∃ p vs, v = .ref p ∧ Fresh Hf G σ ρ p ∧ H p = some (.lst vs) ∧ RpA T Hf ds vs

structure DE (C : DC) (e : Expr) (m : M D) : Prop where
  pe : PE C.X e (Lft C (relE C.T) m)
  ok : okE e = true
/-- read on the spot: nothing is kept of it -/
structure DK (C : DC) (e : Expr) (m : M D) : Prop where
  pe : PE C.X e (Lft C (relK C.T) m)
  ok : okE e = true
/-- a new list -/
structure DF (C : DC) (e : Expr) (m : M (List D)) : Prop where
  pe : PE C.X e (Lft C (relF C.T) m)
  ok : okE e = true
structure DT (C : DC) (e : Expr) (m : M Bool) : Prop where
  pt : PT C.X e (Lft C relB m)

theorem PE.imp {X : Cx} {e : Expr} {t t' : TE} (h : PE X e t) (k : ∀ σ H Q, t' σ H Q → t σ H Q) : PE X e t' := ⟨fun pins s σ H Q I hw => h.run pins s σ H Q I (k _ _ _ hw)⟩
theorem PT.imp {X : Cx} {e : Expr} {t t' : TT} (h : PT X e t) (k : ∀ σ H Q, t' σ H Q → t σ H Q) : PT X e t' := ⟨fun pins s σ H Q I hw => h.run pins s σ H Q I (k _ _ _ hw)⟩
theorem PS.imp {X : Cx} {e : Stmt} {t t' : TS} (h : PS X e t) (k : ∀ D σ H, t' D σ H → t D σ H) : PS X e t' := ⟨fun pins s σ H Q I hw => h.run pins s σ H Q I (k _ _ _ hw)⟩
theorem PSs.imp {X : Cx} {e : List Stmt} {t t' : TS} (h : PSs X e t) (k : ∀ D σ H, t' D σ H → t D σ H) : PSs X e t' := ⟨fun pins s σ H Q I hw => h.run pins s σ H Q I (k _ _ _ hw)⟩

theorem Lft.rel {C : DC} {α β : Type} {rel rel' : Rel β α} {m : M α} (k : ∀ Hf G σ H ρ b a, RR C.F Hf G σ H ρ → rel Hf G σ H ρ b a → rel' Hf G σ H ρ b a) : ∀ σ H Q, Lft C rel' m σ H Q → Lft C rel m σ H Q := fun σ H Q ⟨Hf, G, ρ, rr, h⟩ => by
  refine ⟨Hf, G, ρ, rr, ?_⟩
  cases e : m ρ with
  | ok a ρ1 => rw [e] at h; exact fun b H1 Hf1 s r1 r => h b H1 Hf1 s r1 (k _ _ _ _ _ _ _ r1 r)
  | ex x ρ1 => rw [e] at h; exact h
  | no => rw [e] at h; exact h
theorem DE.k {C : DC} {e : Expr} {m : M D} (h : DE C e m) : DK C e m := ⟨PE.imp h.pe (Lft.rel fun _ _ _ _ _ _ _ r1 r => Rp.top r1.fz r), h.ok⟩
/-- a new list, frozen -/
def frzM (m : M (List D)) : M D := bnd m fun ds => ret (.list ds)
theorem DF.e {C : DC} {e : Expr} {m : M (List D)} (h : DF C e m) : DE C e (frzM m) := by
  refine ⟨PE.imp h.pe fun σ H Q ⟨Hf, G, ρ, rr, hh⟩ => ?_, h.ok⟩
  refine post_bind rr hh fun v ds H1 Hf1 ρ1 s r1 r p => ?_
  obtain ⟨q, vs, e, f, hq, ra⟩ := r
  subst e
  refine p (.ref q) H1 (upd Hf1 q (.lst vs)) (Same.updN f.1) (r1.freeze hq f.1 f.2.1 f.2.2) ?_
  simp only [Rp]
  exact ⟨q, vs, rfl, SqL.of upd_same, RpA.mono (Same.updN f.1) _ _ ra⟩

/-! ### names -/
/-- a slot is read; a list of one's own is frozen -/
def rd (i : Nat) : M D := fun ρ => match ρ[i]? with
  | some (.im d) => .ok d ρ
  | some (.ml ds) => .ok (.list ds) (ρ.set i (.im (.list ds)))
  | _ => .no
/-- .. on the spot -/
def pk (i : Nat) : M D := fun ρ => match ρ[i]? with
  | some (.im d) => .ok d ρ
  | some (.ml ds) => .ok (.list ds) ρ
  | _ => .no
theorem RR.frz {F : Fx} {Hf G H : Hp} {σ : St} {ρ : Rho} {i : Nat} {ds : List D} {p : Addr} {vs : List V} (R : RR F Hf G σ H ρ) (e : ρ[i]? = some (.ml ds)) (hp : σ[i]? = some (some (.ref p))) (n : Hf p = none) (g : G p = none) (hH : H p = some (.lst vs)) (ra : RpA F.T Hf ds vs) :
    RR F (upd Hf p (.lst vs)) G σ H (ρ.set i (.im (.list ds))) := by
  have sm : Same Hf (upd Hf p (.lst vs)) := Same.updN n
  refine ⟨fun b u q => ?_, R.fg, fun b u q => ?_, by simpa using R.len, fun j x ex => ?_, fun j k x y q hjk ex ey ox oy hx hy => ?_, R.kp⟩
  · by_cases hb : b = p
    · subst hb; rw [upd_same] at q; rw [hH]; exact q
    · rw [upd_ne hb] at q; exact R.fz b u q
  · have hb : b ≠ p := fun z => by subst z; rw [g] at q; cases q
    rw [upd_ne hb]; exact R.dj b u q
  · rcases get_set_cases ex with ⟨rfl, rfl, _⟩ | ⟨hj, ex⟩
    · refine ⟨.ref p, hp, ?_⟩
      simp only [Rp]
      exact ⟨p, vs, rfl, SqL.of upd_same, RpA.mono sm _ _ ra⟩
    · refine (R.sl j x ex).fz sm fun q ho hq => ?_
      have hb : q ≠ p := fun z => by subst z; exact R.ds j i x _ q hj ex e ho rfl hq hp
      rw [upd_ne hb]; exact (R.own ex ho hq).1
  · rcases get_set_cases ex with ⟨rfl, rfl, _⟩ | ⟨hj, ex⟩
    · cases ox
    · rcases get_set_cases ey with ⟨rfl, rfl, _⟩ | ⟨hk, ey⟩
      · cases oy
      · exact R.ds j k x y q hjk ex ey ox oy hx hy
theorem tv_rd {C : DC} {i : Nat} : ∀ σ H Q, Lft C (relE C.T) (rd i) σ H Q → tVar i σ H Q := fun σ H Q ⟨Hf, G, ρ, rr, h⟩ => by
  unfold rd at h
  cases e : ρ[i]? with
  | none => simp only [e] at h; exact h.elim
  | some x =>
    have hs := rr.sl i x e
    cases x with
    | un => simp only [e] at h; exact h.elim
    | im d =>
      simp only [e] at h
      obtain ⟨v, hv, r⟩ := hs
      exact ⟨v, hv, h v H Hf (Same.refl _) rr r⟩
    | ml ds =>
      simp only [e] at h
      obtain ⟨p, vs, hp, n, g, hH, ra⟩ := hs
      refine ⟨.ref p, hp, h (.ref p) H _ (Same.updN n) (rr.frz e hp n g hH ra) ?_⟩
      simp only [Rp]
      exact ⟨p, vs, rfl, SqL.of upd_same, RpA.mono (Same.updN n) _ _ ra⟩
    | md kvs => simp only [e] at h; exact h.elim
    | mi c fs => simp only [e] at h; exact h.elim
theorem tv_pk {C : DC} {i : Nat} : ∀ σ H Q, Lft C (relK C.T) (pk i) σ H Q → tVar i σ H Q := fun σ H Q ⟨Hf, G, ρ, rr, h⟩ => by
  unfold pk at h
  cases e : ρ[i]? with
  | none => simp only [e] at h; exact h.elim
  | some x =>
    have hs := rr.sl i x e
    cases x with
    | un => simp only [e] at h; exact h.elim
    | im d =>
      simp only [e] at h
      obtain ⟨v, hv, r⟩ := hs
      exact ⟨v, hv, h v H Hf (Same.refl _) rr (Rp.top rr.fz r)⟩
    | ml ds =>
      simp only [e] at h
      obtain ⟨p, vs, hp, n, g, hH, ra⟩ := hs
      exact ⟨.ref p, hp, h (.ref p) H Hf (Same.refl _) rr ⟨p, vs, rfl, SqL.of hH, ra⟩⟩
    | md kvs => simp only [e] at h; exact h.elim
    | mi c fs => simp only [e] at h; exact h.elim

/-- what holds of a context: the def's names by slot; the slots that are read, those that are stored; the module's names -/
structure Nm where
  N : List Str
  vs : List Nat
  ws : List Nat
  gs : List Str
  bs : List Str
  bn : List Str
  mp : List Nat
  ls : List Nat
  cs : List Nat
  lv : Nat
  fs : Wd → Prop
def locB (sc : Scope) (x : Str) : Bool := sc.names.lookup x == some .local || sc.names.lookup x == some .cell
def visB (sc : Scope) (x : Str) : Bool := sc.names.lookup x == some .local || sc.names.lookup x == some .cell || sc.names.lookup x == some .free
def glB (sc : Scope) (x : Str) : Bool := sc.names.lookup x == some .globalImplicit
def plB (x : Str) : Bool := !(x == ("__debug__" : Str)) && !(x == ("__classdict__" : Str)) && !(x == ("__name__" : Str))
def scB (n : Nm) (sc : Scope) : Bool :=
  n.vs.all (fun i => match n.N[i]? with | some x => visB sc x && plB x | none => false) &&
  (n.ws.all (fun i => (match n.N[i]? with | some x => locB sc x | none => false) && !n.mp.contains i) && ((n.gs ++ n.bs).all (fun x => glB sc x && plB x) && n.bs.all (fun x => n.bn.contains x) && (n.ls.all (fun i => match n.N[i]? with | some x => sc.names.lookup x == some .local | none => false) && n.cs.all (fun i => match n.N[i]? with | some x => sc.names.lookup x == some .cell | none => false))))
structure Sc (C : DC) (n : Nm) : Prop where
  hN : C.X.N = n.N
  nd : n.N.Nodup
  ck : scB n C.X.env.scope = true
  kd : C.X.env.scope.kind = .function
  calm : C.X.calm = true
  fnc : ∀ i ∈ n.ws, ∀ x, n.N[i]? = some x → C.X.env.scope.names.lookup x = some .cell → C.X.fn x = true
  mpe : C.mp = n.mp
  po : PassesOwn (model C.X.prog C.X.w) C.X.A C.X.env C.X.xe
  room : Room n.lv C.X.A
  bno : ∀ x ∈ n.bn, C.X.mg x = none
  fs : n.fs C.T
theorem eq_of_beq_kind {a b : Option NameKind} (h : (a == b) = true) : a = b := by
  cases a with
  | none => cases b with
    | none => rfl
    | some y => cases h
  | some x => cases b with
    | none => cases h
    | some y => cases x <;> cases y <;> first | rfl | cases h
section
variable {C : DC} {n : Nm}
theorem Sc.vis (S : Sc C n) {i : Nat} {x : Str} (hi : i ∈ n.vs) (hx : n.N[i]? = some x) : Vis C.X.env.scope x ∧ plB x = true := by
  have h := S.ck
  unfold scB at h
  simp only [Bool.and_eq_true] at h
  have h1 := List.all_eq_true.mp h.1 i hi
  rw [hx] at h1
  simp only [Bool.and_eq_true, visB, Bool.or_eq_true] at h1
  refine ⟨?_, h1.2⟩
  rcases h1.1 with (z | z) | z
  · exact .inl (eq_of_beq_kind z)
  · exact .inr (.inl (eq_of_beq_kind z))
  · exact .inr (.inr (eq_of_beq_kind z))
theorem Sc.loc (S : Sc C n) {i : Nat} {x : Str} (hi : i ∈ n.ws) (hx : n.N[i]? = some x) : Loc C.X.env.scope x ∧ (C.X.fn x = true ∨ C.X.env.scope.names.lookup x = some .local) := by
  have h := S.ck
  unfold scB at h
  simp only [Bool.and_eq_true] at h
  have h1 := List.all_eq_true.mp h.2.1 i hi
  rw [hx, Bool.and_eq_true] at h1
  have h1 := h1.1
  simp only [locB, Bool.or_eq_true] at h1
  rcases h1 with z | z
  · exact ⟨.inl (eq_of_beq_kind z), .inr (eq_of_beq_kind z)⟩
  · exact ⟨.inr (eq_of_beq_kind z), .inl (S.fnc i hi x hx (eq_of_beq_kind z))⟩
theorem Sc.mpo (S : Sc C n) : ∀ i ∈ n.ws, i ∉ C.mp := fun i hi hm => by
  have h := S.ck
  unfold scB at h
  simp only [Bool.and_eq_true] at h
  have h1 := List.all_eq_true.mp h.2.1 i hi
  rw [Bool.and_eq_true] at h1
  rw [S.mpe] at hm
  have h2 := h1.2
  rw [List.contains_iff_mem.mpr hm] at h2
  cases h2
theorem Sc.lcl (S : Sc C n) {i : Nat} {x : Str} (hi : i ∈ n.ls) (hx : n.N[i]? = some x) : C.X.env.scope.names.lookup x = some .local := by
  have h := S.ck
  unfold scB at h
  simp only [Bool.and_eq_true] at h
  have h1 := List.all_eq_true.mp h.2.2.2.1 i hi
  rw [hx] at h1
  exact eq_of_beq_kind h1
theorem Sc.cel (S : Sc C n) {i : Nat} {x : Str} (hi : i ∈ n.cs) (hx : n.N[i]? = some x) : C.X.env.scope.names.lookup x = some .cell := by
  have h := S.ck
  unfold scB at h
  simp only [Bool.and_eq_true] at h
  have h1 := List.all_eq_true.mp h.2.2.2.2 i hi
  rw [hx] at h1
  exact eq_of_beq_kind h1
theorem Sc.glx (S : Sc C n) {x : Str} (hx : x ∈ n.gs ++ n.bs) : Gl C.X x ∧ plB x = true := by
  have h := S.ck
  unfold scB at h
  simp only [Bool.and_eq_true] at h
  have h1 := List.all_eq_true.mp h.2.2.1.1 x hx
  simp only [Bool.and_eq_true] at h1
  exact ⟨eq_of_beq_kind h1.1, h1.2⟩
theorem Sc.bsn (S : Sc C n) : ∀ x ∈ n.bs, C.X.mg x = none := fun x hx => by
  have h := S.ck
  unfold scB at h
  simp only [Bool.and_eq_true] at h
  exact S.bno x (List.contains_iff_mem.mp (List.all_eq_true.mp h.2.2.1.2 x hx))
theorem Sc.gl (S : Sc C n) {x : Str} {j : Nat} (hx : n.gs[j]? = some x) : Gl C.X x ∧ plB x = true := S.glx (List.mem_append_left _ (List.mem_of_getElem? hx))
theorem Sc.bl (S : Sc C n) {x : Str} {j : Nat} (hx : n.bs[j]? = some x) : Gl C.X x ∧ C.X.mg x = none := ⟨(S.glx (List.mem_append_right _ (List.mem_of_getElem? hx))).1, S.bsn x (List.mem_of_getElem? hx)⟩
theorem plB_d {x : Str} (h : plB x = true) : (x == ("__debug__" : Str)) = false ∧ (x == ("__classdict__" : Str)) = false ∧ x ≠ ("__name__" : Str) := by
  unfold plB at h
  simp only [Bool.and_eq_true, Bool.not_eq_true'] at h
  refine ⟨h.1.1, h.1.2, fun e => ?_⟩
  have := h.2
  rw [e] at this
  simp at this
theorem pv_ok (S : Sc C n) (i : Nat) {x : Str} {pos : Pos} (hi : i ∈ n.vs) (hx : n.N[i]? = some x) : PE C.X (.Name x pos) (tVar i) :=
  pe_var (by rw [S.hN]; exact hx) (S.vis hi hx).1 (plB_d (S.vis hi hx).2).1 (plB_d (S.vis hi hx).2).2.1
theorem pg_ok (S : Sc C n) (i : Nat) {x : Str} {pos : Pos} (hi : i ∈ n.ws) (hx : n.N[i]? = some x) : PG C.X (.Name x pos) (gName i) :=
  pg_name (by rw [S.hN]; exact S.nd) (by rw [S.hN]; exact hx) (S.loc hi hx).1 (S.loc hi hx).2
theorem de_var (S : Sc C n) (i : Nat) {x : Str} {pos : Pos} (hi : i ∈ n.vs) (hx : n.N[i]? = some x) : DE C (.Name x pos) (rd i) := ⟨PE.imp (pv_ok S i hi hx) tv_rd, rfl⟩
theorem dk_var (S : Sc C n) (i : Nat) {x : Str} {pos : Pos} (hi : i ∈ n.vs) (hx : n.N[i]? = some x) : DK C (.Name x pos) (pk i) := ⟨PE.imp (pv_ok S i hi hx) tv_pk, rfl⟩
end

/-! ### constants -/
section
variable {C : DC}
theorem lft_ret {d : D} {v : V} (r : ∀ Hf, Rp C.T Hf d v) : ∀ σ H Q, Lft C (relE C.T) (ret d) σ H Q → tC v σ H Q := fun σ H Q ⟨Hf, G, ρ, rr, h⟩ => h v H Hf (Same.refl _) rr (r Hf)
theorem de_int {i : Int} {j : Nat} {pos : Pos} : DE C (.Constant (.int i) j pos) (ret (.int i)) := ⟨PE.imp pe_int (lft_ret fun _ => by simp only [Rp]), rfl⟩
theorem de_bl {b : Bool} {j : Nat} {pos : Pos} : DE C (.Constant (.bool b) j pos) (ret (.bool b)) := ⟨PE.imp pe_bl (lft_ret fun _ => by simp only [Rp]), rfl⟩
theorem de_non {j : Nat} {pos : Pos} : DE C (.Constant .none j pos) (ret .none) := ⟨PE.imp pe_non (lft_ret fun _ => by simp only [Rp]), rfl⟩
theorem de_str {x : Str} {j : Nat} {pos : Pos} (h : PyData.strOk x = true) : DE C (.Constant (.str x) j pos) (ret (.str x)) := ⟨PE.imp pe_str (lft_ret fun _ => by unfold Rp; exact ⟨rfl, h⟩), rfl⟩
end

/-! ### operators -/
def OpD (C : DC) (f : Value → Value → Sem Value) (g : D → D → Option D) : Prop :=
  ∃ r : R2, OpR C.X f r ∧ ∀ (Hf G : Hp) (σ : St) (H : Hp) (ρ : Rho) (x y : V) (a b d : D) (Q : VK), RR C.F Hf G σ H ρ → RpT C.T Hf H a x → RpT C.T Hf H b y → g a b = some d →
    (∀ v H' Hf', Same Hf Hf' → RR C.F Hf' G σ H' ρ → Rp C.T Hf' d v → Q v H') → r x y H Q
section
variable {C : DC} {a b : Expr} {ma mb : M D} {pos : Pos} {g : D → D → Option D}
def bin (g : D → D → Option D) (ma mb : M D) : M D := bnd ma fun x => bnd mb fun y => opt (g x y)
/-- the left side is a name: what it holds is read behind the right side -/
def binN (g : D → D → Option D) (i : Nat) (mb : M D) : M D := bnd (pk i) fun _ => bnd mb fun y => bnd (pk i) fun x => opt (g x y)
theorem lft_bin {f : Value → Value → Sem Value} {r : R2} (hr : ∀ (Hf G : Hp) (σ : St) (H : Hp) (ρ : Rho) (x y : V) (a b d : D) (Q : VK), RR C.F Hf G σ H ρ → RpT C.T Hf H a x → RpT C.T Hf H b y → g a b = some d →
    (∀ v H' Hf', Same Hf Hf' → RR C.F Hf' G σ H' ρ → Rp C.T Hf' d v → Q v H') → r x y H Q) : ∀ σ H Q, Lft C (relE C.T) (bin g ma mb) σ H Q → tOp r (Lft C (relE C.T) ma) (Lft C (relK C.T) mb) σ H Q := fun σ H Q ⟨Hf, G, ρ, rr, h⟩ => by
  refine post_bind rr h fun x a H1 Hf1 ρ1 s1 rr1 ra p1 => ?_
  refine post_bind rr1 p1 fun y b H2 Hf2 ρ2 s2 rr2 rb p2 => ?_
  obtain ⟨d, e, q⟩ := opt_post p2
  exact hr Hf2 G σ H2 ρ2 x y a b d Q rr2 (Rp.top rr2.fz (Rp.mono s2 _ _ ra)) rb e q
theorem pk_get {σ : St} {H Hf G : Hp} {ρ : Rho} {i : Nat} {d : D} {ρ' : Rho} (rr : RR C.F Hf G σ H ρ) (h : pk i ρ = .ok d ρ') {v : V} (hv : σ[i]? = some (some v)) : ρ' = ρ ∧ RpT C.T Hf H d v := by
  unfold pk at h
  cases e : ρ[i]? with
  | none => simp only [e] at h; cases h
  | some x =>
    have hs := rr.sl i x e
    cases x with
    | un => simp only [e] at h; cases h
    | im d' =>
      simp only [e] at h
      cases h
      obtain ⟨w, hw, r⟩ := hs
      rw [hv] at hw; cases hw
      exact ⟨rfl, Rp.top rr.fz r⟩
    | ml ds =>
      simp only [e] at h
      cases h
      obtain ⟨p, vs, hp, n, g, hH, ra⟩ := hs
      rw [hv] at hp; cases hp
      exact ⟨rfl, p, vs, rfl, SqL.of hH, ra⟩
    | md kvs => simp only [e] at h; cases h
    | mi c fs => simp only [e] at h; cases h
/-- a slot that is read behind holds something ahead -/
theorem slot_some {σ : St} {H Hf G : Hp} {ρ : Rho} {i : Nat} {x : Sl} (rr : RR C.F Hf G σ H ρ) (e : ρ[i]? = some x) (hu : x ≠ .un) : ∃ v, σ[i]? = some (some v) := by
  have hs := rr.sl i x e
  cases x with
  | un => exact absurd rfl hu
  | im d => obtain ⟨v, hv, _⟩ := hs; exact ⟨v, hv⟩
  | ml ds => obtain ⟨p, vs, hp, _⟩ := hs; exact ⟨_, hp⟩
  | md kvs => obtain ⟨p, hp, _⟩ := hs; exact ⟨_, hp⟩
  | mi c fs => obtain ⟨p, _, _, _, hp, _⟩ := hs; exact ⟨_, hp⟩
theorem pk_some {σ : St} {H Hf G : Hp} {ρ : Rho} {i : Nat} {d : D} {ρ' : Rho} (rr : RR C.F Hf G σ H ρ) (h : pk i ρ = .ok d ρ') : ρ' = ρ ∧ ∃ v, σ[i]? = some (some v) ∧ RpT C.T Hf H d v := by
  have : ∃ x, ρ[i]? = some x ∧ x ≠ .un := by
    unfold pk at h
    cases e : ρ[i]? with
    | none => simp only [e] at h; cases h
    | some x =>
      refine ⟨x, rfl, fun z => ?_⟩
      subst z
      simp only [e] at h; cases h
  obtain ⟨x, e, hu⟩ := this
  obtain ⟨v, hv⟩ := slot_some rr e hu
  obtain ⟨e2, r⟩ := pk_get rr h hv
  exact ⟨e2, v, hv, r⟩
/-- pk, then the rest -/
theorem pk_bind {α β : Type} {rel : Rel β α} {σ : St} {H Hf G : Hp} {ρ : Rho} {i : Nat} {f : D → M α} {Q : β → Hp → Prop} (rr : RR C.F Hf G σ H ρ) (h : Post C rel Hf G σ Q (bnd (pk i) f ρ)) : ∃ d v, σ[i]? = some (some v) ∧ RpT C.T Hf H d v ∧ Post C rel Hf G σ Q (f d ρ) := by
  unfold bnd at h
  cases e : pk i ρ with
  | ok d ρ' =>
    rw [e] at h
    obtain ⟨e2, v, hv, r⟩ := pk_some rr e
    subst e2
    exact ⟨d, v, hv, r, h⟩
  | ex x ρ' =>
    unfold pk at e
    split at e <;> cases e
  | no => rw [e] at h; exact h.elim
theorem lft_binN {r : R2} {i : Nat} (hr : ∀ (Hf G : Hp) (σ : St) (H : Hp) (ρ : Rho) (x y : V) (a b d : D) (Q : VK), RR C.F Hf G σ H ρ → RpT C.T Hf H a x → RpT C.T Hf H b y → g a b = some d →
    (∀ v H' Hf', Same Hf Hf' → RR C.F Hf' G σ H' ρ → Rp C.T Hf' d v → Q v H') → r x y H Q) : ∀ σ H Q, Lft C (relE C.T) (binN g i mb) σ H Q → tOp r (tVar i) (Lft C (relK C.T) mb) σ H Q := fun σ H Q ⟨Hf, G, ρ, rr, h⟩ => by
  obtain ⟨_, v, hv, _, h⟩ := pk_bind rr h
  refine ⟨v, hv, ?_⟩
  refine post_bind rr h fun y b H2 Hf2 ρ2 s2 rr2 rb p2 => ?_
  obtain ⟨d, v', hv', ra, p3⟩ := pk_bind rr2 p2
  rw [hv] at hv'; cases hv'
  obtain ⟨d', e, q⟩ := opt_post p3
  exact hr Hf2 G σ H2 ρ2 v y d b d' Q rr2 ra rb e q
theorem de_bin {op : Operator} (o : OpD C (binaryOp op) g) (ha : DE C a ma) (hb : DK C b mb) : DE C (.BinOp a op b pos) (bin g ma mb) :=
  let ⟨_, ho, hr⟩ := o; ⟨PE.imp (pe_op ho ha.pe hb.pe) (lft_bin (f := binaryOp op) hr), rfl⟩
theorem de_binN {n : Nm} {op : Operator} {x : Str} {p : Pos} (S : Sc C n) (o : OpD C (binaryOp op) g) (i : Nat) (hi : i ∈ n.vs) (hx : n.N[i]? = some x) (hb : DK C b mb) : DE C (.BinOp (.Name x p) op b pos) (binN g i mb) :=
  let ⟨_, ho, hr⟩ := o; ⟨PE.imp (pe_op ho (pv_ok S i hi hx) hb.pe) (lft_binN hr), rfl⟩
theorem de_cmp {op : CmpOp} (o : OpD C (compareOp op) g) (ha : DE C a ma) (hb : DK C b mb) : DE C (.Compare a [op] [b] pos) (bin g ma mb) :=
  let ⟨_, ho, hr⟩ := o; ⟨PE.imp (pe_cmpR ho ha.pe hb.pe (mark_ok hb.ok)) (lft_bin (f := compareOp op) hr), rfl⟩
theorem de_cmpN {n : Nm} {op : CmpOp} {x : Str} {p : Pos} (S : Sc C n) (o : OpD C (compareOp op) g) (i : Nat) (hi : i ∈ n.vs) (hx : n.N[i]? = some x) (hb : DK C b mb) : DE C (.Compare (.Name x p) [op] [b] pos) (binN g i mb) :=
  let ⟨_, ho, hr⟩ := o; ⟨PE.imp (pe_cmpR ho (pv_ok S i hi hx) hb.pe (mark_ok hb.ok)) (lft_binN hr), rfl⟩
/-- a bool -/
def asB (m : M D) : M Bool := bnd m fun x => match x with
  | .bool b => ret b
  | _ => stop
theorem asB_post {Hf G : Hp} {σ : St} {ρ : Rho} {Q : Bool → Hp → Prop} {m : M D} : Post C relB Hf G σ Q (asB m ρ) → Post C (relE C.T) Hf G σ (fun v H' => ∃ k, v = .bl k ∧ Q k H') (m ρ) := fun h => by
  unfold asB bnd at h
  cases e : m ρ with
  | ok d ρ1 =>
    rw [e] at h
    intro v H1 Hf1 s1 rr1 r
    cases d with
    | bool b =>
      unfold Rp at r
      exact ⟨b, r, h b H1 Hf1 s1 rr1 rfl⟩
    | none => exact h.elim
    | int i => exact h.elim
    | str x => exact h.elim
    | list ds => exact h.elim
    | tuple ds => exact h.elim
    | dict kvs => exact h.elim
  | ex x ρ1 => rw [e] at h; exact h
  | no => rw [e] at h; exact h
theorem lft_asB {m : M D} {t : TE} (k : ∀ σ H Q, Lft C (relE C.T) m σ H Q → t σ H Q) : ∀ σ H Q, Lft C relB (asB m) σ H Q → tTest t σ H Q := fun σ H Q ⟨Hf, G, ρ, rr, h⟩ => k σ H _ ⟨Hf, G, ρ, rr, asB_post h⟩
theorem dt_cmp {op : CmpOp} (o : OpD C (compareOp op) g) (ha : DE C a ma) (hb : DK C b mb) : DT C (.Compare a [op] [b] pos) (asB (bin g ma mb)) :=
  let ⟨_, ho, hr⟩ := o; ⟨PT.imp (pt_cmpR ho ha.pe hb.pe (mark_ok hb.ok)) (lft_asB (lft_bin (f := compareOp op) hr))⟩
theorem dt_cmpN {n : Nm} {op : CmpOp} {x : Str} {p : Pos} (S : Sc C n) (o : OpD C (compareOp op) g) (i : Nat) (hi : i ∈ n.vs) (hx : n.N[i]? = some x) (hb : DK C b mb) : DT C (.Compare (.Name x p) [op] [b] pos) (asB (binN g i mb)) :=
  let ⟨_, ho, hr⟩ := o; ⟨PT.imp (pt_cmpR ho (pv_ok S i hi hx) hb.pe (mark_ok hb.ok)) (lft_asB (lft_binN hr))⟩
/-- an expression that is no comparison, and, or, not, as a test -/
def plT : Expr → Bool
  | .UnaryOp .. => false | .BoolOp .. => false | .IfExp .. => false | .Compare .. => false
  | _ => true
theorem dt_val {e : Expr} {m : M D} (h : DE C e m) (hp : plT e = true) : DT C e (asB m) :=
  ⟨PT.imp (pt_val h.pe (by intro w; cases e <;> first | rfl | cases hp)) (lft_asB fun _ _ _ z => z)⟩
/-! and, or, not -/
def andB (a b : M Bool) : M Bool := bnd a fun x => if x = true then b else ret false
def orB (a b : M Bool) : M Bool := bnd a fun x => if x = true then ret true else b
def notB (a : M Bool) : M Bool := bnd a fun x => ret (!x)
structure DW (C : DC) (e : Expr) (m : M Bool) : Prop where
  pw : PW C.X e (Lft C relB m)
theorem PW.imp {X : Cx} {e : Expr} {t t' : TT} (h : PW X e t) (k : ∀ σ H Q, t' σ H Q → t σ H Q) : PW X e t' := ⟨fun w pins s σ H Q I hw => h.run w pins s σ H Q I (k _ _ _ hw)⟩
theorem DW.t {e : Expr} {m : M Bool} (h : DW C e m) : DT C e m := ⟨h.pw.pt⟩
variable {na nb : M Bool} {rest : List Expr}
theorem dw_and1 (h : DT C a na) : DW C (.BoolOp .And [a] pos) na := ⟨pw_and1 h.pt⟩
theorem dw_or1 (h : DT C a na) : DW C (.BoolOp .Or [a] pos) na := ⟨pw_or1 h.pt⟩
theorem dw_and (h : DT C a na) (h2 : DW C (.BoolOp .And (b :: rest) pos) nb) : DW C (.BoolOp .And (a :: b :: rest) pos) (andB na nb) :=
  ⟨PW.imp (pw_and h.pt h2.pw) fun σ H Q ⟨Hf, G, ρ, rr, h⟩ => post_bind rr h fun x c H1 Hf1 ρ1 s1 rr1 e p1 => by
    subst e
    cases x with
    | true => rw [if_pos rfl] at p1 ⊢; exact ⟨Hf1, G, ρ1, rr1, p1⟩
    | false => rw [if_neg Bool.false_ne_true] at p1 ⊢; exact p1 false H1 Hf1 (Same.refl _) rr1 rfl⟩
theorem dw_or (h : DT C a na) (h2 : DW C (.BoolOp .Or (b :: rest) pos) nb) : DW C (.BoolOp .Or (a :: b :: rest) pos) (orB na nb) :=
  ⟨PW.imp (pw_or h.pt h2.pw) fun σ H Q ⟨Hf, G, ρ, rr, h⟩ => post_bind rr h fun x c H1 Hf1 ρ1 s1 rr1 e p1 => by
    subst e
    cases x with
    | true => rw [if_pos rfl] at p1 ⊢; exact p1 true H1 Hf1 (Same.refl _) rr1 rfl
    | false => rw [if_neg Bool.false_ne_true] at p1 ⊢; exact ⟨Hf1, G, ρ1, rr1, p1⟩⟩
theorem dt_not (h : DT C a na) : DT C (.UnaryOp .Not a pos) (notB na) :=
  ⟨PT.imp (pt_not h.pt) fun σ H Q ⟨Hf, G, ρ, rr, h⟩ => post_bind rr h fun x c H1 Hf1 ρ1 s1 rr1 e p1 => by
    subst e
    exact p1 (!x) H1 Hf1 (Same.refl _) rr1 rfl⟩
/-! .. as values -/
def andV (a b : M D) : M D := bnd (asB a) fun x => if x = true then b else ret (.bool false)
def orV (a b : M D) : M D := bnd (asB a) fun x => if x = true then ret (.bool true) else b
def notV (a : M D) : M D := bnd (asB a) fun x => ret (.bool (!x))
theorem asB_bind {α β : Type} {rel : Rel β α} {Hf G : Hp} {σ : St} {H : Hp} {ρ : Rho} {m : M D} {f : Bool → M α} {Q : β → Hp → Prop} {R : Bool → Hp → Prop} (rr : RR C.F Hf G σ H ρ) (h : Post C rel Hf G σ Q (bnd (asB m) f ρ))
    (k : ∀ c H1 Hf1 ρ1, Same Hf Hf1 → RR C.F Hf1 G σ H1 ρ1 → Post C rel Hf1 G σ Q (f c ρ1) → R c H1) : Lft C (relE C.T) m σ H fun v H1 => ∃ c, v = .bl c ∧ R c H1 := by
  obtain ⟨Hf, G, ρ, rr, h⟩ := post_bind (rel := relB) (R := R) rr h fun b c H1 Hf1 ρ1 s1 rr1 e p1 => by subst e; exact k b H1 Hf1 ρ1 s1 rr1 p1
  exact ⟨Hf, G, ρ, rr, asB_post h⟩
theorem de_one {op : BoolOp} (h : DE C a ma) : DE C (.BoolOp op [a] pos) ma := ⟨pe_one h.pe, rfl⟩
theorem de_and (h : DE C a ma) (h2 : DE C (.BoolOp .And (b :: rest) pos) mb) : DE C (.BoolOp .And (a :: b :: rest) pos) (andV ma mb) :=
  ⟨PE.imp (pe_and h.pe h2.pe) fun σ H Q ⟨Hf, G, ρ, rr, h⟩ => asB_bind rr h fun c H1 Hf1 ρ1 s1 rr1 p1 => by
    cases c with
    | true => rw [if_pos rfl] at p1 ⊢; exact ⟨Hf1, G, ρ1, rr1, p1⟩
    | false => rw [if_neg Bool.false_ne_true] at p1 ⊢; exact p1 (.bl false) H1 Hf1 (Same.refl _) rr1 (by simp only [Rp]), rfl⟩
theorem de_or (h : DE C a ma) (h2 : DE C (.BoolOp .Or (b :: rest) pos) mb) : DE C (.BoolOp .Or (a :: b :: rest) pos) (orV ma mb) :=
  ⟨PE.imp (pe_or h.pe h2.pe) fun σ H Q ⟨Hf, G, ρ, rr, h⟩ => asB_bind rr h fun c H1 Hf1 ρ1 s1 rr1 p1 => by
    cases c with
    | true => rw [if_pos rfl] at p1 ⊢; exact p1 (.bl true) H1 Hf1 (Same.refl _) rr1 (by simp only [Rp])
    | false => rw [if_neg Bool.false_ne_true] at p1 ⊢; exact ⟨Hf1, G, ρ1, rr1, p1⟩, rfl⟩
theorem de_not (h : DE C a ma) : DE C (.UnaryOp .Not a pos) (notV ma) :=
  ⟨PE.imp (pe_not h.pe) fun σ H Q ⟨Hf, G, ρ, rr, h⟩ => asB_bind rr h fun c H1 Hf1 ρ1 s1 rr1 p1 => p1 (.bl (!c)) H1 Hf1 (Same.refl _) rr1 (by simp only [Rp]), rfl⟩
def ifV (t : M Bool) (a b : M D) : M D := bnd t fun c => if c = true then a else b
theorem de_if {c : Expr} {tc : M Bool} (hc : DT C c tc) (h : DE C a ma) (h2 : DE C b mb) : DE C (.IfExp c a b pos) (ifV tc ma mb) :=
  ⟨PE.imp (pe_ifExp hc.pt h.pe h2.pe) fun σ H Q ⟨Hf, G, ρ, rr, h⟩ => post_bind rr h fun x c H1 Hf1 ρ1 s1 rr1 e p1 => by
    subst e
    cases x with
    | true => rw [if_pos rfl] at p1 ⊢; exact ⟨Hf1, G, ρ1, rr1, p1⟩
    | false => rw [if_neg Bool.false_ne_true] at p1 ⊢; exact ⟨Hf1, G, ρ1, rr1, p1⟩, rfl⟩
end
end DS
namespace DS
open PySem L2

/-! ### statements -/
def PostS (C : DC) (E : Ends) (Hf G : Hp) : Res Flow → Prop
  | .ok .nx ρ => ∀ σ H Hf', Same Hf Hf' → RR C.F Hf' G σ H ρ → E.nx σ H
  | .ok (.rt d) ρ => ∀ v σ H Hf', Same Hf Hf' → RR C.F Hf' G σ H ρ → Rp C.T Hf' d v → E.rt v H
  | .ok (.ro ds) ρ => ∀ p vs σ H Hf', Same Hf Hf' → RR C.F Hf' G σ H ρ → Hf' p = none → G p = none → (∀ i ∈ C.mp, σ[i]? ≠ some (some (.ref p))) → H p = some (.lst vs) → RpA C.T Hf' ds vs → E.rt (.ref p) H
  | .ok .bk ρ => ∀ σ H Hf', Same Hf Hf' → RR C.F Hf' G σ H ρ → E.bk σ H
  | .ok .ct ρ => ∀ σ H Hf', Same Hf Hf' → RR C.F Hf' G σ H ρ → E.ct σ H
  | .ex e ρ => ∀ cls dd σ H Hf', Same Hf Hf' → RR C.F Hf' G σ H ρ → XR C.T Hf' e cls dd → C.W cls dd σ H
  | .no => False
def LS (C : DC) (m : M Flow) : TS := fun E σ H => ∃ Hf G ρ, RR C.F Hf G σ H ρ ∧ PostS C E Hf G (m ρ)
theorem PostS.up {C : DC} {E : Ends} {Hf Hf1 G : Hp} (s : Same Hf Hf1) : ∀ {r : Res Flow}, PostS C E Hf G r → PostS C E Hf1 G r
  | .ok .nx ρ, h => fun σ H Hf' s' => h σ H Hf' (s.trans s')
  | .ok (.rt d) ρ, h => fun v σ H Hf' s' => h v σ H Hf' (s.trans s')
  | .ok (.ro ds) ρ, h => fun p vs σ H Hf' s' => h p vs σ H Hf' (s.trans s')
  | .ok .bk ρ, h => fun σ H Hf' s' => h σ H Hf' (s.trans s')
  | .ok .ct ρ, h => fun σ H Hf' s' => h σ H Hf' (s.trans s')
  | .ex e ρ, h => fun cls dd σ H Hf' s' => h cls dd σ H Hf' (s.trans s')
  | .no, h => h
structure DS (C : DC) (st : Stmt) (m : M Flow) : Prop where
  ps : PS C.X st (LS C m)
structure DSs (C : DC) (st : List Stmt) (m : M Flow) : Prop where
  pss : PSs C.X st (LS C m)
/-- an expression within a statement -/
theorem posts_bind {C : DC} {α β : Type} {rel : Rel β α} {ma : M α} {f : α → M Flow} {Hf G : Hp} {σ : St} {H : Hp} {ρ : Rho} {E : Ends} {R : β → Hp → Prop} (rr : RR C.F Hf G σ H ρ) (h : PostS C E Hf G (bnd ma f ρ))
    (k : ∀ b a H1 Hf1 ρ1, Same Hf Hf1 → RR C.F Hf1 G σ H1 ρ1 → rel Hf1 G σ H1 ρ1 b a → PostS C E Hf1 G (f a ρ1) → R b H1) : Lft C rel ma σ H R := by
  refine ⟨Hf, G, ρ, rr, ?_⟩
  unfold bnd at h
  cases e : ma ρ with
  | ok a ρ1 =>
    rw [e] at h
    exact fun b H1 Hf1 s r1 r => k b a H1 Hf1 ρ1 s r1 r (h.up s)
  | ex x ρ1 => rw [e] at h; exact fun cls dd H1 Hf1 s r1 r => h cls dd σ H1 Hf1 s r1 r
  | no => rw [e] at h; exact h
section
variable {C : DC} {n : Nm} {pos : Pos}
def sq (a b : M Flow) : M Flow := bnd a fun f => match f with
  | .nx => b
  | f => ret f
theorem dss_nil : DSs C [] (ret .nx) := ⟨PSs.imp pss_nil fun E σ H ⟨Hf, G, ρ, rr, h⟩ => h σ H Hf (Same.refl _) rr⟩
theorem dss_cons {st : Stmt} {rest : List Stmt} {a b : M Flow} (h1 : DS C st a) (h2 : DSs C rest b) : DSs C (st :: rest) (sq a b) :=
  ⟨PSs.imp (pss_cons h1.ps h2.pss) fun E σ H ⟨Hf, G, ρ, rr, h⟩ => by
    refine ⟨Hf, G, ρ, rr, ?_⟩
    unfold sq bnd at h
    cases e : a ρ with
    | ok f ρ1 =>
      rw [e] at h
      cases f with
      | nx => exact fun σ1 H1 Hf1 s r1 => ⟨Hf1, G, ρ1, r1, h.up s⟩
      | rt d => exact h
      | ro ds => exact h
      | bk => exact h
      | ct => exact h
    | ex x ρ1 => rw [e] at h; exact h
    | no => rw [e] at h; exact h⟩
theorem dss_one {st : Stmt} {a : M Flow} (h1 : DS C st a) : DSs C [st] a := ⟨pss_one h1.ps⟩
theorem ds_never {st : Stmt} : DS C st stop := ⟨PS.imp ps_never fun E σ H ⟨Hf, G, ρ, rr, h⟩ => h⟩
theorem ds_pass : DS C (.Pass pos) (ret .nx) := ⟨PS.imp ps_pass fun E σ H ⟨Hf, G, ρ, rr, h⟩ => h σ H Hf (Same.refl _) rr⟩
theorem ds_break : DS C (.Break pos) (ret .bk) := ⟨PS.imp ps_break fun E σ H ⟨Hf, G, ρ, rr, h⟩ => h σ H Hf (Same.refl _) rr⟩
theorem ds_continue : DS C (.Continue pos) (ret .ct) := ⟨PS.imp ps_continue fun E σ H ⟨Hf, G, ρ, rr, h⟩ => h σ H Hf (Same.refl _) rr⟩
def rtM (m : M D) : M Flow := bnd m fun d => ret (.rt d)
theorem ds_ret {e : Expr} {m : M D} (h : DE C e m) : DS C (.Return (some e) pos) (rtM m) :=
  ⟨PS.imp (ps_ret h.pe) fun E σ H ⟨Hf, G, ρ, rr, h⟩ => posts_bind rr h fun v d H1 Hf1 ρ1 s r1 r p => p v σ H1 Hf1 (Same.refl _) r1 r⟩
theorem ds_retN : DS C (.Return none pos) (ret (.rt .none)) :=
  ⟨PS.imp ps_retN fun E σ H ⟨Hf, G, ρ, rr, h⟩ => h .non σ H Hf (Same.refl _) rr (by simp only [Rp])⟩
/-- a new list handed back: the caller may change it -/
def roM (m : M (List D)) : M Flow := bnd m fun ds => ret (.ro ds)
theorem ds_retF {e : Expr} {m : M (List D)} (hs : ∀ (Hf G : Hp) (σ : St) (H : Hp) (ρ : Rho) (i : Nat), RR C.F Hf G σ H ρ → i ∈ C.mp → ∃ x, ρ[i]? = some x ∧ owns x = true) (h : DF C e m) : DS C (.Return (some e) pos) (roM m) :=
  ⟨PS.imp (ps_ret h.pe) fun E σ H ⟨Hf, G, ρ, rr, h⟩ => posts_bind rr h fun v d H1 Hf1 ρ1 s r1 ⟨q, vs, e, f, hq, ra⟩ p => by
    subst e
    exact p q vs σ H1 Hf1 (Same.refl _) r1 f.1 f.2.1 (fun i hi => by obtain ⟨x, hx, ho⟩ := hs _ _ _ _ _ i r1 hi; exact f.2.2 i x hx ho) hq ra⟩
def ifM (t : M Bool) (a b : M Flow) : M Flow := bnd t fun c => if c = true then a else b
theorem ds_if {c : Expr} {a b : List Stmt} {tc : M Bool} {ma mb : M Flow} (hc : DT C c tc) (ha : DSs C a ma) (hb : DSs C b mb) : DS C (.If c a b pos) (ifM tc ma mb) :=
  ⟨PS.imp (ps_if hc.pt ha.pss hb.pss) fun E σ H ⟨Hf, G, ρ, rr, h⟩ => posts_bind rr h fun x c H1 Hf1 ρ1 s1 rr1 e p1 => by
    subst e
    cases x with
    | true => rw [if_pos rfl] at p1 ⊢; exact ⟨Hf1, G, ρ1, rr1, p1⟩
    | false => rw [if_neg Bool.false_ne_true] at p1 ⊢; exact ⟨Hf1, G, ρ1, rr1, p1⟩⟩
def exM (m : M D) : M Flow := bnd m fun _ => ret .nx
theorem ds_expr {e : Expr} {m : M D} (h : DE C e m) (hl : noLc e = true) : DS C (.Expr e pos) (exM m) :=
  ⟨PS.imp (ps_expr h.pe (sw_ok h.ok hl _ _ _)) fun E σ H ⟨Hf, G, ρ, rr, h⟩ => posts_bind rr h fun v d H1 Hf1 ρ1 s r1 r p => p σ H1 Hf1 (Same.refl _) r1⟩

/-! ### targets -/
/-- all slots but ws stand -/
def Ag (ws : List Nat) (σ σ' : St) : Prop := σ'.length = σ.length ∧ ∀ i, i ∉ ws → σ'[i]? = σ[i]?
theorem Ag.refl {ws : List Nat} {σ : St} : Ag ws σ σ := ⟨rfl, fun _ _ => rfl⟩
theorem Ag.trans {ws us : List Nat} {σ σ1 σ2 : St} (a : Ag ws σ σ1) (b : Ag us σ1 σ2) : Ag (ws ++ us) σ σ2 := ⟨b.1.trans a.1, fun i hi => by
  rw [List.mem_append, not_or] at hi
  rw [b.2 i hi.2, a.2 i hi.1]⟩
def PostG (C : DC) (ws : List Nat) (Hf G : Hp) (σ : St) (Q : St → Hp → Prop) : Res Unit → Prop
  | .ok _ ρ => ∀ σ' H Hf', Same Hf Hf' → RR C.F Hf' G σ' H ρ → Ag ws σ σ' → Q σ' H
  | _ => False
theorem PostG.up {ws : List Nat} {Hf Hf1 G : Hp} {σ : St} {Q : St → Hp → Prop} (s : Same Hf Hf1) : ∀ {r : Res Unit}, PostG C ws Hf G σ Q r → PostG C ws Hf1 G σ Q r
  | .ok _ ρ, h => fun σ H Hf' s' => h σ H Hf' (s.trans s')
  | .ex e ρ, h => h
  | .no, h => h
def LG (C : DC) (ws : List Nat) (f : D → M Unit) : TG := fun v σ H Q => ∃ Hf G ρ d, RR C.F Hf G σ H ρ ∧ Rp C.T Hf d v ∧ PostG C ws Hf G σ Q (f d ρ)
def LGs (C : DC) (ws : List Nat) (f : List D → M Unit) : TGs := fun vs σ H Q => ∃ Hf G ρ ds, RR C.F Hf G σ H ρ ∧ RpA C.T Hf ds vs ∧ PostG C ws Hf G σ Q (f ds ρ)
structure DG (C : DC) (tg : Expr) (ws : List Nat) (f : D → M Unit) : Prop where
  pg : PG C.X tg (LG C ws f)
structure DGs (C : DC) (tg : List Expr) (ws : List Nat) (f : List D → M Unit) : Prop where
  pg : PGs C.X tg (LGs C ws f)
theorem PG.imp {X : Cx} {e : Expr} {t t' : TG} (h : PG X e t) (k : ∀ v σ H Q, t' v σ H Q → t v σ H Q) : PG X e t' := ⟨fun pins s σ H v u Q I r hw => h.run pins s σ H v u Q I r (k _ _ _ _ hw)⟩
theorem PGs.imp {X : Cx} {e : List Expr} {t t' : TGs} (h : PGs X e t) (k : ∀ v σ H Q, t' v σ H Q → t v σ H Q) : PGs X e t' := ⟨fun pins s σ H v u Q I r hw => h.run pins s σ H v u Q I r (k _ _ _ _ hw)⟩
def st (i : Nat) (d : D) : M Unit := fun ρ => .ok () (ρ.set i (.im d))
theorem dg_name (S : Sc C n) (i : Nat) {x : Str} (hi : i ∈ n.ws) (hx : n.N[i]? = some x) : DG C (.Name x pos) [i] (st i) :=
  ⟨PG.imp (pg_ok S i hi hx) fun v σ H Q ⟨Hf, G, ρ, d, rr, r, h⟩ => h _ H Hf (Same.refl _) (rr.set (S.mpo i hi) r) ⟨by simp, fun j hj => List.getElem?_set_ne (fun e => hj (by simp [e]))⟩⟩
def stN : List D → M Unit
  | [] => ret ()
  | _ => stop
def stC (f : D → M Unit) (g : List D → M Unit) : List D → M Unit
  | d :: ds => bnd (f d) fun _ => g ds
  | [] => stop
theorem dgs_nil : DGs C [] [] stN := ⟨PGs.imp pgs_nil fun vs σ H Q ⟨Hf, G, ρ, ds, rr, r, h⟩ => by
  cases ds with
  | nil => rw [RpA.unnil r]; exact ⟨rfl, h σ H Hf (Same.refl _) rr Ag.refl⟩
  | cons d ds => exact h.elim⟩
theorem dgs_cons {x : Str} {px : Pos} {es : List Expr} {ws us : List Nat} {f : D → M Unit} {g : List D → M Unit} (h1 : DG C (.Name x px) ws f) (h2 : DGs C es us g) : DGs C (.Name x px :: es) (ws ++ us) (stC f g) := ⟨PGs.imp (pgs_cons h1.pg h2.pg) fun vs σ H Q ⟨Hf, G, ρ, ds, rr, r, h⟩ => by
  cases ds with
  | nil => exact h.elim
  | cons d ds =>
    obtain ⟨v, rs, e, q, z⟩ := RpA.uncons r
    subst e
    refine ⟨v, rs, rfl, Hf, G, ρ, d, rr, q, ?_⟩
    have h' : PostG C (ws ++ us) Hf G σ Q (bnd (f d) (fun _ => g ds) ρ) := h
    unfold bnd at h'
    cases e : f d ρ with
    | ok u ρ1 =>
      rw [e] at h'
      refine fun σ1 H1 Hf1 s r1 ag => ⟨Hf1, G, ρ1, ds, r1, RpA.mono s _ _ z, ?_⟩
      cases e2 : g ds ρ1 with
      | ok u2 ρ2 =>
        simp only [e2] at h'
        exact fun σ2 H2 Hf2 s2 r2 ag2 => h' σ2 H2 Hf2 (s.trans s2) r2 (ag.trans ag2)
      | ex x ρ2 => simp only [e2] at h'; exact h'
      | no => simp only [e2] at h'; exact h'
    | ex x ρ1 => rw [e] at h'; exact h'
    | no => rw [e] at h'; exact h'⟩
/-- a tuple taken apart -/
def unT (k : Nat) (f : List D → M Unit) (d : D) : M Unit := match d with
  | .tuple ds => if ds.length = k then f ds else stop
  | _ => stop
theorem dg_tup {es : List Expr} {ws : List Nat} {k2 k : Nat} {f : List D → M Unit} (S : Sc C n) (h : DGs C es ws f) (hn : (assignEach es C.X.env).length = k) (hst : (assignEach es C.X.env).findIdx? (·.1) = none) : DG C (.Tuple es k2 pos) ws (unT k f) :=
  ⟨PG.imp (pg_tup S.calm h.pg hn hst) fun v σ H Q ⟨Hf, G, ρ, d, rr, r, h⟩ => by
    cases d with
    | tuple ds =>
      unfold Rp at r
      obtain ⟨a, xs, e, q, ra⟩ := r
      have h' : PostG C ws Hf G σ Q ((if ds.length = k then f ds else stop) ρ) := h
      by_cases hl : ds.length = k
      · rw [if_pos hl] at h'
        exact ⟨a, xs, e, Same.sqT rr.fz q, by rw [RpA.length ra]; exact hl, Hf, G, ρ, ds, rr, ra, h'⟩
      · rw [if_neg hl] at h'; exact h'.elim
    | none => exact h.elim
    | bool b => exact h.elim
    | int i => exact h.elim
    | str x => exact h.elim
    | list ds => exact h.elim
    | dict kvs => exact h.elim⟩
theorem dg_tup2 {x y : Str} {px py : Pos} {ws us : List Nat} {k2 : Nat} {f g : D → M Unit} (S : Sc C n) (h1 : DG C (.Name x px) ws f) (h2 : DG C (.Name y py) us g) : DG C (.Tuple [.Name x px, .Name y py] k2 pos) (ws ++ (us ++ [])) (unT 2 (stC f (stC g stN))) :=
  dg_tup S (dgs_cons h1 (dgs_cons h2 dgs_nil)) rfl rfl
theorem dg_tup3 {x y z : Str} {px py pz : Pos} {ws us ts : List Nat} {k2 : Nat} {f g h : D → M Unit} (S : Sc C n) (h1 : DG C (.Name x px) ws f) (h2 : DG C (.Name y py) us g) (h3 : DG C (.Name z pz) ts h) : DG C (.Tuple [.Name x px, .Name y py, .Name z pz] k2 pos) (ws ++ (us ++ (ts ++ []))) (unT 3 (stC f (stC g (stC h stN)))) :=
  dg_tup S (dgs_cons h1 (dgs_cons h2 (dgs_cons h3 dgs_nil))) rfl rfl

/-! ### assignments -/
def notTup : Expr → Bool
  | .Tuple .. => false
  | _ => true
def asM (m : M D) (f : D → M Unit) : M Flow := bnd m fun d => fun ρ => match f d ρ with
  | .ok _ ρ1 => .ok .nx ρ1
  | _ => .no
theorem lg_asg {ws : List Nat} {m : M D} {f : D → M Unit} : ∀ E σ H, LS C (asM m f) E σ H → tAsg (Lft C (relE C.T) m) (LG C ws f) E σ H := fun E σ H ⟨Hf, G, ρ, rr, h⟩ => posts_bind rr h fun v d H1 Hf1 ρ1 s r1 r p => by
  refine ⟨Hf1, G, ρ1, d, r1, r, ?_⟩
  cases e : f d ρ1 with
  | ok u ρ2 => simp only [e] at p; exact fun σ2 H2 Hf2 s2 r2 _ => p σ2 H2 Hf2 s2 r2
  | ex x ρ2 => simp only [e] at p; exact p
  | no => simp only [e] at p; exact p
theorem ds_set {e : Expr} {m : M D} {x : Str} {px : Pos} (S : Sc C n) (i : Nat) (hi : i ∈ n.ws) (hx : n.N[i]? = some x) (h : DE C e m) (hl : noLc e = true) : DS C (.Assign [.Name x px] e pos) (asM m (st i)) :=
  ⟨PS.imp (ps_asg h.pe (dg_name (pos := px) S i hi hx).pg (sws_ok h.ok hl _ _ _) (by cases e <;> rfl) rfl) lg_asg⟩
theorem ds_untup {e : Expr} {m : M D} {es : List Expr} {k2 : Nat} {px : Pos} {ws : List Nat} {f : D → M Unit} (g : DG C (.Tuple es k2 px) ws f) (h : DE C e m) (hl : noLc e = true) (ht : notTup e = true) : DS C (.Assign [.Tuple es k2 px] e pos) (asM m f) :=
  ⟨PS.imp (ps_asg h.pe g.pg (sws_ok h.ok hl _ _ _) (by cases e <;> first | rfl | cases ht) rfl) lg_asg⟩
/-- a name takes a new list of its own -/
def soM (m : M (List D)) (i : Nat) : M Flow := bnd m fun ds => fun ρ => .ok .nx (ρ.set i (.ml ds))
theorem so_asg (S : Sc C n) {i : Nat} (hi : i ∈ n.ws) {m : M (List D)} : ∀ E σ H, LS C (soM m i) E σ H → tAsg (Lft C (relF C.T) m) (gName i) E σ H := fun E σ H ⟨Hf, G, ρ, rr, h⟩ => posts_bind rr h fun v ds H1 Hf1 ρ1 s r1 ⟨p, vs, e, f, hp, ra⟩ q => by
  subst e
  exact q _ H1 Hf1 (Same.refl _) (r1.setO (S.mpo i hi) f ⟨p, vs, rfl, f.1, f.2.1, hp, ra⟩)
theorem ds_setF {e : Expr} {m : M (List D)} {x : Str} {px : Pos} (S : Sc C n) (i : Nat) (hi : i ∈ n.ws) (hx : n.N[i]? = some x) (h : DF C e m) (hl : noLc e = true) : DS C (.Assign [.Name x px] e pos) (soM m i) :=
  ⟨PS.imp (ps_asg h.pe (pg_ok S i hi hx) (sws_ok h.ok hl _ _ _) (by cases e <;> rfl) rfl) (so_asg S hi)⟩

/-! ### loops -/
def ItOk (T : Wd) (Hf : Hp) (J : It) (ds : List D) : Prop :=
  (∀ i H, Same Hf H → i < ds.length → J.go i H) ∧
  (∀ (i : Nat) H x H' d, Same Hf H → ds[i]? = some d → J.yld i H x H' → (H' = H ∧ Rp T Hf d x) ∨ ∃ p o, H p = none ∧ H' = upd H p o ∧ Rp T (upd Hf p o) d x) ∧
  (∀ H, Same Hf H → J.stop ds.length H)
abbrev relI (T : Wd) : Rel It (List D) := fun Hf _ _ _ _ J ds => ItOk T Hf J ds
structure DI (C : DC) (tg e : Expr) (m : M (List D)) : Prop where
  pi : PI C.X tg e (Lft C (relI C.T) m)
  ok : okE e = true
def forM (f : D → M Unit) (b : M Flow) : List D → M Flow
  | [] => ret .nx
  | d :: ds => fun ρ => match f d ρ with
    | .ok _ ρ1 => (match b ρ1 with
      | .ok .nx ρ2 => forM f b ds ρ2
      | .ok .ct ρ2 => forM f b ds ρ2
      | .ok .bk ρ2 => .ok .nx ρ2
      | r => r)
    | _ => .no
def forS (m : M (List D)) (f : D → M Unit) (b : M Flow) : M Flow := bnd m (forM f b)
theorem Same.updB {H H' : Hp} {p : Addr} {o : HO} (s : Same H H') : Same (upd H p o) (upd H' p o) := fun b u e => by
  by_cases hb : b = p
  · subst hb; rw [upd_same] at e ⊢; exact e
  · rw [upd_ne hb] at e ⊢; exact s b u e
theorem ItOk.step {F : Fx} {Hf0 Hf G H H' : Hp} {σ : St} {ρ : Rho} {J : It} {ds : List D} {i : Nat} {x : V} {d : D} (k : ItOk F.T Hf0 J ds) (s : Same Hf0 Hf) (rr : RR F Hf G σ H ρ) (e : ds[i]? = some d) (y : J.yld i H x H') :
    ∃ Hf', Same Hf Hf' ∧ RR F Hf' G σ H' ρ ∧ Rp F.T Hf' d x := by
  rcases k.2.1 i H x H' d (s.trans rr.fz) e y with ⟨e, r⟩ | ⟨p, o, hp, e, r⟩
  · subst e; exact ⟨Hf, Same.refl _, rr, Rp.mono s _ _ r⟩
  · subst e; exact ⟨upd Hf p o, rr.sameN hp, rr.new hp, Rp.mono (Same.updB s) _ _ r⟩
theorem ds_for {tg it : Expr} {body : List Stmt} {ws : List Nat} {mi : M (List D)} {f : D → M Unit} {b : M Flow} (S : Sc C n) (hi : DI C tg it mi) (hg : DG C tg ws f) (hb : DSs C body b) : DS C (.For tg it body [] pos) (forS mi f b) :=
  ⟨PS.imp (ps_for S.po S.calm hi.pi hg.pg hb.pss (fold_ok hi.ok _)) fun E σ H ⟨Hf, G, ρ, rr, h⟩ => posts_bind rr h fun J ds H1 Hf1 ρ1 s1 r1 k p => by
    refine ⟨fun i m σ H => m = ds.length - i ∧ i ≤ ds.length ∧ ∃ Hf' ρ', Same Hf1 Hf' ∧ RR C.F Hf' G σ H ρ' ∧ PostS C E Hf' G (forM f b (ds.drop i) ρ'), ⟨_, rfl, Nat.zero_le _, Hf1, ρ1, Same.refl _, r1, p⟩, ?_⟩
    rintro i m σ2 H2 ⟨rfl, hi, Hf2, ρ2, s2, r2, p2⟩
    by_cases hlt : i < ds.length
    · refine .inr ⟨k.1 i H2 (s2.trans r2.fz) hlt, fun σ' H' => ∃ Hf' ρ', Same Hf1 Hf' ∧ RR C.F Hf' G σ' H' ρ' ∧ PostS C E Hf' G (forM f b (ds.drop (i + 1)) ρ'), fun σ' H' z => ⟨ds.length - (i + 1), by omega, rfl, hlt, z⟩, fun x H3 y => ?_⟩
      have hd : ds.drop i = ds[i] :: ds.drop (i + 1) := List.drop_eq_getElem_cons hlt
      rw [hd] at p2
      obtain ⟨Hf3, s3, r3, rp⟩ := ItOk.step k s2 r2 (List.getElem?_eq_getElem hlt) y
      refine ⟨Hf3, G, ρ2, ds[i], r3, rp, ?_⟩
      unfold forM at p2
      cases e : f ds[i] ρ2 with
      | ok u ρ3 =>
        simp only [e] at p2
        refine fun σ4 H4 Hf4 s4 r4 _ => ⟨Hf4, G, ρ3, r4, ?_⟩
        have s14 : Same Hf1 Hf4 := s2.trans (s3.trans s4)
        have s24 : Same Hf2 Hf4 := s3.trans s4
        cases e2 : b ρ3 with
        | ok fl ρ4 =>
          cases fl with
          | nx => simp only [e2] at p2; exact fun σ5 H5 Hf5 s5 r5 => ⟨Hf5, ρ4, s14.trans s5, r5, p2.up (s24.trans s5)⟩
          | ct => simp only [e2] at p2; exact fun σ5 H5 Hf5 s5 r5 => ⟨Hf5, ρ4, s14.trans s5, r5, p2.up (s24.trans s5)⟩
          | bk => simp only [e2] at p2; exact fun σ5 H5 Hf5 s5 r5 => p2 σ5 H5 Hf5 (s24.trans s5) r5
          | rt d => simp only [e2] at p2; exact (PostS.up s24 p2)
          | ro d => simp only [e2] at p2; exact (PostS.up s24 p2)
        | ex x ρ4 => simp only [e2] at p2; exact (PostS.up s24 p2)
        | no => simp only [e2] at p2; exact p2
      | ex x ρ3 => simp only [e] at p2; exact p2
      | no => simp only [e] at p2; exact p2
    · have e : i = ds.length := by omega
      subst e
      rw [List.drop_length] at p2
      exact .inl ⟨k.2.2 H2 (s2.trans r2.fz), p2 σ2 H2 Hf2 (Same.refl _) r2⟩⟩
def whM (t : M Bool) (b : M Flow) : Nat → M Flow
  | 0 => stop
  | k + 1 => bnd t fun c => if c = true then (fun ρ => match b ρ with
      | .ok .nx ρ2 => whM t b k ρ2
      | .ok .ct ρ2 => whM t b k ρ2
      | .ok .bk ρ2 => .ok .nx ρ2
      | r => r) else ret .nx
theorem ds_while {c : Expr} {body : List Stmt} {t : M Bool} {b : M Flow} (S : Sc C n) (hc : DT C c t) (hb : DSs C body b) (k : Nat) : DS C (.While c body [] pos) (whM t b k) :=
  ⟨PS.imp (ps_while S.po hc.pt hb.pss) fun E σ H ⟨Hf, G, ρ, rr, h⟩ => by
    refine ⟨fun m σ H => ∃ Hf' ρ', RR C.F Hf' G σ H ρ' ∧ PostS C E Hf' G (whM t b m ρ'), ⟨k, Hf, ρ, rr, h⟩, ?_⟩
    rintro m σ1 H1 ⟨Hf1, ρ1, r1, p1⟩
    cases m with
    | zero => exact p1.elim
    | succ m =>
      unfold whM at p1
      refine posts_bind r1 p1 fun x c H2 Hf2 ρ2 s2 r2 e p2 => ?_
      subst e
      cases x with
      | false => rw [if_neg Bool.false_ne_true] at p2 ⊢; exact p2 σ1 H2 Hf2 (Same.refl _) r2
      | true =>
        rw [if_pos rfl] at p2 ⊢
        refine ⟨fun σ' H' => ∃ Hf' ρ', RR C.F Hf' G σ' H' ρ' ∧ PostS C E Hf' G (whM t b m ρ'), fun σ' H' z => ⟨m, Nat.lt_succ_self m, z⟩, Hf2, G, ρ2, r2, ?_⟩
        cases e2 : b ρ2 with
        | ok fl ρ4 =>
          cases fl with
          | nx => simp only [e2] at p2; exact fun σ5 H5 Hf5 s5 r5 => ⟨Hf5, ρ4, r5, p2.up s5⟩
          | ct => simp only [e2] at p2; exact fun σ5 H5 Hf5 s5 r5 => ⟨Hf5, ρ4, r5, p2.up s5⟩
          | bk => simp only [e2] at p2; exact p2
          | rt d => simp only [e2] at p2; exact p2
          | ro d => simp only [e2] at p2; exact p2
        | ex x ρ4 => simp only [e2] at p2; exact p2
        | no => simp only [e2] at p2; exact p2⟩
end
end DS
namespace DS
open PySem L2
noncomputable section
/-- a line that is never run, only said -/
def big (P : Prop) : Bool := @decide P (Classical.propDecidable P)
@[simp] theorem big_iff (P : Prop) : (big P = true) = P := by unfold big; exact propext (@decide_eq_true_iff P (Classical.propDecidable P))
theorem of_big {P : Prop} (h : big P = true) : P := by rwa [big_iff] at h
theorem big_ok {P : Prop} (h : P) : big P = true := by rwa [big_iff]
variable {C : DC}
/-! ### inversions -/
theorem rpt_int {T : Wd} {Hf H : Hp} {i : Int} {v : V} (h : RpT T Hf H (.int i) v) : v = .int i := by
  have h : Rp T Hf (.int i) v := h
  simpa only [Rp] using h
theorem rpt_bool {T : Wd} {Hf H : Hp} {b : Bool} {v : V} (h : RpT T Hf H (.bool b) v) : v = .bl b := by
  have h : Rp T Hf (.bool b) v := h
  simpa only [Rp] using h
theorem rpt_none {T : Wd} {Hf H : Hp} {v : V} (h : RpT T Hf H .none v) : v = .non := by
  have h : Rp T Hf .none v := h
  simpa only [Rp] using h
theorem rpt_str {T : Wd} {Hf H : Hp} {x : Str} {v : V} (h : RpT T Hf H (.str x) v) : v = .str x ∧ PyData.strOk x = true := by
  have h : Rp T Hf (.str x) v := h
  simpa only [Rp] using h
theorem rpt_list {T : Wd} {Hf H : Hp} {ds : List D} {v : V} (h : RpT T Hf H (.list ds) v) : ∃ a xs, v = .ref a ∧ SqL T.K H a xs ∧ RpA T Hf ds xs := h
theorem rpt_tuple {T : Wd} {Hf H : Hp} {ds : List D} {v : V} (h : RpT T Hf H (.tuple ds) v) : ∃ a xs, v = .ref a ∧ SqT T.K Hf a xs ∧ RpA T Hf ds xs := by
  have h : Rp T Hf (.tuple ds) v := h
  simpa only [Rp] using h
theorem rp_int {T : Wd} {Hf : Hp} (i : Int) : Rp T Hf (.int i) (.int i) := by simp only [Rp]
theorem rp_bool {T : Wd} {Hf : Hp} (b : Bool) : Rp T Hf (.bool b) (.bl b) := by simp only [Rp]
theorem rp_none {T : Wd} {Hf : Hp} : Rp T Hf .none .non := by simp only [Rp]
theorem rp_str {T : Wd} {Hf : Hp} {x : Str} (h : PyData.strOk x = true) : Rp T Hf (.str x) (.str x) := by unfold Rp; exact ⟨rfl, h⟩
theorem rp_list {T : Wd} {Hf : Hp} {a : Addr} {xs : List V} {ds : List D} (h : SqL T.K Hf a xs) (r : RpA T Hf ds xs) : Rp T Hf (.list ds) (.ref a) := by unfold Rp; exact ⟨a, xs, rfl, h, r⟩
theorem rp_tuple {T : Wd} {Hf : Hp} {a : Addr} {xs : List V} {ds : List D} (h : SqT T.K Hf a xs) (r : RpA T Hf ds xs) : Rp T Hf (.tuple ds) (.ref a) := by unfold Rp; exact ⟨a, xs, rfl, h, r⟩

/-- a new tuple -/
theorem new_tup {Hf G : Hp} {σ : St} {H : Hp} {ρ : Rho} {ds : List D} {vs : List V} {Q : VK} (rr : RR C.F Hf G σ H ρ) (ra : RpA C.T Hf ds vs) (q : ∀ v H' Hf', Same Hf Hf' → RR C.F Hf' G σ H' ρ → Rp C.T Hf' (.tuple ds) v → Q v H') (p : Addr) (hp : H p = none) : Q (.ref p) (upd H p (.tup vs)) :=
  q _ _ _ (rr.sameN hp) (rr.new hp) (rp_tuple (SqT.of upd_same) (RpA.mono (rr.sameN hp) _ _ ra))
theorem new_lst {Hf G : Hp} {σ : St} {H : Hp} {ρ : Rho} {ds : List D} {vs : List V} {Q : VK} (rr : RR C.F Hf G σ H ρ) (ra : RpA C.T Hf ds vs) (q : ∀ v H' Hf', Same Hf Hf' → RR C.F Hf' G σ H' ρ → Rp C.T Hf' (.list ds) v → Q v H') (p : Addr) (hp : H p = none) : Q (.ref p) (upd H p (.lst vs)) :=
  q _ _ _ (rr.sameN hp) (rr.new hp) (rp_list (SqL.of upd_same) (RpA.mono (rr.sameN hp) _ _ ra))
/-- a new list, not frozen -/
theorem new_own {Hf G : Hp} {σ : St} {H : Hp} {ρ : Rho} {ds : List D} {vs : List V} {Q : VK} (rr : RR C.F Hf G σ H ρ) (ra : RpA C.T Hf ds vs) (q : ∀ v H' Hf', Same Hf Hf' → RR C.F Hf' G σ H' ρ → relF C.T Hf' G σ H' ρ v ds → Q v H') (p : Addr) (hp : H p = none) : Q (.ref p) (upd H p (.lst vs)) :=
  q _ _ Hf (Same.refl _) (rr.grow (Same.updN hp)) ⟨p, vs, rfl, rr.fresh hp, upd_same, ra⟩

/-! ### arithmetic -/
theorem opd_int {f : Value → Value → Sem Value} {c : Int → Int → Prop} {k : Int → Int → V} {g : D → D → Option D} (ho : OpR C.X f (rI c k))
    (hg : ∀ a b d, g a b = some d → ∃ i j e, a = .int i ∧ b = .int j ∧ c i j ∧ d = e ∧ ∀ T Hf, Rp T Hf e (k i j)) : OpD C f g :=
  ⟨_, ho, fun Hf G σ H ρ x y a b d Q rr ra rb e q => by
    obtain ⟨i, j, z, rfl, rfl, hc, rfl, r⟩ := hg a b d e
    exact ⟨i, j, rpt_int ra, rpt_int rb, hc, q _ H Hf (Same.refl _) rr (r _ _)⟩⟩
def subD : D → D → Option D
  | .int i, .int j => some (.int (i - j))
  | _, _ => none
def modD : D → D → Option D
  | .int i, .int j => if 0 < j then some (.int (i % j)) else none
  | _, _ => none
def divD : D → D → Option D
  | .int i, .int j => if big (0 < j ∧ j < 1073741824) then some (.int (i / j)) else none
  | _, _ => none
def powD : D → D → Option D
  | .int i, .int j => if big (0 ≤ j ∧ j ≤ 1000000 ∧ i.natAbs < 2 ^ 64) then some (.int (i ^ j.toNat)) else none
  | _, _ => none
theorem rI0_rI {X : Cx} {f : Value → Value → Sem Value} {k : Int → Int → V} (h : OpR X f (rI0 k)) : OpR X f (rI (fun _ _ => True) k) := fun pins s σ H x y v u Q I rx ry ⟨i, j, e1, e2, _, q⟩ => h pins s σ H x y v u Q I rx ry ⟨i, j, e1, e2, q⟩
theorem o_sub : OpD C (binaryOp .Sub) subD := opd_int (rI0_rI op_sub) fun a b d h => by
  unfold subD at h
  split at h
  · cases h; exact ⟨_, _, _, rfl, rfl, trivial, rfl, fun _ _ => rp_int _⟩
  · cases h
theorem o_mod : OpD C (binaryOp .Mod) modD := opd_int op_mod fun a b d h => by
  unfold modD at h
  split at h
  · split at h
    · cases h; exact ⟨_, _, _, rfl, rfl, by assumption, rfl, fun _ _ => rp_int _⟩
    · cases h
  · cases h
theorem o_div : OpD C (binaryOp .FloorDiv) divD := opd_int op_fdiv fun a b d h => by
  unfold divD at h
  split at h
  · split at h
    · cases h; exact ⟨_, _, _, rfl, rfl, of_big (by assumption), rfl, fun _ _ => rp_int _⟩
    · cases h
  · cases h
theorem o_pow : OpD C (binaryOp .Pow) powD := opd_int op_pow fun a b d h => by
  unfold powD at h
  split at h
  · split at h
    · cases h; exact ⟨_, _, _, rfl, rfl, of_big (by assumption), rfl, fun _ _ => rp_int _⟩
    · cases h
  · cases h
/-- + of numbers, texts, lists, tuples -/
def addD : D → D → Option D
  | .int i, .int j => some (.int (i + j))
  | .str a, .str b => if a.length + b.length ≤ sizeLine then some (.str (a ++ b)) else none
  | .list a, .list b => if a.length + b.length ≤ sizeLine then some (.list (a ++ b)) else none
  | .tuple a, .tuple b => if a.length + b.length ≤ sizeLine then some (.tuple (a ++ b)) else none
  | _, _ => none
def rCatL (K : PySem.W.Frag) : R2 := fun x y H Q => ∃ l b xs zs, x = .ref l ∧ y = .ref b ∧ SqL K H l xs ∧ SqL K H b zs ∧ xs.length + zs.length ≤ sizeLine ∧ ∀ p, H p = none → Q (.ref p) (upd H p (.lst (xs ++ zs)))
theorem op_catL {X : Cx} : OpR X (binaryOp .Add) (rCatL X.K) := by
  intro pins s σ H x y v u Q I rx ry h
  obtain ⟨l, b, xs, zs, rfl, rfl, hH, hB, hz, q⟩ := h
  cases rx
  cases ry
  obtain ⟨its, r, pl, z⟩ := I.list hH
  obtain ⟨its2, r2, pl2, z2⟩ := I.list hB
  have hl := r.length
  have hl2 := r2.length
  obtain ⟨⟨c1, d1, t1, k1⟩, g1, e1, n1, f1⟩ := pl.isList
  obtain ⟨⟨c2, d2, t2, k2⟩, g2, e2, n2, f2⟩ := pl2.isList
  simp only at e1 f1 e2 f2
  subst e1 f1 e2 f2
  refine PySem.concat_meets ⟨_, g1, rfl⟩ ⟨_, g2, rfl⟩ noFill_list_add seq_list_add PySem.F.slot_list_add PySem.F.entry_list_add (PySem.F.args_list_add_2 _ _)
    (PyProof.Rows.list_addW l b its.toArray its2.toArray n1 n2 d1 d2 k1 k2 (by rw [List.size_toArray, List.size_toArray]; omega)) ⟨g1, g2, ?_⟩
  rw [show its.toArray ++ its2.toArray = (its ++ its2).toArray by simp]
  exact ⟨.ref _, _, I.lnew (t' := s.toks) (r.append r2) (by rw [List.length_append]; omega), rfl, q _ I.fresh⟩
theorem strOk_app {a b : Str} (h1 : PyData.strOk a = true) (h2 : PyData.strOk b = true) : PyData.strOk (a ++ b) = true := by
  unfold PyData.strOk at *
  have e : (a ++ b).cps = a.cps ++ b.cps := rfl
  rw [e, Array.all_append, h1, h2]; rfl
theorem o_add : OpD C (binaryOp .Add) addD :=
  ⟨_, op_add.or (op_add_str.or (op_catL.or op_catA)), fun Hf G σ H ρ x y a b d Q rr ra rb e q => by
    unfold addD at e
    split at e
    · cases e
      exact .inl ⟨_, _, rpt_int ra, rpt_int rb, q _ H Hf (Same.refl _) rr (rp_int _)⟩
    · split at e
      · cases e
        obtain ⟨e1, k1⟩ := rpt_str ra
        obtain ⟨e2, k2⟩ := rpt_str rb
        exact .inr (.inl ⟨_, _, e1, e2, by assumption, q _ H Hf (Same.refl _) rr (rp_str (strOk_app k1 k2))⟩)
      · cases e
    · split at e
      · rename_i hl
        cases e
        obtain ⟨p1, xs, e1, s1, r1⟩ := rpt_list ra
        obtain ⟨p2, ys, e2, s2, r2⟩ := rpt_list rb
        refine .inr (.inr (.inl ⟨p1, p2, xs, ys, e1, e2, s1, s2, by rw [RpA.length r1, RpA.length r2]; exact hl, new_lst rr (RpA.append r1 r2) q⟩))
      · cases e
    · split at e
      · rename_i hl
        cases e
        obtain ⟨p1, xs, e1, s1, r1⟩ := rpt_tuple ra
        obtain ⟨p2, ys, e2, s2, r2⟩ := rpt_tuple rb
        refine .inr (.inr (.inr ⟨p1, p2, xs, ys, e1, e2, Same.sqT rr.fz s1, Same.sqT rr.fz s2, by rw [RpA.length r1, RpA.length r2]; exact hl, fun z => ?_, fun _ z => ?_, fun _ _ => new_tup rr (RpA.append r1 r2) q⟩))
        · subst z
          have : ∀ as : List D, RpA C.T Hf as [] → as = [] := fun as h => by
            have := RpA.length h
            cases as with
            | nil => rfl
            | cons _ _ => cases this
          rw [this _ r1] at q
          exact q _ H Hf (Same.refl _) rr (rp_tuple s2 r2)
        · subst z
          have : ∀ as : List D, RpA C.T Hf as [] → as = [] := fun as h => by
            have := RpA.length h
            cases as with
            | nil => rfl
            | cons _ _ => cases this
          rw [this _ r2, List.append_nil] at q
          exact q _ H Hf (Same.refl _) rr (rp_tuple s1 r1)
      · cases e
    · cases e⟩

/-! ### data without objects of one's own -/
mutual
def noObj : D → Bool
  | .none => true | .bool _ => true | .int _ => true | .str _ => true
  | .list ds => noObjA ds
  | .tuple ds => noObjA ds
  | .dict _ => false
def noObjA : List D → Bool
  | [] => true
  | d :: ds => noObj d && noObjA ds
end
mutual
theorem Rp.lay {T : Wd} {H : Hp} : ∀ (d : D) (v : V), Rp T H d v → noObj d = true → d.canLay0 = true ∧ Dp T.K H v d
  | .none, v, h, _ => by
    simp only [Rp] at h; subst h; exact ⟨rfl, .non⟩
  | .bool b, v, h, _ => by
    simp only [Rp] at h; subst h; exact ⟨rfl, .bl b⟩
  | .int i, v, h, _ => by
    simp only [Rp] at h; subst h; exact ⟨rfl, .int i⟩
  | .str x, v, h, _ => by
    simp only [Rp] at h
    obtain ⟨e, k⟩ := h
    subst e
    exact ⟨by simpa only [PyData.canLay0] using k, .str x⟩
  | .list ds, v, h, n => by
    simp only [Rp] at h
    obtain ⟨a, xs, e, q, r⟩ := h
    subst e
    obtain ⟨z1, z2⟩ := RpA.lay ds xs r (by simpa only [noObj] using n)
    exact ⟨by simpa only [PyData.canLay0] using z1, .lst q z2⟩
  | .tuple ds, v, h, n => by
    simp only [Rp] at h
    obtain ⟨a, xs, e, q, r⟩ := h
    subst e
    obtain ⟨z1, z2⟩ := RpA.lay ds xs r (by simpa only [noObj] using n)
    exact ⟨by simpa only [PyData.canLay0] using z1, .tup q z2⟩
  | .dict kvs, v, h, n => by simp only [noObj] at n; cases n
theorem RpA.lay {T : Wd} {H : Hp} : ∀ (ds : List D) (vs : List V), RpA T H ds vs → noObjA ds = true → PyData.canLayAll0 ds = true ∧ DpAll T.K H vs ds
  | [], vs, h, _ => by rw [RpA.unnil h]; exact ⟨rfl, .nil⟩
  | d :: ds, vs, h, n => by
    obtain ⟨v, r, e, q, z⟩ := RpA.uncons h
    subst e
    simp only [noObjA, Bool.and_eq_true] at n
    obtain ⟨a1, a2⟩ := Rp.lay d v q n.1
    obtain ⟨b1, b2⟩ := RpA.lay ds r z n.2
    exact ⟨by simp only [PyData.canLayAll0, a1, b1, Bool.and_self], .cons a2 b2⟩
end
theorem RpT.dp {T : Wd} {Hf H : Hp} {d : D} {v : V} (s : Same Hf H) (h : RpT T Hf H d v) (n : noObj d = true) : d.canLay0 = true ∧ Dp T.K H v d := Rp.lay d v (RpT.low s h) n
/-! ### ==, != -/
def cmpOk (a b : D) : Bool := decide (min a.depth b.depth ≤ 64) && noObj a && noObj b
def eqD (a b : D) : Option D := if cmpOk a b then some (.bool (PyData.eqv a b)) else none
def neD (a b : D) : Option D := if cmpOk a b then some (.bool (!PyData.eqv a b)) else none
def rEqL (K : PySem.W.Frag) : R2 := fun x y H Q => ∃ d e, Dp K H x d ∧ Dp K H y e ∧ d.canLay0 = true ∧ e.canLay0 = true ∧ min d.depth e.depth ≤ 64 ∧ Q (.bl (PyData.eqv d e)) H
def rNeL (K : PySem.W.Frag) : R2 := fun x y H Q => ∃ d e, Dp K H x d ∧ Dp K H y e ∧ d.canLay0 = true ∧ e.canLay0 = true ∧ min d.depth e.depth ≤ 64 ∧ Q (.bl (!PyData.eqv d e)) H
theorem op_eqL {X : Cx} (hu : X.A.units + 65 < cLine) : OpR X (compareOp .Eq) (rEqL X.K) := by
  intro pins s σ H x y v u Q I rx ry h
  obtain ⟨d, e, hd, he, sd, se, hm, q⟩ := h
  obtain ⟨as, r1⟩ := Dp.reads I d x v hd rx
  obtain ⟨bs, r2⟩ := Dp.reads I e y u he ry
  exact SeqAt.compareEq_reads r1 r2 sd se (by omega) ⟨.bl _, H, I, rfl, q⟩
theorem op_neL {X : Cx} (hu : X.A.units + 65 < cLine) : OpR X (compareOp .NotEq) (rNeL X.K) := by
  intro pins s σ H x y v u Q I rx ry h
  obtain ⟨d, e, hd, he, sd, se, hm, q⟩ := h
  obtain ⟨as, r1⟩ := Dp.reads I d x v hd rx
  obtain ⟨bs, r2⟩ := Dp.reads I e y u he ry
  exact SeqAt.compareNe_reads r1 r2 sd se (by omega) ⟨.bl _, H, I, rfl, q⟩
theorem Sc.units {n : Nm} (S : Sc C n) : C.X.A.units + 65 < cLine := by have := S.room.un; omega
theorem o_eq {n : Nm} (S : Sc C n) : OpD C (compareOp .Eq) eqD :=
  ⟨_, op_eqL S.units, fun Hf G σ H ρ x y a b d Q rr ra rb e q => by
    unfold eqD cmpOk at e
    split at e
    · rename_i hc
      simp only [Bool.and_eq_true, decide_eq_true_eq] at hc
      cases e
      obtain ⟨a1, a2⟩ := ra.dp rr.fz hc.1.2
      obtain ⟨b1, b2⟩ := rb.dp rr.fz hc.2
      exact ⟨a, b, a2, b2, a1, b1, hc.1.1, q _ H Hf (Same.refl _) rr (rp_bool _)⟩
    · cases e⟩
theorem o_ne {n : Nm} (S : Sc C n) : OpD C (compareOp .NotEq) neD :=
  ⟨_, op_neL S.units, fun Hf G σ H ρ x y a b d Q rr ra rb e q => by
    unfold neD cmpOk at e
    split at e
    · rename_i hc
      simp only [Bool.and_eq_true, decide_eq_true_eq] at hc
      cases e
      obtain ⟨a1, a2⟩ := ra.dp rr.fz hc.1.2
      obtain ⟨b1, b2⟩ := rb.dp rr.fz hc.2
      exact ⟨a, b, a2, b2, a1, b1, hc.1.1, q _ H Hf (Same.refl _) rr (rp_bool _)⟩
    · cases e⟩
/-! ### <, <=, >, >= of numbers and texts -/
def ltD : D → D → Option D
  | .int i, .int j => some (.bool (decide (i < j)))
  | .str a, .str b => some (.bool (decide (a.cps.toList < b.cps.toList)))
  | _, _ => none
def leD : D → D → Option D
  | .int i, .int j => some (.bool (decide (i ≤ j)))
  | .str a, .str b => some (.bool (!decide (b.cps.toList < a.cps.toList)))
  | _, _ => none
def gtD : D → D → Option D
  | .int i, .int j => some (.bool (decide (j < i)))
  | .str a, .str b => some (.bool (decide (b.cps.toList < a.cps.toList)))
  | _, _ => none
def geD : D → D → Option D
  | .int i, .int j => some (.bool (decide (j ≤ i)))
  | .str a, .str b => some (.bool (!decide (a.cps.toList < b.cps.toList)))
  | _, _ => none
theorem o_lt : OpD C (compareOp .Lt) ltD :=
  ⟨_, op_lt.or op_lt_str, fun Hf G σ H ρ x y a b d Q rr ra rb e q => by
    unfold ltD at e
    split at e
    · cases e; exact .inl ⟨_, _, rpt_int ra, rpt_int rb, q _ H Hf (Same.refl _) rr (rp_bool _)⟩
    · cases e; exact .inr ⟨_, _, (rpt_str ra).1, (rpt_str rb).1, q _ H Hf (Same.refl _) rr (rp_bool _)⟩
    · cases e⟩
theorem o_le : OpD C (compareOp .LtE) leD :=
  ⟨_, op_le.or op_le_str, fun Hf G σ H ρ x y a b d Q rr ra rb e q => by
    unfold leD at e
    split at e
    · cases e; exact .inl ⟨_, _, rpt_int ra, rpt_int rb, q _ H Hf (Same.refl _) rr (rp_bool _)⟩
    · cases e; exact .inr ⟨_, _, (rpt_str ra).1, (rpt_str rb).1, q _ H Hf (Same.refl _) rr (rp_bool _)⟩
    · cases e⟩
theorem o_gt : OpD C (compareOp .Gt) gtD :=
  ⟨_, op_gt.or op_gt_str, fun Hf G σ H ρ x y a b d Q rr ra rb e q => by
    unfold gtD at e
    split at e
    · cases e; exact .inl ⟨_, _, rpt_int ra, rpt_int rb, q _ H Hf (Same.refl _) rr (rp_bool _)⟩
    · cases e; exact .inr ⟨_, _, (rpt_str ra).1, (rpt_str rb).1, q _ H Hf (Same.refl _) rr (rp_bool _)⟩
    · cases e⟩
theorem o_ge : OpD C (compareOp .GtE) geD :=
  ⟨_, op_ge.or op_ge_str, fun Hf G σ H ρ x y a b d Q rr ra rb e q => by
    unfold geD at e
    split at e
    · cases e; exact .inl ⟨_, _, rpt_int ra, rpt_int rb, q _ H Hf (Same.refl _) rr (rp_bool _)⟩
    · cases e; exact .inr ⟨_, _, (rpt_str ra).1, (rpt_str rb).1, q _ H Hf (Same.refl _) rr (rp_bool _)⟩
    · cases e⟩
/-! ### is None, is True -/
def isNone : D → Bool
  | .none => true
  | _ => false
def isD : D → D → Option D
  | a, .none => some (.bool (isNone a))
  | .bool a, .bool b => some (.bool (decide (a = b)))
  | _, _ => none
def isNotD : D → D → Option D
  | a, .none => some (.bool (!isNone a))
  | .bool a, .bool b => some (.bool (!decide (a = b)))
  | _, _ => none
theorem rpt_isNone {T : Wd} {Hf H : Hp} {d : D} {v : V} (h : RpT T Hf H d v) : decide (v = .non) = isNone d := by
  cases d with
  | none => rw [rpt_none h]; rfl
  | bool b => rw [rpt_bool h]; rfl
  | int i => rw [rpt_int h]; rfl
  | str x => rw [(rpt_str h).1]; rfl
  | list ds => obtain ⟨a, xs, e, _⟩ := h; rw [e]; rfl
  | tuple ds => obtain ⟨a, xs, e, _⟩ := rpt_tuple h; rw [e]; rfl
  | dict kvs =>
    have h : Rp T Hf (.dict kvs) v := h
    simp only [Rp] at h
    obtain ⟨a, _, _, _, _, _, e, _⟩ := h
    rw [e]; rfl
theorem o_is : OpD C (compareOp .Is) isD :=
  ⟨_, op_isN.or op_is_bl, fun Hf G σ H ρ x y a b d Q rr ra rb e q => by
    unfold isD at e
    split at e
    · cases e
      refine .inl ⟨rpt_none rb, ?_⟩
      rw [rpt_isNone ra]
      exact q _ H Hf (Same.refl _) rr (rp_bool _)
    · cases e; exact .inr ⟨_, _, rpt_bool ra, rpt_bool rb, q _ H Hf (Same.refl _) rr (rp_bool _)⟩
    · cases e⟩
theorem o_isNot : OpD C (compareOp .IsNot) isNotD :=
  ⟨_, op_notN.or op_isnot_bl, fun Hf G σ H ρ x y a b d Q rr ra rb e q => by
    unfold isNotD at e
    split at e
    · cases e
      refine .inl ⟨rpt_none rb, ?_⟩
      rw [rpt_isNone ra]
      exact q _ H Hf (Same.refl _) rr (rp_bool _)
    · cases e; exact .inr ⟨_, _, rpt_bool ra, rpt_bool rb, q _ H Hf (Same.refl _) rr (rp_bool _)⟩
    · cases e⟩
/-! ### in, not in: a list or a tuple of data -/
def inOk (d : D) (ds : List D) : Bool := decide (min (PyData.depthAll ds) d.depth ≤ 64) && noObj d && noObjA ds
def inD : D → D → Option D
  | d, .list ds => if inOk d ds then some (.bool (ds.any fun y => PyData.eqv y d)) else none
  | d, .tuple ds => if inOk d ds then some (.bool (ds.any fun y => PyData.eqv y d)) else none
  | _, _ => none
def notInD : D → D → Option D
  | d, .list ds => if inOk d ds then some (.bool (!ds.any fun y => PyData.eqv y d)) else none
  | d, .tuple ds => if inOk d ds then some (.bool (!ds.any fun y => PyData.eqv y d)) else none
  | _, _ => none
def rInL (K : PySem.W.Frag) (neg : Bool) : R2 := fun x y H Q => ∃ d ds z, Dp K H x d ∧ Dp K H y z ∧ (z = .list ds ∨ z = .tuple ds) ∧ d.canLay0 = true ∧ PyData.canLayAll0 ds = true ∧ min (PyData.depthAll ds) d.depth ≤ 64 ∧ Q (.bl (if neg then !(ds.any fun y => PyData.eqv y d) else ds.any fun y => PyData.eqv y d)) H
theorem op_inL {X : Cx} (hu : X.A.units + 65 < cLine) : OpR X (compareOp .In) (rInL X.K false) := by
  intro pins s σ H x y v u Q I rx ry h
  obtain ⟨d, ds, z, hd, he, hz, sd, se, hm, q⟩ := h
  obtain ⟨as, r1⟩ := Dp.reads I d x v hd rx
  obtain ⟨bs, r2⟩ := Dp.reads I z y u he ry
  rcases hz with rfl | rfl
  · exact SeqAt.in_list_reads r2 r1 se sd (by omega) ⟨.bl _, H, I, rfl, q⟩
  · exact SeqAt.in_tuple_reads r2 r1 se sd (by omega) ⟨.bl _, H, I, rfl, q⟩
theorem op_notInL {X : Cx} (hu : X.A.units + 65 < cLine) : OpR X (compareOp .NotIn) (rInL X.K true) := by
  intro pins s σ H x y v u Q I rx ry h
  obtain ⟨d, ds, z, hd, he, hz, sd, se, hm, q⟩ := h
  obtain ⟨as, r1⟩ := Dp.reads I d x v hd rx
  obtain ⟨bs, r2⟩ := Dp.reads I z y u he ry
  rcases hz with rfl | rfl
  · exact SeqAt.notIn_list_reads r2 r1 se sd (by omega) ⟨.bl _, H, I, rfl, q⟩
  · exact SeqAt.notIn_tuple_reads r2 r1 se sd (by omega) ⟨.bl _, H, I, rfl, q⟩
theorem inL_ok {Hf G : Hp} {σ : St} {H : Hp} {ρ : Rho} {x y : V} {a b : D} {ds : List D} {neg : Bool} {Q : VK} (rr : RR C.F Hf G σ H ρ) (ra : RpT C.T Hf H a x) (rb : RpT C.T Hf H b y) (hb : b = .list ds ∨ b = .tuple ds) (hc : inOk a ds = true)
    (q : Q (.bl (if neg then !(ds.any fun y => PyData.eqv y a) else ds.any fun y => PyData.eqv y a)) H) : rInL C.X.K neg x y H Q := by
  unfold inOk at hc
  simp only [Bool.and_eq_true, decide_eq_true_eq] at hc
  obtain ⟨a1, a2⟩ := ra.dp rr.fz hc.1.2
  have nb : noObj b = true := by rcases hb with rfl | rfl <;> (simp only [noObj]; exact hc.2)
  obtain ⟨b1, b2⟩ := rb.dp rr.fz nb
  refine ⟨a, ds, b, a2, b2, hb, a1, ?_, hc.1.1, q⟩
  rcases hb with rfl | rfl <;> simpa only [PyData.canLay0] using b1
theorem o_in {n : Nm} (S : Sc C n) : OpD C (compareOp .In) inD :=
  ⟨_, op_inL S.units, fun Hf G σ H ρ x y a b d Q rr ra rb e q => by
    unfold inD at e
    split at e
    · split at e
      · cases e; exact inL_ok rr ra rb (.inl rfl) (by assumption) (q _ H Hf (Same.refl _) rr (rp_bool _))
      · cases e
    · split at e
      · cases e; exact inL_ok rr ra rb (.inr rfl) (by assumption) (q _ H Hf (Same.refl _) rr (rp_bool _))
      · cases e
    · cases e⟩
theorem o_notIn {n : Nm} (S : Sc C n) : OpD C (compareOp .NotIn) notInD :=
  ⟨_, op_notInL S.units, fun Hf G σ H ρ x y a b d Q rr ra rb e q => by
    unfold notInD at e
    split at e
    · split at e
      · cases e; exact inL_ok rr ra rb (.inl rfl) (by assumption) (q _ H Hf (Same.refl _) rr (rp_bool _))
      · cases e
    · split at e
      · cases e; exact inL_ok rr ra rb (.inr rfl) (by assumption) (q _ H Hf (Same.refl _) rr (rp_bool _))
      · cases e
    · cases e⟩
/-! ### * -/
def mulOk (i j : Int) : Bool := big ((-(2 ^ 64) < i ∧ i < 2 ^ 64) ∨ (-(2 ^ 64) < j ∧ j < 2 ^ 64))
def mulD : D → D → Option D
  | .int i, .int j => if mulOk i j then some (.int (i * j)) else none
  | .list ds, .int k => if big (-(2 ^ 63) ≤ k ∧ k < 2 ^ 63 ∧ ds.length * k.toNat ≤ sizeLine) then some (.list (List.replicate k.toNat ds).flatten) else none
  | _, _ => none
def rRepL (K : PySem.W.Frag) : R2 := fun x y H Q => ∃ l k xs, x = .ref l ∧ y = .int k ∧ SqL K H l xs ∧ -(2 ^ 63) ≤ k ∧ k < 2 ^ 63 ∧ xs.length * k.toNat ≤ sizeLine ∧ ∀ p, H p = none → Q (.ref p) (upd H p (.lst (List.replicate k.toNat xs).flatten))
theorem op_repL {X : Cx} : OpR X (binaryOp .Mult) (rRepL X.K) := by
  intro pins s σ H x y v u Q I rx ry h
  obtain ⟨l, k, xs, rfl, rfl, hH, h1, h2, hz, q⟩ := h
  cases rx
  obtain ⟨t, rfl⟩ := ry
  obtain ⟨its, r, pl, z⟩ := I.list hH
  obtain ⟨⟨c1, d1, t1, k1⟩, g1, e1, n1, f1⟩ := pl.isList
  simp only at e1 f1
  subst e1 f1
  have sz : its.toArray.size * k.toNat ≤ sizeLine := by rw [List.size_toArray, ← r.length]; exact hz
  have line : (sizeLine : Nat) ≤ (2 ^ 63 - 1) / 8 := by decide
  have c0 : ¬ (!Builtin.List.listFitsIndex k) = true := by rw [fitsIndex_both h1 h2]; decide
  have c2 : ¬ Builtin.List.listTooLong (its.toArray.size * k.toNat) = true := by rw [notLongL sz]; decide
  refine wpAny_binaryOp_repeat_ref (T := "list") (U := "int") (by decide) ⟨_, g1, rfl⟩ (fun s' => typeIs_int s' k t) noFill_list_mul F.fills_int_mul F.slot_int_rmul repeat_list F.slot_int_index.lookup ?_
  refine call_meets F.slot_int_rmul (typeIs_int s k t) F.entry_int_rmul (F.args_int_rmul_2 _ _) (lm_int_rmul_list_any k t l its.toArray n1 d1 k1) ⟨g1, rfl, ⟨_, g1, rfl⟩, ?_⟩
  refine call_meets F.slot_list_mul ⟨_, g1, rfl⟩ F.entry_list_mul (F.args_list_mul_2 _ _) (lm_list_mul_any l its.toArray n1 d1 k1 k t c0 (by omega) c2) ⟨g1, ?_⟩
  rw [PyProof.Rows.listMul_foldl_if]
  exact ⟨.ref _, _, I.lnew (t' := s.toks) (r.rep k.toNat) (by rw [PyProof.Rows.lm_len_rep_flat, Nat.mul_comm]; exact hz), rfl, q _ I.fresh⟩
theorem o_mul : OpD C (binaryOp .Mult) mulD :=
  ⟨_, op_mul.or op_repL, fun Hf G σ H ρ x y a b d Q rr ra rb e q => by
    unfold mulD at e
    split at e
    · split at e
      · rename_i hc
        cases e
        refine .inl ⟨_, _, rpt_int ra, rpt_int rb, ?_, q _ H Hf (Same.refl _) rr (rp_int _)⟩
        exact of_big hc
      · cases e
    · split at e
      · rename_i hc
        cases e
        obtain ⟨p1, xs, e1, s1, r1⟩ := rpt_list ra
        have hc := of_big hc
        exact .inr ⟨p1, _, xs, e1, rpt_int rb, s1, hc.1, hc.2.1, by rw [RpA.length r1]; exact hc.2.2, new_lst rr (RpA.rep r1 _) q⟩
      · cases e
    · cases e⟩
end
end DS
namespace DS
open PySem L2
noncomputable section
variable {C : DC} {n : Nm} {pos : Pos}
/-! ### arguments, displays -/
abbrev relA (T : Wd) : Rel (List V) (List D) := fun Hf _ _ _ _ vs ds => RpA T Hf ds vs
structure DA (C : DC) (es : List Expr) (m : M (List D)) : Prop where
  pa : PA C.X es (Lft C (relA C.T) m)
theorem PA.imp {X : Cx} {e : List Expr} {t t' : TA} (h : PA X e t) (k : ∀ σ H Q, t' σ H Q → t σ H Q) : PA X e t' := ⟨fun pos pins s σ H Q I hw => h.run pos pins s σ H Q I (k _ _ _ hw)⟩
theorem da_nil : DA C [] (ret []) := ⟨PA.imp pa_nil fun σ H Q ⟨Hf, G, ρ, rr, h⟩ => h [] H Hf (Same.refl _) rr RpA.nil⟩
def consM (a : M D) (b : M (List D)) : M (List D) := bnd a fun x => bnd b fun xs => ret (x :: xs)
theorem da_cons {e : Expr} {es : List Expr} {a : M D} {b : M (List D)} (h1 : DE C e a) (h2 : DA C es b) : DA C (e :: es) (consM a b) :=
  ⟨PA.imp (pa_cons h1.pe h2.pa (star_ok h1.ok _ _)) fun σ H Q ⟨Hf, G, ρ, rr, h⟩ => post_bind rr h fun x d H1 Hf1 ρ1 s1 r1 rx p1 => post_bind r1 p1 fun xs ds H2 Hf2 ρ2 s2 r2 rxs p2 =>
    p2 (x :: xs) H2 Hf2 (Same.refl _) r2 (RpA.cons (Rp.mono s2 _ _ rx) rxs)⟩
def tupM (m : M (List D)) : M D := bnd m fun ds => if ds.length ≤ sizeLine then ret (.tuple ds) else stop
theorem de_tup {es : List Expr} {x1 : Nat} {m : M (List D)} (h : DA C es m) : DE C (.Tuple es x1 pos) (tupM m) :=
  ⟨PE.imp (pe_tup h.pa) fun σ H Q ⟨Hf, G, ρ, rr, h⟩ => post_bind rr h fun vs ds H1 Hf1 ρ1 s1 r1 ra p1 => by
    by_cases hl : ds.length ≤ sizeLine
    · rw [if_pos hl] at p1
      exact ⟨by rw [RpA.length ra]; exact hl, new_tup r1 ra p1⟩
    · rw [if_neg hl] at p1; exact p1.elim, rfl⟩
def lstM (m : M (List D)) : M (List D) := bnd m fun ds => if ds.length ≤ sizeLine then ret ds else stop
theorem df_lst {es : List Expr} {m : M (List D)} (h : DA C es m) : DF C (.List es pos) (lstM m) :=
  ⟨PE.imp (pe_lst h.pa) fun σ H Q ⟨Hf, G, ρ, rr, h⟩ => post_bind rr h fun vs ds H1 Hf1 ρ1 s1 r1 ra p1 => by
    by_cases hl : ds.length ≤ sizeLine
    · rw [if_pos hl] at p1
      exact ⟨by rw [RpA.length ra]; exact hl, new_own r1 ra p1⟩
    · rw [if_neg hl] at p1; exact p1.elim, rfl⟩
/-! ### subscripts -/
def IxD (C : DC) (g : D → D → Option D) : Prop :=
  ∃ r : R2, IxR C.X r ∧ ∀ (Hf G : Hp) (σ : St) (H : Hp) (ρ : Rho) (x y : V) (a b d : D) (Q : VK), RR C.F Hf G σ H ρ → RpT C.T Hf H a x → RpT C.T Hf H b y → g a b = some d →
    (∀ v H' Hf', Same Hf Hf' → RR C.F Hf' G σ H' ρ → Rp C.T Hf' d v → Q v H') → r x y H Q
def ixD : D → D → Option D
  | .list ds, .int i => atI ds i
  | .tuple ds, .int i => atI ds i
  | .str z, .int i => if z.length ≤ sizeLine then (atI z.cps.toList i).map fun c => .str ⟨#[c]⟩ else none
  | _, _ => none
theorem atI_rp {T : Wd} {H : Hp} {ds : List D} {vs : List V} {i : Int} {d : D} (ra : RpA T H ds vs) (h : atI ds i = some d) : ∃ v, atI vs i = some v ∧ Rp T H d v := by
  unfold atI at h ⊢
  rw [RpA.length ra]
  cases e : ixN ds.length i with
  | none => rw [e] at h; cases h
  | some j =>
    rw [e] at h
    exact RpA.get ra h
theorem strOk_one {z : Str} {c : Nat} (h : PyData.strOk z = true) (hc : c ∈ z.cps.toList) : PyData.strOk ⟨#[c]⟩ = true := by
  unfold PyData.strOk at h ⊢
  rw [Array.all_eq_true'] at h ⊢
  intro x hx
  have : x = c := by simpa using hx
  subst this
  exact h x (by simpa using hc)
theorem atI_mem {α : Type} {xs : List α} {i : Int} {c : α} (h : atI xs i = some c) : c ∈ xs := by
  unfold atI at h
  cases e : ixN xs.length i with
  | none => rw [e] at h; cases h
  | some j => rw [e] at h; exact List.mem_of_getElem? h
theorem x_ix : IxD C ixD :=
  ⟨_, ix_seq, fun Hf G σ H ρ x y a b d Q rr ra rb e q => by
    unfold ixD at e
    split at e
    · obtain ⟨p, xs, e1, s1, r1⟩ := rpt_list ra
      obtain ⟨v, hv, rv⟩ := atI_rp r1 e
      exact .inl ⟨p, xs, _, v, e1, rpt_int rb, s1, hv, q _ H Hf (Same.refl _) rr rv⟩
    · obtain ⟨p, xs, e1, s1, r1⟩ := rpt_tuple ra
      obtain ⟨v, hv, rv⟩ := atI_rp r1 e
      exact .inr (.inl ⟨p, xs, _, v, e1, rpt_int rb, Same.sqT rr.fz s1, hv, q _ H Hf (Same.refl _) rr rv⟩)
    · split at e
      · rename_i z i hz
        obtain ⟨e1, k⟩ := rpt_str ra
        obtain ⟨c, hc, rfl⟩ := Option.map_eq_some_iff.mp e
        exact .inr (.inr ⟨z, i, c, e1, rpt_int rb, hz, hc, q _ H Hf (Same.refl _) rr (rp_str (strOk_one k (atI_mem hc)))⟩)
      · cases e
    · cases e⟩
variable {a b : Expr} {ma mb : M D}
theorem de_ix (ha : DE C a ma) (hb : DK C b mb) : DE C (.Subscript a b pos) (bin ixD ma mb) :=
  let ⟨_, ho, hr⟩ := x_ix; ⟨PE.imp (pe_ix ho ha.pe hb.pe (ix_ok hb.ok)) (lft_bin (f := binaryOp .Add) hr), rfl⟩
theorem de_ixN {x : Str} {p : Pos} (S : Sc C n) (i : Nat) (hi : i ∈ n.vs) (hx : n.N[i]? = some x) (hb : DK C b mb) : DE C (.Subscript (.Name x p) b pos) (binN ixD i mb) :=
  let ⟨_, ho, hr⟩ := x_ix; ⟨PE.imp (pe_ix ho (pv_ok S i hi hx) hb.pe (ix_ok hb.ok)) (lft_binN hr), rfl⟩
/-! ### slices -/
def cutL {α : Type} (xs : List α) (lo hi : Option Int) : List α := (xs.drop (HT.sIx xs.length 0 lo)).take (HT.sIx xs.length xs.length hi - HT.sIx xs.length 0 lo)
theorem cut_rp {T : Wd} {H : Hp} {ds : List D} {vs : List V} {lo hi : Option Int} (ra : RpA T H ds vs) : RpA T H (cutL ds lo hi) (cutV vs lo hi) := by
  unfold cutL cutV
  rw [RpA.length ra]
  exact RpA.take _ (RpA.drop _ ra)
def slD : D → Option Int → Option Int → Option D
  | .list ds, lo, hi => some (.list (cutL ds lo hi))
  | .tuple ds, lo, hi => some (.tuple (cutL ds lo hi))
  | .str z, lo, hi => if z.length ≤ sizeLine then some (.str (cutS z lo hi)) else none
  | _, _, _ => none
theorem strOk_cut {z : Str} {lo hi : Option Int} (h : PyData.strOk z = true) : PyData.strOk (cutS z lo hi) = true := by
  unfold PyData.strOk cutS at *
  rw [Array.all_eq_true'] at h ⊢
  intro x hx
  exact h x (by
    have h1 := List.mem_of_mem_take (by simpa using hx)
    simpa using List.mem_of_mem_drop h1)
abbrev relO : Rel (Option Int) (Option Int) := fun _ _ _ _ _ b a => b = a
structure DO (C : DC) (e : Option Expr) (m : M (Option Int)) : Prop where
  po : PO C.X e (Lft C relO m)
theorem PO.imp {X : Cx} {e : Option Expr} {t t' : TO} (h : PO X e t) (k : ∀ σ H Q, t' σ H Q → t σ H Q) : PO X e t' := ⟨fun pins s σ H Q I hw => h.run pins s σ H Q I (k _ _ _ hw)⟩
theorem do_none : DO C none (ret none) := ⟨PO.imp po_none fun σ H Q ⟨Hf, G, ρ, rr, h⟩ => h none H Hf (Same.refl _) rr rfl⟩
def asI (m : M D) : M (Option Int) := bnd m fun d => match d with
  | .int i => ret (some i)
  | _ => stop
theorem do_some {e : Expr} {m : M D} (h : DE C e m) : DO C (some e) (asI m) := ⟨PO.imp (po_some h.pe) fun σ H Q ⟨Hf, G, ρ, rr, h⟩ => post_bind rr h fun x d H1 Hf1 ρ1 s1 r1 rx p1 => by
  cases d with
  | int i => exact ⟨i, by simpa only [Rp] using rx, p1 (some i) H1 Hf1 (Same.refl _) r1 rfl⟩
  | none => exact p1.elim
  | bool b => exact p1.elim
  | str x => exact p1.elim
  | list ds => exact p1.elim
  | tuple ds => exact p1.elim
  | dict kvs => exact p1.elim⟩
def rSl (K : PySem.W.Frag) : V → Option Int → Option Int → Hp → VK → Prop := fun x lo hi H Q => rSlL K x lo hi H Q ∨ rSlA K x lo hi H Q ∨ rSlS x lo hi H Q
theorem sl_any {X : Cx} : SlR X (rSl X.K) := sl_list.or (sl_tupA.or sl_str)
theorem cut_whole {α : Type} {xs : List α} {lo hi : Option Int} (h : HT.sIx xs.length 0 lo = 0 ∧ HT.sIx xs.length xs.length hi = xs.length) : cutL xs lo hi = xs := by
  unfold cutL
  rw [h.1, h.2]
  simp
theorem sl_ok {Hf G : Hp} {σ : St} {H : Hp} {ρ : Rho} {x : V} {a d : D} {lo hi : Option Int} {Q : VK} (rr : RR C.F Hf G σ H ρ) (ra : RpT C.T Hf H a x) (e : slD a lo hi = some d) (q : ∀ v H' Hf', Same Hf Hf' → RR C.F Hf' G σ H' ρ → Rp C.T Hf' d v → Q v H') : rSl C.X.K x lo hi H Q := by
  unfold slD at e
  split at e
  · cases e
    obtain ⟨p, xs, e1, s1, r1⟩ := rpt_list ra
    exact .inl ⟨p, xs, e1, s1, new_lst rr (cut_rp r1) q⟩
  · cases e
    obtain ⟨p, xs, e1, s1, r1⟩ := rpt_tuple ra
    refine .inr (.inl ⟨p, xs, e1, Same.sqT rr.fz s1, fun hw => ?_, fun _ => new_tup rr (cut_rp r1) q⟩)
    rw [RpA.length r1] at hw
    rw [cut_whole hw] at q
    exact q _ H Hf (Same.refl _) rr (rp_tuple s1 r1)
  · split at e
    · cases e
      obtain ⟨e1, k⟩ := rpt_str ra
      exact .inr (.inr ⟨_, e1, by assumption, q _ H Hf (Same.refl _) rr (rp_str (strOk_cut k))⟩)
    · cases e
  · cases e
def slM (m : M D) (lo hi : M (Option Int)) : M D := bnd m fun x => bnd lo fun l => bnd hi fun h => opt (slD x l h)
def slN (i : Nat) (lo hi : M (Option Int)) : M D := bnd (pk i) fun _ => bnd lo fun l => bnd hi fun h => bnd (pk i) fun x => opt (slD x l h)
theorem de_sl {lo hi : Option Expr} {p2 : Pos} {ml mh : M (Option Int)} (ha : DE C a ma) (hl : DO C lo ml) (hh : DO C hi mh) : DE C (.Subscript a (.Slice lo hi none p2) pos) (slM ma ml mh) :=
  ⟨PE.imp (pe_slice sl_any ha.pe hl.po hh.po) fun σ H Q ⟨Hf, G, ρ, rr, h⟩ => post_bind rr h fun x d H1 Hf1 ρ1 s1 r1 rx p1 => post_bind r1 p1 fun l l' H2 Hf2 ρ2 s2 r2 e2 p2 => post_bind r2 p2 fun u u' H3 Hf3 ρ3 s3 r3 e3 p3 => by
    subst e2 e3
    obtain ⟨z, e, q⟩ := opt_post p3
    exact sl_ok r3 (Rp.top r3.fz (Rp.mono (s2.trans s3) _ _ rx)) e q, rfl⟩
theorem de_slN {x : Str} {p : Pos} {lo hi : Option Expr} {p2 : Pos} {ml mh : M (Option Int)} (S : Sc C n) (i : Nat) (hi' : i ∈ n.vs) (hx : n.N[i]? = some x) (hl : DO C lo ml) (hh : DO C hi mh) : DE C (.Subscript (.Name x p) (.Slice lo hi none p2) pos) (slN i ml mh) :=
  ⟨PE.imp (pe_slice sl_any (pv_ok S i hi' hx) hl.po hh.po) fun σ H Q ⟨Hf, G, ρ, rr, h⟩ => by
    obtain ⟨_, v, hv, _, h⟩ := pk_bind rr h
    refine ⟨v, hv, ?_⟩
    refine post_bind rr h fun l l' H2 Hf2 ρ2 s2 r2 e2 p2 => post_bind r2 p2 fun u u' H3 Hf3 ρ3 s3 r3 e3 p3 => ?_
    subst e2 e3
    obtain ⟨d, v', hv', ra, p4⟩ := pk_bind r3 p3
    rw [hv] at hv'; cases hv'
    obtain ⟨z, e, q⟩ := opt_post p4
    exact sl_ok r3 ra e q, rfl⟩
/-! ### built-ins of one argument -/
def F1 (C : DC) (f : Value) (g : D → Option D) : Prop :=
  ∃ r, CallR C.X f r ∧ ∀ (Hf G : Hp) (σ : St) (H : Hp) (ρ : Rho) (x : V) (a d : D) (Q : VK), RR C.F Hf G σ H ρ → RpT C.T Hf H a x → g a = some d →
    (∀ v H' Hf', Same Hf Hf' → RR C.F Hf' G σ H' ρ → Rp C.T Hf' d v → Q v H') → r [x] H Q
def c1 (g : D → Option D) (m : M D) : M D := bnd m fun x => opt (g x)
theorem lft_c1 {r : List V → Hp → VK → Prop} {g : D → Option D} (hr : ∀ (Hf G : Hp) (σ : St) (H : Hp) (ρ : Rho) (x : V) (a d : D) (Q : VK), RR C.F Hf G σ H ρ → RpT C.T Hf H a x → g a = some d →
    (∀ v H' Hf', Same Hf Hf' → RR C.F Hf' G σ H' ρ → Rp C.T Hf' d v → Q v H') → r [x] H Q) : ∀ σ H Q, Lft C (relE C.T) (c1 g ma) σ H Q → tCB r (tCons (Lft C (relK C.T) ma) tNil) σ H Q := fun σ H Q ⟨Hf, G, ρ, rr, h⟩ => post_bind rr h fun x d H1 Hf1 ρ1 s1 r1 rx p1 => by
  obtain ⟨z, e, q⟩ := opt_post p1
  exact hr Hf1 G σ H1 ρ1 x d z Q r1 rx e q
theorem de_b1 {x : Str} {id : String} {p : Pos} {g : D → Option D} (S : Sc C n) (j : Nat) (hj : n.bs[j]? = some x) (f : F1 C (.builtin id) g) (hv : bootBuiltins x = some (.builtin id)) (ha : DK C a ma) (hn : x ≠ "__name__") (hd : (x == ("__debug__" : Str)) = false) : DE C (.Call (.Name x p) [a] [] pos) (c1 g ma) :=
  let ⟨_, ho, hr⟩ := f; ⟨PE.imp (pe_callB ho (S.bl hj).1 (S.bl hj).2 hv (pa_cons ha.pe pa_nil (star_ok ha.ok _ _)) hn hd (star_ok ha.ok _ _) rfl) (lft_c1 hr), rfl⟩
theorem de_t1 {x : Str} {id : String} {p : Pos} {g : D → Option D} (S : Sc C n) (j : Nat) (hj : n.bs[j]? = some x) (f : F1 C (.type id) g) (hv : bootBuiltins x = some (.type id)) (ha : DK C a ma) (hn : x ≠ "__name__") (hd : (x == ("__debug__" : Str)) = false) : DE C (.Call (.Name x p) [a] [] pos) (c1 g ma) :=
  let ⟨_, ho, hr⟩ := f; ⟨PE.imp (pe_callTy ho (S.bl hj).1 (S.bl hj).2 hv (pa_cons ha.pe pa_nil (star_ok ha.ok _ _)) hn hd (star_ok ha.ok _ _) rfl) (lft_c1 hr), rfl⟩
def lenD : D → Option D
  | .list ds => some (.int ds.length)
  | .tuple ds => some (.int ds.length)
  | .str z => if z.length ≤ sizeLine then some (.int z.length) else none
  | _ => none
theorem f_len : F1 C (.builtin "len") lenD :=
  ⟨_, call_len_seq.or call_len_str, fun Hf G σ H ρ x a d Q rr ra e q => by
    unfold lenD at e
    split at e
    · cases e
      obtain ⟨p, xs, e1, s1, r1⟩ := rpt_list ra
      exact .inl ⟨p, xs, by rw [e1], .inl s1, by rw [RpA.length r1]; exact q _ H Hf (Same.refl _) rr (rp_int _)⟩
    · cases e
      obtain ⟨p, xs, e1, s1, r1⟩ := rpt_tuple ra
      exact .inl ⟨p, xs, by rw [e1], .inr (Same.sqT rr.fz s1), by rw [RpA.length r1]; exact q _ H Hf (Same.refl _) rr (rp_int _)⟩
    · split at e
      · cases e
        exact .inr ⟨_, by rw [(rpt_str ra).1], by assumption, q _ H Hf (Same.refl _) rr (rp_int _)⟩
      · cases e
    · cases e⟩
theorem ne_len : ("len" : Str) ≠ "__name__" := by decide
theorem de_len {p : Pos} (S : Sc C n) (j : Nat) (hj : n.bs[j]? = some ("len" : Str)) (ha : DK C a ma) : DE C (.Call (.Name "len" p) [a] [] pos) (c1 lenD ma) := de_b1 S j hj f_len PySem.boot_len ha (by decide) (by decide)
/-- all of a list of bools -/
def boolsD : List D → Option (List Bool)
  | [] => some []
  | .bool b :: ds => (boolsD ds).map (b :: ·)
  | _ => none
def intsD : List D → Option (List Int)
  | [] => some []
  | .int b :: ds => (intsD ds).map (b :: ·)
  | _ => none
theorem bools_rp {T : Wd} {H : Hp} : ∀ {ds : List D} {bs : List Bool} {vs : List V}, boolsD ds = some bs → RpA T H ds vs → vs = bs.map V.bl
  | [], _, _, e, r => by cases e; rw [RpA.unnil r]; rfl
  | .bool b :: ds, _, _, e, r => by
    obtain ⟨bs, h, rfl⟩ := Option.map_eq_some_iff.mp (show (boolsD ds).map (b :: ·) = some _ from e)
    obtain ⟨v, vs, e1, q, z⟩ := RpA.uncons r
    subst e1
    have : v = .bl b := by simpa only [Rp] using q
    rw [this, bools_rp h z]; rfl
  | .none :: _, _, _, e, _ => by cases e
  | .int _ :: _, _, _, e, _ => by cases e
  | .str _ :: _, _, _, e, _ => by cases e
  | .list _ :: _, _, _, e, _ => by cases e
  | .tuple _ :: _, _, _, e, _ => by cases e
  | .dict _ :: _, _, _, e, _ => by cases e
theorem ints_rp {T : Wd} {H : Hp} : ∀ {ds : List D} {bs : List Int} {vs : List V}, intsD ds = some bs → RpA T H ds vs → vs = bs.map V.int
  | [], _, _, e, r => by cases e; rw [RpA.unnil r]; rfl
  | .int b :: ds, _, _, e, r => by
    obtain ⟨bs, h, rfl⟩ := Option.map_eq_some_iff.mp (show (intsD ds).map (b :: ·) = some _ from e)
    obtain ⟨v, vs, e1, q, z⟩ := RpA.uncons r
    subst e1
    have : v = .int b := by simpa only [Rp] using q
    rw [this, ints_rp h z]; rfl
  | .none :: _, _, _, e, _ => by cases e
  | .bool _ :: _, _, _, e, _ => by cases e
  | .str _ :: _, _, _, e, _ => by cases e
  | .list _ :: _, _, _, e, _ => by cases e
  | .tuple _ :: _, _, _, e, _ => by cases e
  | .dict _ :: _, _, _, e, _ => by cases e
def allD : D → Option D
  | .list ds => (boolsD ds).map fun bs => .bool (bs.all id)
  | _ => none
def sumD : D → Option D
  | .list ds => (intsD ds).map fun bs => .int bs.sum
  | _ => none
theorem f_all (S : Sc C n) : F1 C (.builtin "all") allD :=
  ⟨_, cr_all S.calm, fun Hf G σ H ρ x a d Q rr ra e q => by
    unfold allD at e
    split at e
    · obtain ⟨bs, h, rfl⟩ := Option.map_eq_some_iff.mp e
      obtain ⟨p, xs, e1, s1, r1⟩ := rpt_list ra
      exact ⟨p, bs, by rw [e1], by rw [← bools_rp h r1]; exact s1, q _ H Hf (Same.refl _) rr (rp_bool _)⟩
    · cases e⟩
theorem de_all {p : Pos} (S : Sc C n) (j : Nat) (hj : n.bs[j]? = some ("all" : Str)) (ha : DK C a ma) : DE C (.Call (.Name "all" p) [a] [] pos) (c1 allD ma) := de_b1 S j hj (f_all S) (by decide +kernel) ha (by decide) (by decide)
theorem f_sum (S : Sc C n) : F1 C (.builtin "sum") sumD :=
  ⟨_, cr_sum S.calm, fun Hf G σ H ρ x a d Q rr ra e q => by
    unfold sumD at e
    split at e
    · obtain ⟨bs, h, rfl⟩ := Option.map_eq_some_iff.mp e
      obtain ⟨p, xs, e1, s1, r1⟩ := rpt_list ra
      exact ⟨p, bs, by rw [e1], by rw [← ints_rp h r1]; exact s1, q _ H Hf (Same.refl _) rr (rp_int _)⟩
    · cases e⟩
theorem de_sum {p : Pos} (S : Sc C n) (j : Nat) (hj : n.bs[j]? = some ("sum" : Str)) (ha : DK C a ma) : DE C (.Call (.Name "sum" p) [a] [] pos) (c1 sumD ma) := de_b1 S j hj (f_sum S) (by decide +kernel) ha (by decide) (by decide)
/-- list(x): a new list -/
def itemsD : D → Option (List D)
  | .list ds => some ds
  | .tuple ds => some ds
  | _ => none
def liM (m : M D) : M (List D) := bnd m fun x => opt (itemsD x)
theorem df_list {p : Pos} (S : Sc C n) (j : Nat) (hj : n.bs[j]? = some ("list" : Str)) (ha : DK C a ma) : DF C (.Call (.Name "list" p) [a] [] pos) (liM ma) :=
  ⟨PE.imp (pe_callTy call_list_of (S.bl hj).1 (S.bl hj).2 (by decide +kernel) (pa_cons ha.pe pa_nil (star_ok ha.ok _ _)) (by decide) (by decide) (star_ok ha.ok _ _) rfl) fun σ H Q ⟨Hf, G, ρ, rr, h⟩ => post_bind rr h fun x d H1 Hf1 ρ1 s1 r1 rx p1 => (by
    obtain ⟨z, e, q⟩ := opt_post p1
    unfold itemsD at e
    split at e
    · cases e
      obtain ⟨p, xs, e1, s1, ra⟩ := rpt_list rx
      exact ⟨p, xs, by rw [e1], .inl s1, new_own r1 ra q⟩
    · cases e
      obtain ⟨p, xs, e1, s1, ra⟩ := rpt_tuple rx
      exact ⟨p, xs, by rw [e1], .inr (Same.sqT r1.fz s1), new_own r1 ra q⟩
    · cases e), rfl⟩
def tupleD : D → Option D
  | .list ds => some (.tuple ds)
  | .tuple ds => some (.tuple ds)
  | _ => none
theorem f_tuple : F1 C (.type "tuple") tupleD :=
  ⟨_, call_tuple_of, fun Hf G σ H ρ x a d Q rr ra e q => by
    unfold tupleD at e
    split at e
    · cases e
      obtain ⟨p, xs, e1, s1, r1⟩ := rpt_list ra
      exact ⟨p, xs, by rw [e1], .inl ⟨s1, new_tup rr r1 q⟩⟩
    · cases e
      obtain ⟨p, xs, e1, s1, r1⟩ := rpt_tuple ra
      exact ⟨p, xs, by rw [e1], .inr ⟨Same.sqT rr.fz s1, by rw [e1] at *; exact q _ H Hf (Same.refl _) rr (rp_tuple s1 r1)⟩⟩
    · cases e⟩
theorem de_tuple {p : Pos} (S : Sc C n) (j : Nat) (hj : n.bs[j]? = some ("tuple" : Str)) (ha : DK C a ma) : DE C (.Call (.Name "tuple" p) [a] [] pos) (c1 tupleD ma) := de_t1 S j hj f_tuple (by decide +kernel) ha (by decide) (by decide)
end
end DS
namespace DS
open PySem L2
noncomputable section
variable {C : DC} {n : Nm} {pos : Pos} {a b c : Expr} {ma mb mc : M D}
/-! ### chains of two comparisons -/
def chM (g g' : D → D → Option D) (ma mb mc : M D) : M D := bnd ma fun x => bnd mb fun y => bnd (opt (g x y)) fun z => match z with
  | .bool k => if k = true then bnd mc fun w => opt (g' y w) else ret (.bool false)
  | _ => stop
theorem marks_ok {op op' : CmpOp} (hc : okE c = true) : lastMarks [op, op'] [b, c] = false := by
  show lastMarks [op'] [c] = false
  exact mark_ok hc
theorem lft_ch {g g' : D → D → Option D} {r r' : R2} (hr : ∀ (Hf G : Hp) (σ : St) (H : Hp) (ρ : Rho) (x y : V) (a b d : D) (Q : VK), RR C.F Hf G σ H ρ → RpT C.T Hf H a x → RpT C.T Hf H b y → g a b = some d →
      (∀ v H' Hf', Same Hf Hf' → RR C.F Hf' G σ H' ρ → Rp C.T Hf' d v → Q v H') → r x y H Q)
    (hr' : ∀ (Hf G : Hp) (σ : St) (H : Hp) (ρ : Rho) (x y : V) (a b d : D) (Q : VK), RR C.F Hf G σ H ρ → RpT C.T Hf H a x → RpT C.T Hf H b y → g' a b = some d →
      (∀ v H' Hf', Same Hf Hf' → RR C.F Hf' G σ H' ρ → Rp C.T Hf' d v → Q v H') → r' x y H Q) :
    ∀ σ H Q, Lft C (relE C.T) (chM g g' ma mb mc) σ H Q → tChain r r' (Lft C (relE C.T) ma) (Lft C (relE C.T) mb) (Lft C (relK C.T) mc) σ H Q := fun σ H Q ⟨Hf, G, ρ, rr, h⟩ => by
  refine post_bind rr h fun x a H1 Hf1 ρ1 s1 rr1 ra p1 => ?_
  refine post_bind rr1 p1 fun y b H2 Hf2 ρ2 s2 rr2 rb p2 => ?_
  cases e : g a b with
  | none => rw [e] at p2; exact p2.elim
  | some d =>
    rw [e] at p2
    have p2 : Post C (relE C.T) Hf2 G σ Q ((match d with
      | .bool k => if k = true then bnd mc fun w => opt (g' b w) else ret (.bool false)
      | _ => stop) ρ2) := p2
    refine hr Hf2 G σ H2 ρ2 x y a b d _ rr2 (Rp.top rr2.fz (Rp.mono s2 _ _ ra)) (Rp.top rr2.fz rb) e fun v H3 Hf3 s3 rr3 rv => ?_
    cases d with
    | bool k =>
      refine ⟨k, by simpa only [Rp] using rv, ?_⟩
      cases k with
      | true =>
        rw [if_pos rfl]
        have p2 : Post C (relE C.T) Hf2 G σ Q ((bnd mc fun w => opt (g' b w)) ρ2) := p2
        refine post_bind rr3 (p2.up s3) fun w d4 H4 Hf4 ρ4 s4 rr4 rw p4 => ?_
        obtain ⟨d', e', q⟩ := opt_post p4
        exact hr' Hf4 G σ H4 ρ4 y w b d4 d' Q rr4 (Rp.top rr4.fz (Rp.mono (s3.trans s4) _ _ rb)) rw e' q
      | false =>
        rw [if_neg Bool.false_ne_true]
        exact p2 (.bl false) H3 Hf3 s3 rr3 (rp_bool _)
    | none => exact p2.elim
    | int i => exact p2.elim
    | str x => exact p2.elim
    | list ds => exact p2.elim
    | tuple ds => exact p2.elim
    | dict kvs => exact p2.elim
theorem de_ch {op op' : CmpOp} {g g' : D → D → Option D} (o : OpD C (compareOp op) g) (o' : OpD C (compareOp op') g') (ha : DE C a ma) (hb : DE C b mb) (hc : DK C c mc) : DE C (.Compare a [op, op'] [b, c] pos) (chM g g' ma mb mc) :=
  let ⟨_, ho, hr⟩ := o; let ⟨_, ho', hr'⟩ := o'; ⟨PE.imp (pe_chain ho ho' ha.pe hb.pe hc.pe (marks_ok hc.ok)) (lft_ch hr hr'), rfl⟩
theorem dt_ch {op op' : CmpOp} {g g' : D → D → Option D} (o : OpD C (compareOp op) g) (o' : OpD C (compareOp op') g') (ha : DE C a ma) (hb : DE C b mb) (hc : DK C c mc) : DT C (.Compare a [op, op'] [b, c] pos) (asB (chM g g' ma mb mc)) :=
  let ⟨_, ho, hr⟩ := o; let ⟨_, ho', hr'⟩ := o'; ⟨PT.imp (pt_chain ho ho' ha.pe hb.pe hc.pe (marks_ok hc.ok)) (lft_asB (lft_ch hr hr'))⟩
/-! ### isinstance -/
inductive Ty where
  | int | bool | str | list | tuple
def Ty.nm : Ty → String
  | .int => "int" | .bool => "bool" | .str => "str" | .list => "list" | .tuple => "tuple"
def isiD (t : Ty) : D → Option D
  | .none => some (.bool false)
  | .bool _ => some (.bool (match t with | .int => true | .bool => true | _ => false))
  | .int _ => some (.bool (match t with | .int => true | _ => false))
  | .str _ => some (.bool (match t with | .str => true | _ => false))
  | .list _ => some (.bool (match t with | .list => true | _ => false))
  | .tuple _ => some (.bool (match t with | .tuple => true | _ => false))
  | .dict _ => none
theorem kit_none (t : Ty) : kitB "NoneType" t.nm = some false := by cases t <;> decide +kernel
theorem kit_bool (t : Ty) : kitB "bool" t.nm = some (match t with | .int => true | .bool => true | _ => false) := by cases t <;> decide +kernel
theorem kit_int (t : Ty) : kitB "int" t.nm = some (match t with | .int => true | _ => false) := by cases t <;> decide +kernel
theorem kit_str (t : Ty) : kitB "str" t.nm = some (match t with | .str => true | _ => false) := by cases t <;> decide +kernel
theorem kit_list (t : Ty) : kitB "list" t.nm = some (match t with | .list => true | _ => false) := by cases t <;> decide +kernel
theorem kit_tuple (t : Ty) : kitB "tuple" t.nm = some (match t with | .tuple => true | _ => false) := by cases t <;> decide +kernel
theorem sqt_ty {K : PySem.W.Frag} {H : Hp} {p : Addr} {xs : List V} (h : SqT K H p xs) : TyX K H (.ref p) (.type "tuple") := by
  rcases h with (h | ⟨o, h⟩) | ⟨o, its, n, h, hc, _⟩
  · exact .base (.tup h)
  · exact .fTuple h
  · exact .kTuple h hc
theorem isi_ok {Hf G : Hp} {σ : St} {H : Hp} {ρ : Rho} {t : Ty} {x : V} {a d : D} {Q : VK} (rr : RR C.F Hf G σ H ρ) (ra : RpT C.T Hf H a x) (e : isiD t a = some d) (q : ∀ v H' Hf', Same Hf Hf' → RR C.F Hf' G σ H' ρ → Rp C.T Hf' d v → Q v H') : rIsi C.X.K [x, .ty t.nm] H Q := by
  cases a with
  | none => cases e; exact ⟨x, _, _, _, _, rfl, .ty _, by rw [rpt_none ra]; exact .base .non, kit_ty (kit_none t), q _ H Hf (Same.refl _) rr (rp_bool _)⟩
  | bool b => cases e; exact ⟨x, _, _, _, _, rfl, .ty _, by rw [rpt_bool ra]; exact .base (.bl b), kit_ty (kit_bool t), q _ H Hf (Same.refl _) rr (rp_bool _)⟩
  | int i => cases e; exact ⟨x, _, _, _, _, rfl, .ty _, by rw [rpt_int ra]; exact .base (.int i), kit_ty (kit_int t), q _ H Hf (Same.refl _) rr (rp_bool _)⟩
  | str z => cases e; exact ⟨x, _, _, _, _, rfl, .ty _, by rw [(rpt_str ra).1]; exact .base (.str z), kit_ty (kit_str t), q _ H Hf (Same.refl _) rr (rp_bool _)⟩
  | list ds =>
    cases e
    obtain ⟨p, xs, e1, s1, _⟩ := rpt_list ra
    refine ⟨x, _, _, _, _, rfl, .ty _, ?_, kit_ty (kit_list t), q _ H Hf (Same.refl _) rr (rp_bool _)⟩
    rw [e1]
    rcases s1 with (s1 | ⟨o, s1⟩) | ⟨o, its, m, s1, hc, _⟩
    · exact .base (.lst s1)
    · exact .base (.frz s1)
    · exact .kList s1 hc
  | tuple ds =>
    cases e
    obtain ⟨p, xs, e1, s1, _⟩ := rpt_tuple ra
    refine ⟨x, _, _, _, _, rfl, .ty _, ?_, kit_ty (kit_tuple t), q _ H Hf (Same.refl _) rr (rp_bool _)⟩
    rw [e1]
    exact sqt_ty (Same.sqT rr.fz s1)
  | dict kvs => cases e
theorem boot_ty (t : Ty) : bootBuiltins (Str.ofString t.nm) = some (.type t.nm) := by cases t <;> decide +kernel
theorem ne_ty (t : Ty) : (Str.ofString t.nm) ≠ "__name__" ∧ ((Str.ofString t.nm) == ("__debug__" : Str)) = false := by cases t <;> decide +kernel
theorem de_isi {x : Str} {p p' : Pos} (t : Ty) (S : Sc C n) (j k : Nat) (hj : n.bs[j]? = some ("isinstance" : Str)) (hk : n.bs[k]? = some x) (hx : x = Str.ofString t.nm) (ha : DK C a ma) : DE C (.Call (.Name "isinstance" p) [a, .Name x p'] [] pos) (c1 (isiD t) ma) := by
  subst hx
  refine ⟨PE.imp (pe_callB call_isi (S.bl hj).1 (S.bl hj).2 (by decide +kernel) (pa_cons ha.pe (pa_cons (pe_bltn (v := .ty t.nm) (S.bl hk).1 (S.bl hk).2 (boot_ty t) rfl (ne_ty t).1 (ne_ty t).2) pa_nil rfl) (star_ok ha.ok _ _)) (by decide) (by decide) (star_ok ha.ok _ _) rfl) fun σ H Q ⟨Hf, G, ρ, rr, h⟩ => ?_, rfl⟩
  refine post_bind rr h fun x d H1 Hf1 ρ1 s1 r1 rx p1 => ?_
  obtain ⟨z, e, q⟩ := opt_post p1
  exact isi_ok r1 rx e q
/-! ### min, max of two numbers -/
def max2D : D → D → Option D
  | .int i, .int j => some (.int (if j > i then j else i))
  | _, _ => none
def min2D : D → D → Option D
  | .int i, .int j => some (.int (if j < i then j else i))
  | _, _ => none
theorem de_max2 {p : Pos} (S : Sc C n) (j : Nat) (hj : n.bs[j]? = some ("max" : Str)) (ha : DE C a ma) (hb : DE C b mb) : DE C (.Call (.Name "max" p) [a, b] [] pos) (bin max2D ma mb) :=
  ⟨PE.imp (pe_callB (call_max2 S.calm) (S.bl hj).1 (S.bl hj).2 (by decide +kernel) (pa_cons ha.pe (pa_cons hb.pe pa_nil (star_ok hb.ok _ _)) (star_ok ha.ok _ _)) (by decide) (by decide) (star_ok ha.ok _ _) (by show ((backTo pos (starEach [b] C.X.env)).any (·.1)) = false; rw [star_ok hb.ok]; rfl)) fun σ H Q ⟨Hf, G, ρ, rr, h⟩ => post_bind rr h fun x d H1 Hf1 ρ1 s1 r1 rx p1 => post_bind r1 p1 fun y d2 H2 Hf2 ρ2 s2 r2 ry p2 => (by
    obtain ⟨z, e, q⟩ := opt_post p2
    unfold max2D at e
    split at e
    · rename_i i j
      cases e
      have e1 : x = .int i := by simpa only [Rp] using rx
      have e2 : y = .int j := by simpa only [Rp] using ry
      exact ⟨i, j, by rw [e1, e2], q _ H2 Hf2 (Same.refl _) r2 (rp_int _)⟩
    · cases e), rfl⟩
theorem de_min2 {p : Pos} (S : Sc C n) (j : Nat) (hj : n.bs[j]? = some ("min" : Str)) (ha : DE C a ma) (hb : DE C b mb) : DE C (.Call (.Name "min" p) [a, b] [] pos) (bin min2D ma mb) :=
  ⟨PE.imp (pe_callB (call_min2 S.calm) (S.bl hj).1 (S.bl hj).2 (by decide +kernel) (pa_cons ha.pe (pa_cons hb.pe pa_nil (star_ok hb.ok _ _)) (star_ok ha.ok _ _)) (by decide) (by decide) (star_ok ha.ok _ _) (by show ((backTo pos (starEach [b] C.X.env)).any (·.1)) = false; rw [star_ok hb.ok]; rfl)) fun σ H Q ⟨Hf, G, ρ, rr, h⟩ => post_bind rr h fun x d H1 Hf1 ρ1 s1 r1 rx p1 => post_bind r1 p1 fun y d2 H2 Hf2 ρ2 s2 r2 ry p2 => (by
    obtain ⟨z, e, q⟩ := opt_post p2
    unfold min2D at e
    split at e
    · rename_i i j
      cases e
      have e1 : x = .int i := by simpa only [Rp] using rx
      have e2 : y = .int j := by simpa only [Rp] using ry
      exact ⟨i, j, by rw [e1, e2], q _ H2 Hf2 (Same.refl _) r2 (rp_int _)⟩
    · cases e), rfl⟩
/-! ### what is walked -/
theorem PI.imp {X : Cx} {tg e : Expr} {t t' : TI} (h : PI X tg e t) (k : ∀ σ H Q, t' σ H Q → t σ H Q) : PI X tg e t' := ⟨fun pins s σ H Q I hw => h.run pins s σ H Q I (k _ _ _ hw)⟩
theorem it_at {T : Wd} {Hf : Hp} {J : It} {ds : List D} {xs : List V} {g : Hp → Prop} (w : Walk J xs.length g (YAt xs)) (hg : ∀ H, Same Hf H → g H) (ra : RpA T Hf ds xs) : ItOk T Hf J ds := by
  have hl := RpA.length ra
  refine ⟨fun i H s hi => w.goes i H (by omega) (hg H s), fun i H x H' d s e y => .inl ?_, fun H s => by rw [← hl]; exact w.stops H (hg H s)⟩
  have hi : i < xs.length := by rw [hl]; exact lt_of_get e
  obtain ⟨e1, e2⟩ := w.yields i H x H' hi (hg H s) y
  obtain ⟨v, hv, rv⟩ := RpA.get ra e
  rw [hv] at e2; cases e2
  exact ⟨e1, rv⟩
/-- a list, a tuple, a text: which one is told by the data -/
def signsD (z : Str) : List D := z.cps.toList.map fun c => .str ⟨#[c]⟩
def walkD : D → Option (List D)
  | .list ds => some ds
  | .tuple ds => some ds
  | .str z => some (signsD z)
  | _ => none
def itM (m : M D) : M (List D) := bnd m fun x => opt (walkD x)
def iSeq (K : PySem.W.Frag) (tl : TE) : TI := fun σ H R => tl σ H fun x H1 => (∃ a xs, x = .ref a ∧ SqL K H1 a xs ∧ R (Itl K a) H1) ∨ (∃ a xs, x = .ref a ∧ SqT K H1 a xs ∧ R (Itt K a) H1) ∨ ∃ z, x = .str z ∧ R (Its z) H1
theorem pi_seq {X : Cx} {tg l : Expr} {tl : TE} (hl : PE X l tl) : PI X tg l (iSeq X.K tl) := by
  refine ⟨fun pins s σ H R I h => ?_⟩
  refine thn (hl.run pins s σ H _ I h) fun v s1 ⟨x, H1, I1, r1, q⟩ => ?_
  rcases q with ⟨a, xs, e, hq, q⟩ | ⟨a, xs, e, hq, q⟩ | ⟨z, e, q⟩
  · subst e
    cases r1
    obtain ⟨its, rv, p, hz⟩ := I1.list hq
    refine wpAny_pyIter_list p.isList ?_
    refine ⟨s1.heap.objs.size, [s1.heap.objs.size], _, _, H1, rfl, I1.kept (t' := s1.toks) fun b o e => Heap.get?_push_of_some _ e, turn_list a _, ⟨_, Heap.get?_push_size _ rfl, rfl, rfl⟩, fun b hb => ?_, q⟩
    have e : b = s1.heap.objs.size := by simpa using hb
    subst e
    exact I1.fpOk (Nat.le_refl _) (I1.hok.fresh (Nat.le_refl _))
  · subst e
    cases r1
    obtain ⟨its, rv, p, hz⟩ := I1.tuple hq
    refine wpAny_pyIter_tuple (show s1.heap.IsTuple a its.toArray from p) ?_
    refine ⟨s1.heap.objs.size, [s1.heap.objs.size], _, _, H1, rfl, I1.kept (t' := s1.toks) fun b o e => Heap.get?_push_of_some _ e, turn_tuple a _, ⟨_, Heap.get?_push_size _ rfl, rfl, rfl⟩, fun b hb => ?_, q⟩
    have e : b = s1.heap.objs.size := by simpa using hb
    subst e
    exact I1.fpOk (Nat.le_refl _) (I1.hok.fresh (Nat.le_refl _))
  · subst e
    obtain ⟨t, rfl⟩ := r1
    cases ha : z.cps.all (· < 128)
    · exact wpAny_pyIter_wide ha (pi_one (tk := s1.toks) I1 _ (turn_str _ z t "str_iterator" (.inr rfl)) ⟨_, Heap.get?_push_size _ rfl, rfl, rfl⟩ q)
    · exact wpAny_pyIter_ascii ha (pi_one (tk := s1.toks) I1 _ (turn_str _ z t "str_ascii_iterator" (.inl rfl)) ⟨_, Heap.get?_push_size _ rfl, rfl, rfl⟩ q)
theorem it_str {T : Wd} {Hf : Hp} {z : Str} (h : PyData.strOk z = true) : ItOk T Hf (Its z) (signsD z) := by
  have hl : (signsD z).length = z.cps.size := by simp [signsD]
  refine ⟨fun i H s hi => by rw [hl] at hi; exact walk_str.goes i H hi trivial, fun i H x H' d s e y => .inl ?_, fun H s => by rw [hl]; exact walk_str.stops H trivial⟩
  have hi : i < z.cps.size := by rw [← hl]; exact lt_of_get e
  obtain ⟨e1, c, hc, hx⟩ := walk_str.yields i H x H' hi trivial y
  have : d = .str ⟨#[c]⟩ := by
    have hc' : z.cps.toList[i]? = some c := by rw [Array.getElem?_toList]; exact hc
    simp only [signsD, List.getElem?_map, hc', Option.map_some, Option.some.injEq] at e
    exact e.symm
  subst this hx
  refine ⟨e1, rp_str (strOk_one h ?_)⟩
  exact List.mem_of_getElem? (by rw [Array.getElem?_toList]; exact hc)
theorem di_seq {tg : Expr} (h : DE C a ma) : DI C tg a (itM ma) :=
  ⟨PI.imp (pi_seq h.pe) fun σ H R ⟨Hf, G, ρ, rr, h⟩ => post_bind rr h fun x d H1 Hf1 ρ1 s1 r1 rx p1 => (by
    obtain ⟨z, e, q⟩ := opt_post p1
    unfold walkD at e
    split at e
    · cases e
      simp only [Rp] at rx
      obtain ⟨p, xs, e1, s1, ra⟩ := rx
      refine .inl ⟨p, xs, e1, (r1.fz.seq s1), q _ H1 Hf1 (Same.refl _) r1 (it_at walk_list (fun H s => s.seq s1) ra)⟩
    · cases e
      simp only [Rp] at rx
      obtain ⟨p, xs, e1, s1, ra⟩ := rx
      refine .inr (.inl ⟨p, xs, e1, Same.sqT r1.fz s1, q _ H1 Hf1 (Same.refl _) r1 (it_at walk_tup (fun H s => Same.sqT s s1) ra)⟩)
    · cases e
      simp only [Rp] at rx
      exact .inr (.inr ⟨_, rx.1, q _ H1 Hf1 (Same.refl _) r1 (it_str rx.2)⟩)
    · cases e), h.ok⟩
/-! ### ranges -/
def rgD (lo : Int) (k : Nat) (c : Int) : List D := (List.range k).map fun (i : Nat) => .int (lo + (i : Int) * c)
theorem rg_get {lo c : Int} {k i : Nat} {d : D} (h : (rgD lo k c)[i]? = some d) : i < k ∧ d = .int (lo + (i : Int) * c) := by
  have hi : i < k := by simpa [rgD] using lt_of_get h
  refine ⟨hi, ?_⟩
  simp only [rgD, List.getElem?_map, List.getElem?_range hi, Option.map_some, Option.some.injEq] at h
  exact h.symm
theorem it_fn {T : Wd} {Hf : Hp} {J : It} {lo c : Int} {k : Nat} (w : Walk J k (fun _ => True) (YFn fun i => .int (lo + (i : Nat) * c))) : ItOk T Hf J (rgD lo k c) := by
  have hl : (rgD lo k c).length = k := by simp [rgD]
  refine ⟨fun i H s hi => w.goes i H (by omega) trivial, fun i H x H' d s e y => .inl ?_, fun H s => by rw [hl]; exact w.stops H trivial⟩
  obtain ⟨hi, rfl⟩ := rg_get e
  obtain ⟨e1, e2⟩ := w.yields i H x H' hi trivial y
  subst e2
  exact ⟨e1, rp_int _⟩
theorem walk_range1 {lo : Int} {k : Nat} : Walk (Itr lo k) k (fun _ => True) (YFn fun i => .int (lo + (i : Nat) * 1)) :=
  walk_range.mono (fun _ h => h) fun i H x H' _ _ ⟨e, y⟩ => ⟨e, by rw [y]; show V.int _ = V.int _; rw [Int.mul_one]⟩
def inR (i : Int) : Bool := big (-(2 ^ 62) ≤ i ∧ i < 2 ^ 62)
def rg1 (m : M D) : M (List D) := bnd m fun x => match x with
  | .int j => if inR j then ret (rgD 0 j.toNat 1) else stop
  | _ => stop
def rg2 (ma mb : M D) : M (List D) := bnd ma fun x => bnd mb fun y => match x, y with
  | .int i, .int j => if inR i && inR j then ret (rgD i (j - i).toNat 1) else stop
  | _, _ => stop
theorem inR_ok {i : Int} (h : inR i = true) : -(2 ^ 62) ≤ i ∧ i < 2 ^ 62 := by
  exact of_big h
theorem di_rg1 {tg : Expr} {p : Pos} (S : Sc C n) (j : Nat) (hj : n.bs[j]? = some ("range" : Str)) (ha : DE C a ma) : DI C tg (.Call (.Name "range" p) [a] [] pos) (rg1 ma) :=
  ⟨PI.imp (pi_range1 (S.bl hj).1 (S.bl hj).2 (pa_cons ha.pe pa_nil (star_ok ha.ok _ _)) (by rw [star_ok ha.ok]; rfl)) fun σ H R ⟨Hf, G, ρ, rr, h⟩ => post_bind rr h fun x d H1 Hf1 ρ1 s1 r1 rx p1 => (by
    split at p1
    · rename_i j
      split at p1
      · rename_i hr
        have e1 : x = .int j := by simpa only [Rp] using rx
        exact ⟨j, by rw [e1], (inR_ok hr).1, (inR_ok hr).2, p1 _ H1 Hf1 (Same.refl _) r1 (it_fn walk_range1)⟩
      · exact p1.elim
    · exact p1.elim), rfl⟩
theorem di_rg2 {tg : Expr} {p : Pos} (S : Sc C n) (j : Nat) (hj : n.bs[j]? = some ("range" : Str)) (ha : DE C a ma) (hb : DE C b mb) : DI C tg (.Call (.Name "range" p) [a, b] [] pos) (rg2 ma mb) :=
  ⟨PI.imp (pi_range2 (S.bl hj).1 (S.bl hj).2 (pa_cons ha.pe (pa_cons hb.pe pa_nil (star_ok hb.ok _ _)) (star_ok ha.ok _ _)) (by rw [star_ok ha.ok, star_ok hb.ok]; rfl) (by rw [star_ok hb.ok]; rfl)) fun σ H R ⟨Hf, G, ρ, rr, h⟩ => post_bind rr h fun x d H1 Hf1 ρ1 s1 r1 rx p1 => post_bind r1 p1 fun y d2 H2 Hf2 ρ2 s2 r2 ry p2 => (by
    split at p2
    · rename_i i j
      split at p2
      · rename_i hr
        rw [Bool.and_eq_true] at hr
        have e1 : x = .int i := by simpa only [Rp] using rx
        have e2 : y = .int j := by simpa only [Rp] using ry
        exact ⟨i, j, by rw [e1, e2], ⟨(inR_ok hr.1).1, (inR_ok hr.1).2, (inR_ok hr.2).1, (inR_ok hr.2).2⟩, p2 _ H2 Hf2 (Same.refl _) r2 (it_fn walk_range1)⟩
      · exact p2.elim
    · exact p2.elim), rfl⟩
/-! ### enumerate -/
def enD (ds : List D) : List D := ds.zipIdx.map fun p => .tuple [.int (p.2 : Nat), p.1]
theorem en_get {ds : List D} {i : Nat} {d : D} (h : (enD ds)[i]? = some d) : ∃ x, ds[i]? = some x ∧ d = .tuple [.int (i : Nat), x] := by
  simp only [enD, List.getElem?_map, List.getElem?_zipIdx, Option.map_map] at h
  obtain ⟨x, e, h⟩ := Option.map_eq_some_iff.mp h
  exact ⟨x, e, by rw [← h]; simp⟩
theorem it_pair {T : Wd} {Hf : Hp} {J : It} {ds : List D} {k : Nat} {g : Hp → Prop} {xs ys : Nat → Option V} (w : Walk J k g (YPair xs ys)) (hg : ∀ H, Same Hf H → g H) (hl : ds.length = k)
    (hd : ∀ (i : Nat) d, ds[i]? = some d → ∃ a b, d = .tuple [a, b] ∧ ∀ x y, xs i = some x → ys i = some y → Rp T Hf a x ∧ Rp T Hf b y) : ItOk T Hf J ds := by
  refine ⟨fun i H s hi => w.goes i H (by omega) (hg H s), fun i H x H' d s e y => .inr ?_, fun H s => by rw [hl]; exact w.stops H (hg H s)⟩
  have hi : i < k := by rw [← hl]; exact lt_of_get e
  obtain ⟨p, u, v, e1, hp, e2, hx, hy⟩ := w.yields i H x H' hi (hg H s) y
  obtain ⟨a, b, rfl, hr⟩ := hd i d e
  obtain ⟨ra, rb⟩ := hr u v hx hy
  subst e1 e2
  have hn : Hf p = none := s.free hp
  exact ⟨p, _, hp, rfl, rp_tuple (SqT.of upd_same) (RpA.cons (Rp.mono (Same.updN hn) _ _ ra) (RpA.cons (Rp.mono (Same.updN hn) _ _ rb) RpA.nil))⟩
def enM (m : M D) : M (List D) := bnd m fun x => match x with
  | .list ds => ret (enD ds)
  | _ => stop
theorem di_enum {elts : List Expr} {kk : Nat} {tpos p : Pos} (S : Sc C n) (j : Nat) (hj : n.bs[j]? = some ("enumerate" : Str)) (ha : DE C a ma) : DI C (.Tuple elts kk tpos) (.Call (.Name "enumerate" p) [a] [] pos) (enM ma) :=
  ⟨PI.imp (pi_enum (S.bl hj).1 (S.bl hj).2 (pa_cons ha.pe pa_nil (star_ok ha.ok _ _)) (by rw [star_ok ha.ok]; rfl)) fun σ H R ⟨Hf, G, ρ, rr, h⟩ => post_bind rr h fun x d H1 Hf1 ρ1 s1 r1 rx p1 => (by
    split at p1
    · rename_i ds
      simp only [Rp] at rx
      obtain ⟨q, xs, e1, s1, ra⟩ := rx
      subst e1
      refine ⟨q, xs, rfl, (r1.fz.seq s1), p1 _ H1 Hf1 (Same.refl _) r1 (it_pair walk_enum (fun H s => s.seq s1) (by simp [enD, RpA.length ra]) fun i d e => ?_)⟩
      obtain ⟨y, e2, rfl⟩ := en_get e
      obtain ⟨v, hv, rv⟩ := RpA.get ra e2
      refine ⟨_, _, rfl, fun x z hx hz => ?_⟩
      cases hx
      rw [hv] at hz; cases hz
      exact ⟨rp_int _, rv⟩
    · exact p1.elim), rfl⟩
end
end DS
namespace DS
open PySem L2
/-! ### comprehensions -/
def wpR (ρ : Rho) : List Nat → Rho
  | [] => ρ
  | v :: vs => (wpR ρ vs).set v .un
theorem RR.wipe {F : Fx} {Hf G H : Hp} {σ : St} {ρ : Rho} (R : RR F Hf G σ H ρ) : ∀ {vs : List Nat}, (∀ i ∈ vs, i ∉ F.mp) → RR F Hf G (wipe σ vs) H (wpR ρ vs)
  | [], _ => R
  | v :: vs, h => (RR.wipe R fun i hi => h i (List.mem_cons_of_mem _ hi)).drop (h v List.mem_cons_self) none
theorem wipe_get {σ : St} {i : Nat} : ∀ {vs : List Nat}, i ∉ vs → (wipe σ vs)[i]? = σ[i]?
  | [], _ => rfl
  | v :: vs, h => by
    rw [List.mem_cons, not_or] at h
    unfold wipe
    rw [List.getElem?_set_ne (Ne.symm h.1), wipe_get h.2]
theorem wpR_un {ρ : Rho} {i : Nat} {x : Sl} : ∀ {vs : List Nat}, i ∈ vs → (wpR ρ vs)[i]? = some x → x = .un
  | v :: vs, h, e => by
    unfold wpR at e
    rcases get_set_cases e with ⟨_, z, _⟩ | ⟨hv, e⟩
    · exact z
    · rcases List.mem_cons.mp h with z | z
      · exact absurd z hv
      · exact wpR_un z e
/-- slots that are forgotten may hold anything -/
theorem RR.unwipe {F : Fx} {Hf G H : Hp} {σ σ' : St} {ρ : Rho} {vs : List Nat} (R : RR F Hf G σ H ρ) (hm : ∀ i ∈ vs, i ∉ F.mp) (hu : ∀ (i : Nat) x, i ∈ vs → ρ[i]? = some x → x = .un) (hl : σ'.length = σ.length) (hs : ∀ i, i ∉ vs → σ'[i]? = σ[i]?) : RR F Hf G σ' H ρ := by
  refine ⟨R.fz, R.fg, R.dj, R.len.trans hl.symm, fun i x e => ?_, fun i j x y p hij ex ey ox oy hx hy => ?_, fun i hi => ?_⟩
  · by_cases hv : i ∈ vs
    · rw [hu i x hv e]; trivial
    · rw [hs i hv]; exact R.sl i x e
  · have h1 : i ∉ vs := fun z => by rw [hu i x z ex] at ox; cases ox
    have h2 : j ∉ vs := fun z => by rw [hu j y z ey] at oy; cases oy
    rw [hs i h1] at hx
    rw [hs j h2] at hy
    exact R.ds i j x y p hij ex ey ox oy hx hy
  · have h1 : i ∉ vs := fun z => hm i z hi
    rw [hs i h1]; exact R.kp i hi
theorem wipe_ag {σ σ' : St} {ws vs : List Nat} (h : Ag ws σ σ') (hs : ∀ i ∈ ws, i ∈ vs) : wipe σ' vs = wipe σ vs := by
  have hl : ∀ (τ : St) (us : List Nat), (wipe τ us).length = τ.length := fun τ us => wipe_length τ us
  apply List.ext_getElem?
  intro i
  by_cases hi : i ∈ vs
  · have key : ∀ (τ : St) (us : List Nat), i ∈ us → (wipe τ us)[i]? = if i < τ.length then some none else none := by
      intro τ us
      induction us with
      | nil => intro h; cases h
      | cons v us ih =>
        intro h
        unfold wipe
        by_cases hv : v = i
        · subst hv
          by_cases hlt : v < τ.length
          · rw [List.getElem?_set_self (by rw [hl]; exact hlt), if_pos hlt]
          · rw [if_neg hlt, List.getElem?_eq_none (by rw [List.length_set, hl]; omega)]
        · rw [List.getElem?_set_ne hv]
          rcases List.mem_cons.mp h with z | z
          · exact absurd z.symm hv
          · exact ih z
    rw [key _ _ hi, key _ _ hi, h.1]
  · rw [wipe_get hi, wipe_get hi]
    exact h.2 i fun z => hi (hs i z)
/-- the owned list beside: kept while the rest runs -/
theorem RR.aside {F : Fx} {Hf G H : Hp} {σ : St} {ρ : Rho} {p : Addr} {o : HO} (R : RR F Hf G σ H ρ) (f : Fresh Hf G σ ρ p) (h : H p = some o) : RR F Hf (upd G p o) σ H ρ := by
  refine ⟨R.fz, fun b u e => ?_, fun b u e => ?_, R.len, fun i x e => ?_, R.ds, R.kp⟩
  · by_cases hb : b = p
    · subst hb; rw [upd_same] at e; rw [h]; exact e
    · rw [upd_ne hb] at e; exact R.fg b u e
  · by_cases hb : b = p
    · subst hb; exact f.1
    · rw [upd_ne hb] at e; exact R.dj b u e
  · have hs := R.sl i x e
    have hne : ∀ q, owns x = true → σ[i]? = some (some (.ref q)) → upd G p o q = G q := fun q ho hq => by
      rw [upd_ne]
      intro z
      subst z
      exact f.2.2 i x e ho hq
    cases x with
    | un => trivial
    | im d => exact hs
    | ml ds => obtain ⟨q, vs, a, b, c, d, r⟩ := hs; exact ⟨q, vs, a, b, by rw [hne q rfl a]; exact c, d, r⟩
    | md kvs => obtain ⟨q, a, b, c, d⟩ := hs; exact d.elim
    | mi c fs => obtain ⟨q, C, dx, vs, a, b, c1, d⟩ := hs; exact ⟨q, C, dx, vs, a, b, by rw [hne q rfl a]; exact c1, d⟩
/-- .. back again, changed -/
theorem RR.back {F : Fx} {Hf G H : Hp} {σ : St} {ρ : Rho} {p : Addr} {o o' : HO} (R : RR F Hf (upd G p o) σ H ρ) (g : G p = none) : RR F Hf G σ (upd H p o') ρ ∧ Fresh Hf G σ ρ p := by
  have hf : Hf p = none := R.dj p o upd_same
  have hno : ∀ (i : Nat) x, ρ[i]? = some x → owns x = true → σ[i]? ≠ some (some (.ref p)) := fun i x e ho hq => by
    have := (R.own e ho hq).2.1
    rw [upd_same] at this; cases this
  have kH : ∀ b v, b ≠ p → H b = some v → upd H p o' b = some v := fun b v hb q => by rw [upd_ne hb]; exact q
  refine ⟨⟨fun b u e => kH b u (fun z => by subst z; rw [hf] at e; cases e) (R.fz b u e), fun b u e => ?_, fun b u e => ?_, R.len, fun i x e => ?_, R.ds, R.kp⟩, hf, g, hno⟩
  · have hb : b ≠ p := fun z => by subst z; rw [g] at e; cases e
    exact kH b u hb (R.fg b u (by rw [upd_ne hb]; exact e))
  · have hb : b ≠ p := fun z => by subst z; rw [g] at e; cases e
    exact R.dj b u (by rw [upd_ne hb]; exact e)
  · have hs := R.sl i x e
    have hne : ∀ q, owns x = true → σ[i]? = some (some (.ref q)) → q ≠ p := fun q ho hq z => by
      subst z
      exact hno i x e ho hq
    cases x with
    | un => trivial
    | im d => exact hs
    | ml ds => obtain ⟨q, vs, a, b, c, d, r⟩ := hs; exact ⟨q, vs, a, b, by rw [upd_ne (hne q rfl a)] at c; exact c, kH _ _ (hne q rfl a) d, r⟩
    | md kvs => obtain ⟨q, a, b, c, d⟩ := hs; exact d.elim
    | mi c fs => obtain ⟨q, C, dx, vs, a, b, c1, d, r⟩ := hs; exact ⟨q, C, dx, vs, a, b, by rw [upd_ne (hne q rfl a)] at c1; exact c1, kH _ _ (hne q rfl a) d, r⟩

/-- one turn after another; what is made so far in acc -/
def lcA (vs : List Nat) (f : D → M Unit) (t : M Bool) (el : M D) : List D → List D → M (List D)
  | acc, [] => fun ρ => .ok acc (wpR ρ vs)
  | acc, d :: ds => fun ρ => match f d (wpR ρ vs) with
    | .ok _ ρ1 => (match t ρ1 with
      | .ok true ρ2 => (match el ρ2 with
        | .ok y ρ3 => if acc.length < sizeLine then lcA vs f t el (acc ++ [y]) ds ρ3 else .no
        | _ => .no)
      | .ok false ρ2 => lcA vs f t el acc ds ρ2
      | _ => .no)
    | _ => .no
def lcM (vs : List Nat) (mi : M (List D)) (f : D → M Unit) (t : M Bool) (el : M D) : M (List D) := bnd mi (lcA vs f t el [])
structure DTs (C : DC) (es : List Expr) (m : M Bool) : Prop where
  pt : PTs C.X es (Lft C relB m)
theorem PTs.imp {X : Cx} {e : List Expr} {t t' : TT} (h : PTs X e t) (k : ∀ σ H Q, t' σ H Q → t σ H Q) : PTs X e t' := ⟨fun pins s σ H Q I hw => h.run pins s σ H Q I (k _ _ _ hw)⟩
theorem dts_nil {C : DC} : DTs C [] (ret true) := ⟨PTs.imp pts_nil fun σ H Q ⟨Hf, G, ρ, rr, h⟩ => h true H Hf (Same.refl _) rr rfl⟩
theorem dts_one {C : DC} {e : Expr} {m : M Bool} (h : DT C e m) : DTs C [e] m := ⟨pts_one h.pt⟩
/-- the context of a comprehension's block -/
def DC.blk (C : DC) (s : Shared) (H : Hp) (scope : Scope) (A : Addr) (cl : List (Str × Addr)) (fp : List Addr) : DC := ⟨C.X.blk s H scope (compEnvC scope cl A C.X.env) fp, fun _ _ _ _ => False, C.mp, C.s0⟩
@[reducible] def Nm.sub (n : Nm) (vs ws : List Nat) (gs bs : List Str) : Nm := { n with vs := vs, ws := ws, gs := gs, bs := bs, ls := [], cs := [] }
/-- the names of the block: its own, and those of the def that it reads -/
def blB (n : Nm) (sc scope : Scope) (own : List (Str × Nat)) (vs : List Nat) (gs bs : List Str) : Bool :=
  blkC n.N sc scope own && scB (n.sub vs (own.map (·.2)) gs bs) scope
/-- the scope of a context: as written, or a block's -/
def LkSc (C : DC) (sc : Scope) : Prop := C.X.env.scope = sc ∨ ∃ env, C.X.env.scope = PySem.relabel sc env
theorem lookup_map {α β : Type} (g : Str → α → β) (x : Str) : ∀ l : List (Str × α), (l.map fun (p : Str × α) => (p.1, g p.1 p.2)).lookup x = (l.lookup x).map (g x)
  | [] => rfl
  | (y, k) :: l => by
    rw [List.map_cons, List.lookup_cons, List.lookup_cons]
    by_cases h : x = y
    · subst h; simp
    · have : (x == y) = false := beq_eq_false_iff_ne.mpr h
      simp only [this]
      exact lookup_map g x l
theorem relabel_look (scope : Scope) (env : Env) (x : Str) : (PySem.relabel scope env).names.lookup x = (scope.names.lookup x).map fun k => if (k == .free && env.scope.kind == .function && env.kindOf x == some .cell) then .cell else k := by
  have h := lookup_map (fun (n : Str) (k : NameKind) => if (k == .free && env.scope.kind == .function && env.kindOf n == some .cell) then NameKind.cell else k) x scope.names
  rw [← h]
  show List.lookup x (scope.names.map _) = _
  congr 1
  apply List.map_congr_left
  intro p _
  obtain ⟨a, k⟩ := p
  show (if _ then (a, NameKind.cell) else (a, k)) = (a, if _ then NameKind.cell else k)
  split <;> rfl
theorem lk_local {scope : Scope} {env : Env} {x : Str} (h : scope.names.lookup x = some .local) : (PySem.relabel scope env).names.lookup x = some .local := by rw [relabel_look, h]; rfl
theorem lk_cell {scope : Scope} {env : Env} {x : Str} (h : scope.names.lookup x = some .cell) : (PySem.relabel scope env).names.lookup x = some .cell := by rw [relabel_look, h]; rfl
theorem lk_glob {scope : Scope} {env : Env} {x : Str} (h : scope.names.lookup x = some .globalImplicit) : (PySem.relabel scope env).names.lookup x = some .globalImplicit := by rw [relabel_look, h]; rfl
theorem lk_free {scope : Scope} {env : Env} {x : Str} (h : scope.names.lookup x = some .free) : (PySem.relabel scope env).names.lookup x = some .cell ∨ (PySem.relabel scope env).names.lookup x = some .free := by
  rw [relabel_look, h]
  simp only [Option.map_some]
  split
  · exact .inl rfl
  · exact .inr rfl
theorem beq_kind (k : NameKind) : (some k == some k) = true := by cases k <;> rfl
theorem scB_rel {n : Nm} {scope : Scope} {env : Env} (h : scB n scope = true) : scB n (PySem.relabel scope env) = true := by
  unfold scB at h ⊢
  simp only [Bool.and_eq_true] at h ⊢
  refine ⟨List.all_eq_true.mpr fun i hi => ?_, List.all_eq_true.mpr fun i hi => ?_, ⟨List.all_eq_true.mpr fun x hx => ?_, h.2.2.1.2⟩, List.all_eq_true.mpr fun i hi => ?_, List.all_eq_true.mpr fun i hi => ?_⟩
  · have q := List.all_eq_true.mp h.1 i hi
    cases e : n.N[i]? with
    | none => rw [e] at q; cases q
    | some x =>
      rw [e] at q
      simp only [visB, Bool.and_eq_true, Bool.or_eq_true] at q ⊢
      refine ⟨?_, q.2⟩
      rcases q.1 with (z | z) | z
      · rw [lk_local (eq_of_beq_kind z)]; exact .inl (.inl (beq_kind _))
      · rw [lk_cell (eq_of_beq_kind z)]; exact .inl (.inr (beq_kind _))
      · rcases lk_free (env := env) (eq_of_beq_kind z) with y | y
        · rw [y]; exact .inl (.inr (beq_kind _))
        · rw [y]; exact .inr (beq_kind _)
  · have q := List.all_eq_true.mp h.2.1 i hi
    cases e : n.N[i]? with
    | none => rw [e] at q; cases q
    | some x =>
      rw [e] at q
      simp only [locB, Bool.and_eq_true, Bool.or_eq_true] at q ⊢
      refine ⟨?_, q.2⟩
      rcases q.1 with z | z
      · rw [lk_local (eq_of_beq_kind z)]; exact .inl (beq_kind _)
      · rw [lk_cell (eq_of_beq_kind z)]; exact .inr (beq_kind _)
  · have q := List.all_eq_true.mp h.2.2.1.1 x hx
    simp only [glB, Bool.and_eq_true] at q ⊢
    refine ⟨?_, q.2⟩
    rw [lk_glob (eq_of_beq_kind q.1)]; exact beq_kind _
  · have q := List.all_eq_true.mp h.2.2.2.1 i hi
    cases e : n.N[i]? with
    | none => rw [e] at q; cases q
    | some x =>
      rw [e] at q
      show ((PySem.relabel scope env).names.lookup x == some NameKind.local) = true
      rw [lk_local (eq_of_beq_kind q)]; exact beq_kind _
  · have q := List.all_eq_true.mp h.2.2.2.2 i hi
    cases e : n.N[i]? with
    | none => rw [e] at q; cases q
    | some x =>
      rw [e] at q
      show ((PySem.relabel scope env).names.lookup x == some NameKind.cell) = true
      rw [lk_cell (eq_of_beq_kind q)]; exact beq_kind _
theorem blkC_rel {N : List Str} {sc scope : Scope} {own : List (Str × Nat)} {env : Env} (h : blkC N sc scope own = true) : blkC N (PySem.relabel sc env) scope own = true := by
  unfold blkC at h ⊢
  simp only [Bool.and_eq_true] at h ⊢
  refine ⟨h.1, List.all_eq_true.mpr fun y hy => ?_⟩
  have q := List.all_eq_true.mp h.2 y hy
  obtain ⟨a, k⟩ := y
  cases k with
  | free =>
    simp only at q ⊢
    cases e : sc.names.lookup a with
    | none => rw [e] at q; cases q
    | some z =>
      rw [e] at q
      cases z with
      | cell => rw [lk_cell e]
      | free => rcases lk_free (env := env) e with y | y <;> rw [y]
      | _ => cases q
  | _ => exact q
theorem LkSc.blkC {C : DC} {sc scope : Scope} {N : List Str} {own : List (Str × Nat)} (l : LkSc C sc) (h : blkC N sc scope own = true) : blkC N C.X.env.scope scope own = true := by
  rcases l with l | ⟨env, l⟩
  · rw [l]; exact h
  · rw [l]; exact blkC_rel h
theorem Sc.blk {C : DC} {n : Nm} {sc scope : Scope} {own : List (Str × Nat)} {vs : List Nat} {gs bs : List Str} (S : Sc C n) (h : blB n sc scope own vs gs bs = true) (s : Shared) (H : Hp) (A : Addr) (cl : List (Str × Addr)) (fp : List Addr) : Sc (C.blk s H scope A cl fp) (n.sub vs (own.map (·.2)) gs bs) := by
  unfold blB at h
  rw [Bool.and_eq_true] at h
  obtain ⟨h0, h2⟩ := h
  refine ⟨S.hN, S.nd, scB_rel h2, (blkOk_by h0).kind, S.calm, fun i hi x hx hc => ?_, S.mpe, PassesOwn.never, S.room, S.bno, S.fs⟩
  unfold scB at h2
  simp only [Bool.and_eq_true] at h2
  have q := List.all_eq_true.mp h2.2.1 i hi
  have hx' : n.N[i]? = some x := hx
  rw [show (n.sub vs (own.map (·.2)) gs bs).N[i]? = some x from hx'] at q
  simp only [locB, Bool.and_eq_true, Bool.or_eq_true] at q
  rcases q.1 with z | z
  · have : (PySem.relabel scope C.X.env).names.lookup x = some .cell := hc
    rw [lk_local (eq_of_beq_kind z)] at this
    cases this
  · exact z
theorem LkSc.blk {C : DC} {scope : Scope} (s : Shared) (H : Hp) (A : Addr) (cl : List (Str × Addr)) (fp : List Addr) : LkSc (C.blk s H scope A cl fp) scope := .inr ⟨C.X.env, rfl⟩
theorem wpR_get {ρ : Rho} {i : Nat} {x : Sl} : ∀ {vs : List Nat}, (wpR ρ vs)[i]? = some x → x ≠ .un → ρ[i]? = some x ∧ i ∉ vs
  | [], h, _ => ⟨h, by simp⟩
  | v :: vs, h, hu => by
    unfold wpR at h
    rcases get_set_cases h with ⟨_, z, _⟩ | ⟨hv, e⟩
    · exact absurd z hu
    · obtain ⟨h1, h2⟩ := wpR_get e hu
      exact ⟨h1, by simp only [List.mem_cons, not_or]; exact ⟨hv, h2⟩⟩
theorem owns_un {x : Sl} (h : owns x = true) : x ≠ .un := fun z => by subst z; cases h
theorem RR.wiped {F : Fx} {Hf G H : Hp} {σ σ' : St} {ρ : Rho} {us : List Nat} (R : RR F Hf G σ H ρ) (hm : ∀ i ∈ us, i ∉ F.mp) (e : L2.wipe σ us = L2.wipe σ' us) : RR F Hf G σ' H (wpR ρ us) := by
  refine (R.wipe hm).unwipe (σ' := σ') hm (fun i x hi hx => wpR_un hi hx) ?_ fun i hi => ?_
  · have := congrArg List.length e
    rw [wipe_length, wipe_length] at this
    rw [wipe_length]; exact this.symm
  · rw [e, wipe_get hi]
theorem Fresh.wiped {Hf G : Hp} {σ σ' : St} {ρ : Rho} {p : Addr} {us : List Nat} (f : Fresh Hf G σ ρ p) (e : wipe σ us = wipe σ' us) : Fresh Hf G σ' (wpR ρ us) p := ⟨f.1, f.2.1, fun i x hx ho => by
  obtain ⟨h1, h2⟩ := wpR_get hx (owns_un ho)
  have : σ'[i]? = σ[i]? := by rw [← wipe_get (σ := σ') h2, ← e, wipe_get h2]
  rw [this]
  exact f.2.2 i x h1 ho⟩
theorem wipe_wipe {σ : St} {us : List Nat} : wipe (wipe σ us) us = wipe σ us := wipe_ag (ws := us) ⟨wipe_length _ _, fun i hi => wipe_get hi⟩ fun _ h => h
@[reducible] def DC.blk1 (C : DC) : DC := ⟨C.X, fun _ _ _ _ => False, C.mp, C.s0⟩
theorem lc_read {C : DC} {us ws : List Nat} {mi : M (List D)} {f : D → M Unit} {t : M Bool} {el : M D} (hmp : ∀ i ∈ us, i ∉ C.F.mp) (hws : ∀ i ∈ ws, i ∈ us) : ∀ σ H Q, Lft C (relF C.T) (lcM us mi f t el) σ H Q →
    tLc (Lft C (relI C.T) mi) (LG C.blk1 ws f) (Lft C.blk1 relB t) (Lft C.blk1 (relE C.T) el) us σ H Q := fun σ H Q ⟨Hf, G, ρ, rr, h⟩ => by
  refine post_bind rr h fun J ds H1 Hf1 ρ1 s1 r1 k p1 => ?_
  intro A hA
  refine ⟨fun i m H => m = ds.length - i ∧ i ≤ ds.length ∧ ∃ Hf' ρ' acc vacc, Same Hf1 Hf' ∧ RR C.F Hf' G σ H (wpR ρ' us) ∧ Fresh Hf' G σ (wpR ρ' us) A ∧ H A = some (.lst vacc) ∧ RpA C.T Hf' acc vacc ∧ Post C (relF C.T) Hf' G σ Q (lcA us f t el acc (ds.drop i) ρ'),
    ⟨_, rfl, Nat.zero_le _, Hf1, ρ1, [], [], Same.refl _, (r1.grow (Same.updN hA)).wiped hmp rfl, (r1.fresh hA).wiped rfl, upd_same, RpA.nil, p1⟩, ?_⟩
  rintro i m H2 ⟨rfl, hil, Hf2, ρ2, acc, vacc, s2, r2, f2, hA2, ra2, p2⟩
  by_cases hlt : i < ds.length
  · have hd : ds.drop i = ds[i] :: ds.drop (i + 1) := List.drop_eq_getElem_cons hlt
    rw [hd] at p2
    refine .inr ⟨k.1 i H2 (s2.trans r2.fz) hlt, fun H => ∃ Hf' ρ' acc vacc, Same Hf1 Hf' ∧ RR C.F Hf' G σ H (wpR ρ' us) ∧ Fresh Hf' G σ (wpR ρ' us) A ∧ H A = some (.lst vacc) ∧ RpA C.T Hf' acc vacc ∧ Post C (relF C.T) Hf' G σ Q (lcA us f t el acc (ds.drop (i + 1)) ρ'), fun H' z => ⟨ds.length - (i + 1), by omega, rfl, hlt, z⟩, fun x H3 y => ?_⟩
    obtain ⟨Hf3, s3, r3, rp⟩ := ItOk.step k s2 (r2.aside f2 hA2) (List.getElem?_eq_getElem hlt) y
    have r3w : RR C.F Hf3 (upd G A (.lst vacc)) (wipe σ us) H3 (wpR ρ2 us) :=
      r3.unwipe hmp (fun i x hi hx => wpR_un hi hx) (wipe_length _ _) fun i hi => wipe_get hi
    refine ⟨Hf3, _, wpR ρ2 us, ds[i], r3w, rp, ?_⟩
    unfold lcA at p2
    cases e : f ds[i] (wpR ρ2 us) with
    | ok u ρ3 =>
      simp only [e] at p2
      intro σ4 H4 Hf4 s4 r4 ag
      have w4 : wipe σ4 us = wipe σ us := (wipe_ag ag hws).trans wipe_wipe
      refine ⟨w4, Hf4, _, ρ3, r4, ?_⟩
      cases e2 : t ρ3 with
      | ok b ρ4 =>
        intro b' H5 Hf5 s5 r5 eb
        subst eb
        have s25 : Same Hf2 Hf5 := s3.trans (s4.trans s5)
        cases b' with
        | true =>
          simp only [e2] at p2
          rw [if_pos rfl]
          refine ⟨Hf5, _, ρ4, r5, ?_⟩
          cases e3 : el ρ4 with
          | ok y ρ5 =>
            simp only [e3] at p2
            intro v H6 Hf6 s6 r6 rv
            by_cases hsz : acc.length < sizeLine
            · rw [if_pos hsz] at p2
              have hA6 : H6 A = some (.lst vacc) := r6.fg A _ upd_same
              have s26 : Same Hf2 Hf6 := s25.trans s6
              obtain ⟨b1, b2⟩ := r6.back (o' := .lst (vacc ++ [v])) f2.2.1
              refine ⟨vacc, hA6, by rw [RpA.length ra2]; exact hsz, Hf6, ρ5, acc ++ [y], vacc ++ [v], s2.trans s26, RR.wiped b1 hmp w4, Fresh.wiped b2 w4, upd_same, RpA.append (RpA.mono s26 _ _ ra2) (RpA.cons rv RpA.nil), p2.up s26⟩
            · rw [if_neg hsz] at p2; exact p2.elim
          | ex x ρ5 => simp only [e3] at p2; exact p2.elim
          | no => simp only [e3] at p2; exact p2.elim
        | false =>
          simp only [e2] at p2
          rw [if_neg Bool.false_ne_true]
          have hA5 : H5 A = some (.lst vacc) := r5.fg A _ upd_same
          obtain ⟨b1, b2⟩ := r5.back (o' := .lst vacc) f2.2.1
          have hup : upd H5 A (.lst vacc) = H5 := by
            funext b
            by_cases hb : b = A
            · subst hb; rw [upd_same, hA5]
            · rw [upd_ne hb]
          rw [hup] at b1
          exact ⟨Hf5, ρ4, acc, vacc, s2.trans s25, RR.wiped b1 hmp w4, Fresh.wiped b2 w4, hA5, RpA.mono s25 _ _ ra2, p2.up s25⟩
      | ex x ρ4 => simp only [e2] at p2; exact p2.elim
      | no => simp only [e2] at p2; exact p2.elim
    | ex x ρ3 => simp only [e] at p2; exact p2.elim
    | no => simp only [e] at p2; exact p2.elim
  · have e : i = ds.length := by omega
    subst e
    rw [List.drop_length] at p2
    exact .inl ⟨k.2.2 H2 (s2.trans r2.fz), p2 (.ref A) H2 Hf2 (Same.refl _) r2 ⟨A, vacc, rfl, f2, hA2, ra2⟩⟩

theorem lc_facts {C : DC} {n : Nm} {sc scope : Scope} {own : List (Str × Nat)} {vs : List Nat} {gs bs : List Str} (S : Sc C n) (L : LkSc C sc) (hb : blB n sc scope own vs gs bs = true) : BlkOk C.X.N C.X.env.scope scope own ∧ ∀ i ∈ own.map (·.2), i ∉ C.F.mp := by
  unfold blB at hb
  rw [Bool.and_eq_true] at hb
  refine ⟨?_, ?_⟩
  · rw [S.hN]
    exact blkOk_by (L.blkC hb.1)
  · intro i hi hm
    have h2 := hb.2
    unfold scB at h2
    simp only [Bool.and_eq_true] at h2
    have q := List.all_eq_true.mp h2.2.1 i hi
    rw [Bool.and_eq_true] at q
    have hm' : i ∈ n.mp := by have := S.mpe; rw [← this]; exact hm
    have := q.2
    rw [List.contains_iff_mem.mpr hm'] at this
    cases this
section
variable {C : DC} {n : Nm} {pos : Pos} {elt tg iter : Expr} {ifs : List Expr} {sc scope : Scope} {own : List (Str × Nat)} {vs ws : List Nat} {gs bs : List Str} {mi : M (List D)} {f : D → M Unit} {t : M Bool} {el : M D}
theorem df_lc (S : Sc C n) (L : LkSc C sc)
    (hb : blB n sc scope own vs gs bs = true) (hi : DI C tg iter mi)
    (hg : ∀ C', Sc C' (n.sub vs (own.map (·.2)) gs bs) → LkSc C' scope → DG C' tg ws f) (ht : ∀ C', Sc C' (n.sub vs (own.map (·.2)) gs bs) → LkSc C' scope → DTs C' ifs t) (he : ∀ C', Sc C' (n.sub vs (own.map (·.2)) gs bs) → LkSc C' scope → DE C' elt el) (hw : ws.all (fun i => (own.map (·.2)).contains i) = true) :
    DF C (.ListComp elt [⟨tg, iter, ifs, 0⟩] scope pos) (lcM (own.map (·.2)) mi f t el) := by
  obtain ⟨hblk, hmp⟩ := lc_facts S L hb
  exact ⟨PE.imp (pe_lc (own := own) (g := LG C.blk1 ws f) (tt := Lft C.blk1 relB t) (te := Lft C.blk1 (relE C.T) el) S.calm (by rw [S.hN]; exact S.nd) hi.pi hblk (fun s H A cl fp => (hg _ (S.blk hb s H A cl fp) (.blk s H A cl fp)).pg) (fun s H A cl fp => (ht _ (S.blk hb s H A cl fp) (.blk s H A cl fp)).pt) (fun s H A cl fp => (he _ (S.blk hb s H A cl fp) (.blk s H A cl fp)).pe) (fold_ok hi.ok _)) (lc_read hmp fun i hi => List.contains_iff_mem.mp (List.all_eq_true.mp hw i hi)), rfl⟩
/-- name = [..], the name a local: the list is of its own, or frozen -/
def swB (scope : Scope) (y : Str) (l1 l2 : Nat) : Bool := l1 == l2 && !(scope.names.any fun (n, k) => n == y && (k == .local || k == .cell))
theorem ps_lc {i : Nat} {y : Str} {py spos : Pos} (S : Sc C n) (hi' : i ∈ n.ws) (hx : n.N[i]? = some y) (hyl : C.X.env.scope.names.lookup y = some .local) (hk : C.X.env.scope.kind = .function) (hsw : swB scope y py.line pos.line = true) (L : LkSc C sc)
    (hb : blB n sc scope own vs gs bs = true) (hi : DI C tg iter mi)
    (hg : ∀ C', Sc C' (n.sub vs (own.map (·.2)) gs bs) → LkSc C' scope → DG C' tg ws f) (ht : ∀ C', Sc C' (n.sub vs (own.map (·.2)) gs bs) → LkSc C' scope → DTs C' ifs t) (he : ∀ C', Sc C' (n.sub vs (own.map (·.2)) gs bs) → LkSc C' scope → DE C' elt el) (hw : ws.all (fun i => (own.map (·.2)).contains i) = true) :
    PS C.X (.Assign [.Name y py] (.ListComp elt [⟨tg, iter, ifs, 0⟩] scope pos) spos) (tAsg (Lft C (relF C.T) (lcM (own.map (·.2)) mi f t el)) (gName i)) := by
  obtain ⟨hblk, hmp⟩ := lc_facts S L hb
  unfold swB at hsw
  simp only [Bool.and_eq_true, Bool.not_eq_true'] at hsw
  refine PS.imp (ps_setLc (own := own) (g := LG C.blk1 ws f) (tt := Lft C.blk1 relB t) (te := Lft C.blk1 (relE C.T) el) S.calm (by rw [S.hN]; exact S.nd) (by rw [S.hN]; exact hx) hyl (sw_true hk hyl hsw.1 hsw.2) hi.pi hblk (fun s H A cl fp => (hg _ (S.blk hb s H A cl fp) (.blk s H A cl fp)).pg) (fun s H A cl fp => (ht _ (S.blk hb s H A cl fp) (.blk s H A cl fp)).pt) (fun s H A cl fp => (he _ (S.blk hb s H A cl fp) (.blk s H A cl fp)).pe) (fold_ok hi.ok _)) fun E σ H h => ?_
  exact lc_read hmp (fun i hi => List.contains_iff_mem.mp (List.all_eq_true.mp hw i hi)) σ H _ h
end
end DS
namespace DS
open PySem L2
/-! ### calls of the text's own defs -/
inductive AV where
  | im (d : D) | sl (i : Nat)
def avOk (T : Wd) (Hf : Hp) (σ : St) (v : V) : AV → Prop
  | .im d => Rp T Hf d v
  | .sl i => σ[i]? = some (some v)
def avsOk (T : Wd) (Hf : Hp) (σ : St) : List V → List AV → Prop
  | [], as => as = []
  | v :: vs, as => ∃ a r, as = a :: r ∧ avOk T Hf σ v a ∧ avsOk T Hf σ vs r
abbrev relV (T : Wd) : Rel (List V) (List AV) := fun Hf _ σ _ _ vs as => avsOk T Hf σ vs as
structure DV (C : DC) (es : List Expr) (m : M (List AV)) : Prop where
  pa : PA C.X es (Lft C (relV C.T) m)
  ok : es.all okE = true
theorem all_star {es : List Expr} {pos : Pos} {env : Env} (h : es.all okE = true) : (backTo pos (starEach es env)).any (·.1) = false := by
  induction es with
  | nil => rfl
  | cons e es ih =>
    rw [List.all_cons, Bool.and_eq_true] at h
    rw [star_ok h.1]
    exact ih h.2
theorem avOk.mono {T : Wd} {Hf Hf' : Hp} {σ : St} {v : V} (s : Same Hf Hf') : ∀ {a : AV}, avOk T Hf σ v a → avOk T Hf' σ v a
  | .im d, h => Rp.mono s d v h
  | .sl i, h => h
section
variable {C : DC} {n : Nm} {pos : Pos}
theorem dv_nil : DV C [] (ret []) := ⟨PA.imp pa_nil fun σ H Q ⟨Hf, G, ρ, rr, h⟩ => h [] H Hf (Same.refl _) rr rfl, rfl⟩
def vim (a : M D) (b : M (List AV)) : M (List AV) := bnd a fun x => bnd b fun xs => ret (.im x :: xs)
def vsl (i : Nat) (b : M (List AV)) : M (List AV) := bnd (pkO i) fun _ => bnd b fun xs => ret (.sl i :: xs)
where pkO (i : Nat) : M Unit := fun ρ => match ρ[i]? with
  | some x => if owns x then .ok () ρ else .no
  | none => .no
theorem dv_im {e : Expr} {es : List Expr} {a : M D} {b : M (List AV)} (h1 : DE C e a) (h2 : DV C es b) : DV C (e :: es) (vim a b) :=
  ⟨PA.imp (pa_cons h1.pe h2.pa (star_ok h1.ok _ _)) fun σ H Q ⟨Hf, G, ρ, rr, h⟩ => post_bind rr h fun x d H1 Hf1 ρ1 s1 r1 rx p1 => post_bind r1 p1 fun xs ds H2 Hf2 ρ2 s2 r2 rxs p2 =>
    p2 (x :: xs) H2 Hf2 (Same.refl _) r2 ⟨_, _, rfl, Rp.mono s2 _ _ rx, rxs⟩, by rw [List.all_cons, h1.ok, h2.ok]; rfl⟩
theorem dv_sl {x : Str} {p : Pos} {es : List Expr} {b : M (List AV)} (S : Sc C n) (i : Nat) (hi : i ∈ n.vs) (hx : n.N[i]? = some x) (h2 : DV C es b) : DV C (.Name x p :: es) (vsl i b) :=
  ⟨PA.imp (pa_cons (pv_ok S i hi hx) h2.pa rfl) fun σ H Q ⟨Hf, G, ρ, rr, h⟩ => (by
    have h' : Post C (relV C.T) Hf G σ Q (bnd (vsl.pkO i) (fun _ => bnd b fun xs => ret (.sl i :: xs)) ρ) := h
    unfold bnd vsl.pkO at h'
    cases e : ρ[i]? with
    | none => simp only [e] at h'; exact h'.elim
    | some y =>
      simp only [e] at h'
      by_cases ho : owns y = true
      · rw [if_pos ho] at h'
        obtain ⟨v, hv⟩ := slot_some rr e (owns_un ho)
        refine ⟨v, hv, ?_⟩
        have h2 : Post C (relV C.T) Hf G σ Q (bnd b (fun xs => ret (.sl i :: xs)) ρ) := h'
        exact post_bind rr h2 fun xs ds H2 Hf2 ρ2 s2 r2 rxs p2 => p2 (v :: xs) H2 Hf2 (Same.refl _) r2 ⟨_, _, rfl, hv, rxs⟩
      · rw [if_neg ho] at h'; exact h'.elim), by rw [List.all_cons, h2.ok]; rfl⟩
end
/-- a def's promise by a function over data -/
def fsp (T : Wd) (F : List Sl → Res D) : Sp := fun vs H Q E => ∃ Hf G args, Same Hf H ∧ Same G H ∧ (∀ b o, G b = some o → Hf b = none) ∧ args.length = vs.length ∧
  (∀ (i : Nat) v x, vs[i]? = some v → args[i]? = some x → SlOk T Hf G H (some (some v)) x ∧ x ≠ .un) ∧
  (∀ (i j : Nat) p x y, i ≠ j → args[i]? = some x → args[j]? = some y → owns x = true → owns y = true → vs[i]? = some (.ref p) → vs[j]? = some (.ref p) → False) ∧
  match F args with
  | .ok d args' => ∀ v H' Hf', Same Hf Hf' → Same Hf' H' → Same G H' → (∀ b o, G b = some o → Hf' b = none) → Rp T Hf' d v →
      (∀ (i : Nat) p x x', args[i]? = some x → owns x = true → vs[i]? = some (.ref p) → args'[i]? = some x' → SlOk T Hf' G H' (some (some (.ref p))) x') → Q v H'
  | .ex e _ => ∀ cls dd H' Hf', Same Hf Hf' → Same Hf' H' → Same G H' → (∀ b o, G b = some o → Hf' b = none) → XR T Hf' e cls dd → E cls dd H'
  | .no => False
/-- .. that hands back a new list of the caller's own -/
def fspO (T : Wd) (F : List Sl → Res (List D)) : Sp := fun vs H Q E => ∃ Hf G args, Same Hf H ∧ Same G H ∧ (∀ b o, G b = some o → Hf b = none) ∧ args.length = vs.length ∧
  (∀ (i : Nat) v x, vs[i]? = some v → args[i]? = some x → SlOk T Hf G H (some (some v)) x ∧ x ≠ .un) ∧
  (∀ (i j : Nat) p x y, i ≠ j → args[i]? = some x → args[j]? = some y → owns x = true → owns y = true → vs[i]? = some (.ref p) → vs[j]? = some (.ref p) → False) ∧
  match F args with
  | .ok ds args' => ∀ q vq H' Hf', Same Hf Hf' → Same Hf' H' → Same G H' → (∀ b o, G b = some o → Hf' b = none) → Hf' q = none → G q = none → (∀ (i : Nat) x, args[i]? = some x → owns x = true → vs[i]? ≠ some (.ref q)) → H' q = some (.lst vq) → RpA T Hf' ds vq →
      (∀ (i : Nat) p x x', args[i]? = some x → owns x = true → vs[i]? = some (.ref p) → args'[i]? = some x' → SlOk T Hf' G H' (some (some (.ref p))) x') → Q (.ref q) H'
  | .ex e _ => False
  | .no => False
/-- the def's own run -/
def ownAt (mp : List Nat) : Nat → List Sl → Bool
  | _, [] => true
  | i, x :: xs => (!owns x || mp.contains i) && ownAt mp (i + 1) xs
def runF (np nn : Nat) (mp : List Nat) (m : M Flow) (args : List Sl) : Res D :=
  if args.length = np && ownAt mp 0 args then
    match m (args ++ List.replicate (nn - np) .un) with
    | .ok .nx r => .ok .none (r.take np)
    | .ok (.rt d) r => .ok d (r.take np)
    | .ok (.ro ds) r => .ok (.list ds) (r.take np)
    | _ => .no
  else .no
/-- .. of a def that may raise -/
def runX (np nn : Nat) (mp : List Nat) (m : M Flow) (args : List Sl) : Res D :=
  if args.length = np && ownAt mp 0 args then
    match m (args ++ List.replicate (nn - np) .un) with
    | .ok .nx r => .ok .none (r.take np)
    | .ok (.rt d) r => .ok d (r.take np)
    | .ok (.ro ds) r => .ok (.list ds) (r.take np)
    | .ex e r => .ex e r
    | _ => .no
  else .no
def runO (np nn : Nat) (mp : List Nat) (m : M Flow) (args : List Sl) : Res (List D) :=
  if args.length = np && ownAt mp 0 args then
    match m (args ++ List.replicate (nn - np) .un) with
    | .ok (.ro ds) r => .ok ds (r.take np)
    | _ => .no
  else .no
theorem ownAt_get {mp : List Nat} : ∀ {xs : List Sl} {k i : Nat} {x : Sl}, ownAt mp k xs = true → xs[i]? = some x → owns x = true → k + i ∈ mp
  | y :: ys, k, 0, x, h, e, o => by
    simp only [ownAt, Bool.and_eq_true, Bool.or_eq_true, Bool.not_eq_true'] at h
    simp at e
    subst e
    rcases h.1 with z | z
    · rw [o] at z; cases z
    · exact List.contains_iff_mem.mp z
  | y :: ys, k, i + 1, x, h, e, o => by
    simp only [ownAt, Bool.and_eq_true] at h
    have := ownAt_get (k := k + 1) (i := i) h.2 (by simpa using e) o
    rw [show k + (i + 1) = k + 1 + i by omega]
    exact this
theorem start_get {N : List Str} {vs : List V} {i : Nat} {v : V} (h : vs[i]? = some v) : (L2.start N vs)[i]? = some (some v) := by
  unfold L2.start
  rw [List.getElem?_append_left (by simpa using lt_of_get h), List.getElem?_map, h]
  rfl
/-- the state at the def's start -/
theorem rr_start {T : Wd} {mp : List Nat} {N : List Str} {vs : List V} {H Hf G : Hp} {args : List Sl} (s1 : Same Hf H) (s2 : Same G H) (dj : ∀ b o, G b = some o → Hf b = none) (hl : args.length = vs.length) (hn : vs.length ≤ N.length)
    (hs : ∀ (i : Nat) v x, vs[i]? = some v → args[i]? = some x → SlOk T Hf G H (some (some v)) x ∧ x ≠ .un)
    (hd : ∀ (i j : Nat) p x y, i ≠ j → args[i]? = some x → args[j]? = some y → owns x = true → owns y = true → vs[i]? = some (.ref p) → vs[j]? = some (.ref p) → False) :
    RR ⟨T, mp, L2.start N vs⟩ Hf G (L2.start N vs) H (args ++ List.replicate (N.length - args.length) .un) := by
  have inA : ∀ {i : Nat} {x : Sl}, (args ++ List.replicate (N.length - args.length) .un)[i]? = some x → x ≠ .un → args[i]? = some x := fun {i x} e hx => by
    by_cases hi : i < args.length
    · rw [List.getElem?_append_left hi] at e; exact e
    · rw [List.getElem?_append_right (by omega)] at e
      have := List.eq_of_mem_replicate (List.mem_of_getElem? e)
      exact absurd this hx
  have vsAt : ∀ {i : Nat} {x : Sl}, args[i]? = some x → ∃ v, vs[i]? = some v := fun {i x} e => ⟨_, List.getElem?_eq_getElem (by rw [← hl]; exact lt_of_get e)⟩
  refine ⟨s1, s2, dj, ?_, fun i x e => ?_, fun i j x y p hij ex ey ox oy hx hy => ?_, fun i _ => rfl⟩
  · simp [L2.start]; omega
  · by_cases hx : x = .un
    · subst hx; trivial
    · have ea := inA e hx
      obtain ⟨v, hv⟩ := vsAt ea
      rw [start_get hv]
      exact (hs i v x hv ea).1
  · have ea := inA ex (owns_un ox)
    have eb := inA ey (owns_un oy)
    obtain ⟨v, hv⟩ := vsAt ea
    obtain ⟨u, hu⟩ := vsAt eb
    rw [start_get hv] at hx
    rw [start_get hu] at hy
    cases hx
    cases hy
    exact hd i j p x y hij ea eb ox oy hv hu
section
variable {P : Program} {w : World} {K : PySem.W.Frag} {mg : Str → Option Value} {base : Heap}
theorem fn_ok {x qual : Str} {sd : Stmt} {f : Addr} {fd : FuncData} {ps : List Str} {n : Nm} {m : M Flow} (F : Fun K x qual sd f fd) (S : FnScope n.N ps (defScope sd)) (hp : ps.length ≤ n.N.length)
    (ck : scB n (defScope sd) = true) (bno : ∀ x ∈ n.bn, mg x = none) (fs : n.fs ⟨P, w, K, mg, base⟩) (hD : ∀ C, Sc C n → LkSc C (defScope sd) → DSs C (defBody sd) m) : FnOk P w K mg base CX0 (n.lv + 1) f fd ps (fsp ⟨P, w, K, mg, base⟩ (runF ps.length n.N.length n.mp m)) := by
  have len : ∀ vs H Q E, fsp ⟨P, w, K, mg, base⟩ (runF ps.length n.N.length n.mp m) vs H Q E → vs.length = ps.length := fun vs H Q E ⟨Hf, G, args, _, _, _, hl, _, _, h⟩ => by
    unfold runF at h
    by_cases hc : (args.length = ps.length && ownAt n.mp 0 args) = true
    · simp only [Bool.and_eq_true, decide_eq_true_eq] at hc
      rw [← hl]; exact hc.1
    · rw [if_neg hc] at h; exact h.elim
  refine F.ok S len fun cdv A outer s H vs Q E hr h => ?_
  have hlen := len vs H Q E h
  let C : DC := ⟨(cxOf CX0 P w K mg base n.N qual (defScope sd) f cdv A outer s H E).nox, fun _ _ _ _ => False, n.mp, L2.start n.N vs⟩
  have SC : Sc C n := ⟨rfl, S.nd, ck, S.kind, rfl, fun _ _ _ _ _ => rfl, rfl, PassesOwn.never, hr, bno, fs⟩
  refine ⟨_, (hD C SC (.inl rfl)).pss, ?_⟩
  obtain ⟨Hf, G, args, s1, s2, dj, hl, hs, hd, h⟩ := h
  have rr : RR C.F Hf G (L2.start n.N vs) H (args ++ List.replicate (n.N.length - args.length) .un) := rr_start s1 s2 dj hl (by omega) hs hd
  unfold runF at h
  by_cases hc : (args.length = ps.length && ownAt n.mp 0 args) = true
  · rw [if_pos hc] at h
    simp only [Bool.and_eq_true, decide_eq_true_eq] at hc
    rw [hc.1] at rr
    refine ⟨Hf, G, _, rr, ?_⟩
    have fin : ∀ {ρ' : Rho} {σ' : St} {H' Hf' : Hp}, RR C.F Hf' G σ' H' ρ' → ∀ (i : Nat) p x x', args[i]? = some x → owns x = true → vs[i]? = some (.ref p) → (ρ'.take ps.length)[i]? = some x' → SlOk ⟨P, w, K, mg, base⟩ Hf' G H' (some (some (.ref p))) x' := fun {ρ' σ' H' Hf'} r i p x x' ex ox hv ex' => by
      have hm : i ∈ n.mp := by simpa using ownAt_get hc.2 ex ox
      have hk := r.kp i hm
      have : σ'[i]? = some (some (.ref p)) := hk.trans (start_get hv)
      rw [← this]
      refine r.sl i x' ?_
      rw [List.getElem?_take] at ex'
      split at ex'
      · exact ex'
      · cases ex'
    cases e : m (args ++ List.replicate (n.N.length - ps.length) .un) with
    | ok fl ρ' =>
      rw [e] at h
      cases fl with
      | nx => exact fun σ' H' Hf' s' r => h .non H' Hf' s' r.fz r.fg r.dj rp_none (fin r)
      | rt d => exact fun v σ' H' Hf' s' r rv => h v H' Hf' s' r.fz r.fg r.dj rv (fin r)
      | ro ds =>
        intro p vq σ' H' Hf' s' r hfp hgp hmp hq ra
        have hsm : Same Hf' (upd Hf' p (.lst vq)) := Same.updN hfp
        refine h (.ref p) H' (upd Hf' p (.lst vq)) (s'.trans hsm) (fun b u eb => ?_) r.fg (fun b u eb => ?_) (rp_list (SqL.of upd_same) (RpA.mono hsm _ _ ra)) fun i q x x' ex ox hv ex' => ?_
        · by_cases hb : b = p
          · subst hb; rw [upd_same] at eb; rw [hq]; exact eb
          · rw [upd_ne hb] at eb; exact r.fz b u eb
        · have hb : b ≠ p := fun z => by subst z; rw [hgp] at eb; cases eb
          rw [upd_ne hb]; exact r.dj b u eb
        · have hm : i ∈ n.mp := by simpa using ownAt_get hc.2 ex ox
          have hk : σ'[i]? = some (some (.ref q)) := (r.kp i hm).trans (start_get hv)
          refine (fin r i q x x' ex ox hv ex').fz hsm fun q' _ hq' => ?_
          cases hq'
          have hb : q ≠ p := fun z => by subst z; exact hmp i hm hk
          rw [upd_ne hb]
          have := fin r i q x x' ex ox hv ex'
          cases x' with
          | un => rename_i ho; cases ho
          | im d => rename_i ho; cases ho
          | ml ds' => obtain ⟨_, _, a, b, _⟩ := this; cases a; exact b
          | md kvs => obtain ⟨_, a, b, _⟩ := this; cases a; exact b
          | mi c fs => obtain ⟨_, _, _, _, a, b, _⟩ := this; cases a; exact b
      | bk => exact h.elim
      | ct => exact h.elim
    | ex x ρ' => rw [e] at h; exact h.elim
    | no => rw [e] at h; exact h.elim
  · rw [if_neg hc] at h; exact h.elim
theorem fn_okO {x qual : Str} {sd : Stmt} {f : Addr} {fd : FuncData} {ps : List Str} {n : Nm} {m : M Flow} (F : Fun K x qual sd f fd) (S : FnScope n.N ps (defScope sd)) (hp : ps.length ≤ n.N.length)
    (ck : scB n (defScope sd) = true) (bno : ∀ x ∈ n.bn, mg x = none) (fs : n.fs ⟨P, w, K, mg, base⟩) (hD : ∀ C, Sc C n → LkSc C (defScope sd) → DSs C (defBody sd) m) : FnOk P w K mg base CX0 (n.lv + 1) f fd ps (fspO ⟨P, w, K, mg, base⟩ (runO ps.length n.N.length n.mp m)) := by
  have len : ∀ vs H Q E, fspO ⟨P, w, K, mg, base⟩ (runO ps.length n.N.length n.mp m) vs H Q E → vs.length = ps.length := fun vs H Q E ⟨Hf, G, args, _, _, _, hl, _, _, h⟩ => by
    unfold runO at h
    by_cases hc : (args.length = ps.length && ownAt n.mp 0 args) = true
    · simp only [Bool.and_eq_true, decide_eq_true_eq] at hc
      rw [← hl]; exact hc.1
    · rw [if_neg hc] at h; exact h.elim
  refine F.ok S len fun cdv A outer s H vs Q E hr h => ?_
  have hlen := len vs H Q E h
  let C : DC := ⟨(cxOf CX0 P w K mg base n.N qual (defScope sd) f cdv A outer s H E).nox, fun _ _ _ _ => False, n.mp, L2.start n.N vs⟩
  have SC : Sc C n := ⟨rfl, S.nd, ck, S.kind, rfl, fun _ _ _ _ _ => rfl, rfl, PassesOwn.never, hr, bno, fs⟩
  refine ⟨_, (hD C SC (.inl rfl)).pss, ?_⟩
  obtain ⟨Hf, G, args, s1, s2, dj, hl, hs, hd, h⟩ := h
  have rr : RR C.F Hf G (L2.start n.N vs) H (args ++ List.replicate (n.N.length - args.length) .un) := rr_start s1 s2 dj hl (by omega) hs hd
  unfold runO at h
  by_cases hc : (args.length = ps.length && ownAt n.mp 0 args) = true
  · rw [if_pos hc] at h
    simp only [Bool.and_eq_true, decide_eq_true_eq] at hc
    rw [hc.1] at rr
    refine ⟨Hf, G, _, rr, ?_⟩
    have fin : ∀ {ρ' : Rho} {σ' : St} {H' Hf' : Hp}, RR C.F Hf' G σ' H' ρ' → ∀ (i : Nat) p x x', args[i]? = some x → owns x = true → vs[i]? = some (.ref p) → (ρ'.take ps.length)[i]? = some x' → SlOk ⟨P, w, K, mg, base⟩ Hf' G H' (some (some (.ref p))) x' := fun {ρ' σ' H' Hf'} r i p x x' ex ox hv ex' => by
      have hm : i ∈ n.mp := by simpa using ownAt_get hc.2 ex ox
      have hk := r.kp i hm
      have : σ'[i]? = some (some (.ref p)) := hk.trans (start_get hv)
      rw [← this]
      refine r.sl i x' ?_
      rw [List.getElem?_take] at ex'
      split at ex'
      · exact ex'
      · cases ex'
    cases e : m (args ++ List.replicate (n.N.length - ps.length) .un) with
    | ok fl ρ' =>
      rw [e] at h
      cases fl with
      | ro ds =>
        intro p vq σ' H' Hf' s' r hfp hgp hmp hq ra
        refine h p vq H' Hf' s' r.fz r.fg r.dj hfp hgp (fun i x ex ox hv => ?_) hq ra (fin r)
        have hm : i ∈ n.mp := by simpa using ownAt_get hc.2 ex ox
        exact hmp i hm ((r.kp i hm).trans (start_get hv))
      | nx => exact h.elim
      | rt d => exact h.elim
      | bk => exact h.elim
      | ct => exact h.elim
    | ex x ρ' => rw [e] at h; exact h.elim
    | no => rw [e] at h; exact h.elim
  · rw [if_neg hc] at h; exact h.elim
end
/-! ### the caller's side -/
def resolve (ρ : Rho) : List AV → Option (List Sl)
  | [] => some []
  | .im d :: as => (resolve ρ as).map (.im d :: ·)
  | .sl i :: as => match ρ[i]? with
    | some x => if owns x then (resolve ρ as).map (x :: ·) else none
    | none => none
def slots : List AV → List Nat
  | [] => []
  | .im _ :: as => slots as
  | .sl i :: as => i :: slots as
def back (ρ : Rho) : List AV → List Sl → Rho
  | .im _ :: as, _ :: xs => back ρ as xs
  | .sl i :: as, x :: xs => (back ρ as xs).set i x
  | _, _ => ρ
def nodupB : List Nat → Bool
  | [] => true
  | i :: l => !l.contains i && nodupB l
def callM {α : Type} (F : List Sl → Res α) (as : List AV) : M α := fun ρ => match resolve ρ as with
  | none => .no
  | some args => if nodupB (slots as) then
      match F args with
      | .ok d args' => if args'.length = args.length then .ok d (back ρ as args') else .no
      | .ex e _ => if (slots as).isEmpty then .ex e ρ else .no
      | .no => .no
    else .no
theorem res_len {ρ : Rho} : ∀ {as : List AV} {args : List Sl}, resolve ρ as = some args → args.length = as.length
  | [], _, h => by cases h; rfl
  | .im d :: as, _, h => by
    obtain ⟨r, e, rfl⟩ := Option.map_eq_some_iff.mp (show (resolve ρ as).map (.im d :: ·) = some _ from h)
    simp [res_len e]
  | .sl i :: as, _, h => by
    unfold resolve at h
    split at h
    · split at h
      · obtain ⟨r, e, rfl⟩ := Option.map_eq_some_iff.mp h
        simp [res_len e]
      · cases h
    · cases h
theorem avs_len {T : Wd} {Hf : Hp} {σ : St} : ∀ {vs : List V} {as : List AV}, avsOk T Hf σ vs as → as.length = vs.length
  | [], _, h => by rw [show _ = [] from h]; rfl
  | v :: vs, _, h => by
    obtain ⟨a, r, e, _, z⟩ := h
    subst e
    simp [avs_len z]
/-- what stands at the i-th argument -/
theorem res_get {T : Wd} {Hf : Hp} {σ : St} {ρ : Rho} : ∀ {as : List AV} {vs : List V} {args : List Sl}, resolve ρ as = some args → avsOk T Hf σ vs as → ∀ (i : Nat) v x, vs[i]? = some v → args[i]? = some x →
    (∃ d, x = .im d ∧ Rp T Hf d v ∧ as[i]? = some (.im d)) ∨ ∃ j, as[i]? = some (.sl j) ∧ ρ[j]? = some x ∧ owns x = true ∧ σ[j]? = some (some v) ∧ j ∈ slots as
  | [], _, _, h, ha, i, v, x, hv, hx => by cases h; simp at hx
  | .im d :: as, vs, _, h, ha, i, v, x, hv, hx => by
    obtain ⟨r, e, rfl⟩ := Option.map_eq_some_iff.mp (show (resolve ρ as).map (.im d :: ·) = some _ from h)
    cases vs with
    | nil => simp at hv
    | cons u us =>
      obtain ⟨a, r', e1, q, z⟩ := ha
      cases e1
      cases i with
      | zero =>
        simp at hv hx
        subst hv hx
        exact .inl ⟨d, rfl, q, rfl⟩
      | succ i =>
        rcases res_get e z i v x (by simpa using hv) (by simpa using hx) with ⟨d', a, b, c⟩ | ⟨j, a, b, c, d', f⟩
        · exact .inl ⟨d', a, b, by simpa using c⟩
        · exact .inr ⟨j, by simpa using a, b, c, d', f⟩
  | .sl k :: as, vs, _, h, ha, i, v, x, hv, hx => by
    unfold resolve at h
    split at h
    · rename_i y hy
      split at h
      · rename_i ho
        obtain ⟨r, e, rfl⟩ := Option.map_eq_some_iff.mp h
        cases vs with
        | nil => simp at hv
        | cons u us =>
          obtain ⟨a, r', e1, q, z⟩ := ha
          cases e1
          cases i with
          | zero =>
            simp at hv hx
            subst hv hx
            exact .inr ⟨k, rfl, hy, ho, q, by simp [slots]⟩
          | succ i =>
            rcases res_get e z i v x (by simpa using hv) (by simpa using hx) with ⟨d', a, b, c⟩ | ⟨j, a, b, c, d', f⟩
            · exact .inl ⟨d', a, b, by simpa using c⟩
            · exact .inr ⟨j, by simpa using a, b, c, d', by simp [slots, f]⟩
      · cases h
    · cases h
theorem slots_mem {as : List AV} {j : Nat} : j ∈ slots as → ∃ i : Nat, as[i]? = some (.sl j) := by
  induction as with
  | nil => intro h; cases h
  | cons a as ih =>
    intro h
    cases a with
    | im d =>
      obtain ⟨i, e⟩ := ih h
      exact ⟨i + 1, by simpa using e⟩
    | sl k =>
      rcases List.mem_cons.mp h with z | z
      · exact ⟨0, by simp [z]⟩
      · obtain ⟨i, e⟩ := ih z
        exact ⟨i + 1, by simpa using e⟩
theorem back_len {ρ : Rho} : ∀ {as : List AV} {xs : List Sl}, (back ρ as xs).length = ρ.length
  | [], _ => by unfold back; rfl
  | .im _ :: as, [] => by unfold back; rfl
  | .sl _ :: as, [] => by unfold back; rfl
  | .im _ :: as, _ :: xs => by unfold back; exact back_len
  | .sl i :: as, x :: xs => by unfold back; rw [List.length_set]; exact back_len
/-- a slot behind the call: it was handed over, or it stands -/
theorem back_get {ρ : Rho} {j : Nat} {y : Sl} : ∀ {as : List AV} {xs : List Sl}, xs.length = as.length → nodupB (slots as) = true → (back ρ as xs)[j]? = some y →
    (j ∉ slots as ∧ ρ[j]? = some y) ∨ ∃ i : Nat, as[i]? = some (.sl j) ∧ xs[i]? = some y
  | [], xs, _, _, h => by unfold back at h; exact .inl ⟨by simp [slots], h⟩
  | .im d :: as, x :: xs, hl, hn, h => by
    unfold back at h
    rcases back_get (by simpa using hl) (by simpa [slots] using hn) h with ⟨a, b⟩ | ⟨i, a, b⟩
    · exact .inl ⟨by simpa [slots] using a, b⟩
    · exact .inr ⟨i + 1, by simpa using a, by simpa using b⟩
  | .sl k :: as, x :: xs, hl, hn, h => by
    unfold back at h
    simp only [slots, nodupB, Bool.and_eq_true, Bool.not_eq_true'] at hn
    rcases get_set_cases h with ⟨e1, e2, _⟩ | ⟨e1, h⟩
    · subst e1 e2
      exact .inr ⟨0, rfl, rfl⟩
    · rcases back_get (by simpa using hl) hn.2 h with ⟨a, b⟩ | ⟨i, a, b⟩
      · exact .inl ⟨by simp only [slots, List.mem_cons, not_or]; exact ⟨e1, a⟩, b⟩
      · exact .inr ⟨i + 1, by simpa using a, by simpa using b⟩
  | .im d :: as, [], hl, _, _ => by cases hl
  | .sl d :: as, [], hl, _, _ => by cases hl
end DS
namespace DS
open PySem L2
open Classical in
/-- what the callee leaves as it is: all but the frozen and what is handed over -/
noncomputable def gc (Hf H : Hp) (ps : Addr → Prop) : Hp := fun b => if Hf b = none ∧ ¬ ps b then H b else none
theorem gc_in {Hf H : Hp} {ps : Addr → Prop} {b : Addr} {o : HO} (h1 : Hf b = none) (h2 : ¬ ps b) (h : H b = some o) : gc Hf H ps b = some o := by
  unfold gc
  rw [if_pos ⟨h1, h2⟩]
  exact h
theorem gc_out {Hf H : Hp} {ps : Addr → Prop} {b : Addr} {o : HO} (h : gc Hf H ps b = some o) : Hf b = none ∧ ¬ ps b ∧ H b = some o := by
  unfold gc at h
  split at h
  · rename_i hc; exact ⟨hc.1, hc.2, h⟩
  · cases h
theorem gc_ps {Hf H : Hp} {ps : Addr → Prop} {b : Addr} (h : ps b) : gc Hf H ps b = none := by
  unfold gc
  rw [if_neg fun z => z.2 h]
def passed (σ : St) (as : List AV) (b : Addr) : Prop := ∃ j ∈ slots as, σ[j]? = some (some (.ref b))
section
variable {F : Fx} {Hf G H : Hp} {σ : St} {ρ : Rho} {as : List AV} {vs : List V} {args : List Sl}
theorem call_pre (rr : RR F Hf G σ H ρ) (ha : avsOk F.T Hf σ vs as) (hr : resolve ρ as = some args) (hn : nodupB (slots as) = true) :
    (∀ (i : Nat) v x, vs[i]? = some v → args[i]? = some x → SlOk F.T Hf (gc Hf H (passed σ as)) H (some (some v)) x ∧ x ≠ .un) ∧
    (∀ (i j : Nat) p x y, i ≠ j → args[i]? = some x → args[j]? = some y → owns x = true → owns y = true → vs[i]? = some (.ref p) → vs[j]? = some (.ref p) → False) := by
  refine ⟨fun i v x hv hx => ?_, fun i j p x y hij hx hy ox oy hi hj => ?_⟩
  · rcases res_get hr ha i v x hv hx with ⟨d, e, r, _⟩ | ⟨j, ej, hj, ho, hs, hm⟩
    · subst e
      exact ⟨⟨v, rfl, r⟩, fun z => by cases z⟩
    · refine ⟨?_, owns_un ho⟩
      have h := rr.sl j x hj
      rw [hs] at h
      have key : ∀ q, v = .ref q → gc Hf H (passed σ as) q = none := fun q e => by
        subst e
        exact gc_ps ⟨j, hm, hs⟩
      cases x with
      | un => cases ho
      | im d => cases ho
      | ml ds => obtain ⟨q, us, a, b, c, d, r⟩ := h; cases a; exact ⟨q, us, rfl, b, key q rfl, d, r⟩
      | md kvs => obtain ⟨q, a, b, c, d⟩ := h; exact d.elim
      | mi c fs => obtain ⟨q, C, dx, us, a, b, c1, d⟩ := h; cases a; exact ⟨q, C, dx, us, rfl, b, key q rfl, d⟩
  · rcases res_get hr ha i _ x hi hx with ⟨d, e, _⟩ | ⟨k, ek, hk, _, hks, hkm⟩
    · subst e; cases ox
    · rcases res_get hr ha j _ y hj hy with ⟨d, e, _⟩ | ⟨l, el, hl, _, hls, hlm⟩
      · subst e; cases oy
      · by_cases hkl : k = l
        · subst hkl
          -- the same slot twice
          have : ∀ (as : List AV) (i j : Nat), i ≠ j → as[i]? = some (.sl k) → as[j]? = some (.sl k) → nodupB (slots as) = false := by
            intro as
            induction as with
            | nil => intro i j _ h; simp at h
            | cons a as ih =>
              have mem : ∀ (as : List AV) (i : Nat), as[i]? = some (.sl k) → k ∈ slots as := by
                intro as
                induction as with
                | nil => intro i h; simp at h
                | cons a as ih =>
                  intro i h
                  cases i with
                  | zero => simp at h; subst h; simp [slots]
                  | succ i =>
                    have := ih i (by simpa using h)
                    cases a with
                    | im d => simpa [slots] using this
                    | sl m => simp [slots, this]
              intro i j hij h1 h2
              cases i with
              | zero =>
                cases j with
                | zero => exact absurd rfl hij
                | succ j =>
                  simp at h1
                  subst h1
                  have := mem as j (by simpa using h2)
                  simp [slots, nodupB, this]
              | succ i =>
                cases j with
                | zero =>
                  simp at h2
                  subst h2
                  have := mem as i (by simpa using h1)
                  simp [slots, nodupB, this]
                | succ j =>
                  have := ih i j (fun z => hij (by rw [z])) (by simpa using h1) (by simpa using h2)
                  cases a with
                  | im d => simpa [slots] using this
                  | sl m => simp [slots, nodupB, this]
          rw [this as i j hij ek el] at hn
          cases hn
        · exact rr.ds k l x y p hkl hk hl ox oy hks hls
theorem call_post {Hf' H' : Hp} {args' : List Sl} (rr : RR F Hf G σ H ρ) (ha : avsOk F.T Hf σ vs as) (hr : resolve ρ as = some args) (hn : nodupB (slots as) = true) (hl : args'.length = args.length)
    (s : Same Hf Hf') (fz : Same Hf' H') (fg : Same (gc Hf H (passed σ as)) H') (dj : ∀ b o, gc Hf H (passed σ as) b = some o → Hf' b = none)
    (hp : ∀ (i : Nat) p x x', args[i]? = some x → owns x = true → vs[i]? = some (.ref p) → args'[i]? = some x' → SlOk F.T Hf' (gc Hf H (passed σ as)) H' (some (some (.ref p))) x') : RR F Hf' G σ H' (back ρ as args') := by
  have hlen := res_len hr
  have hG : ∀ b o, G b = some o → gc Hf H (passed σ as) b = some o := fun b o e => gc_in (rr.dj b o e) (fun ⟨j, hj, hs⟩ => by
    obtain ⟨i, ei⟩ := slots_mem hj
    have hi : i < args.length := by rw [hlen]; exact lt_of_get ei
    have hv : i < vs.length := by rw [← avs_len ha]; exact lt_of_get ei
    rcases res_get hr ha i _ _ (List.getElem?_eq_getElem hv) (List.getElem?_eq_getElem hi) with ⟨d, _, _, e2⟩ | ⟨k, e2, hk, ho, hks, _⟩
    · rw [ei] at e2; cases e2
    · rw [ei] at e2
      cases e2
      have := (rr.own hk ho hs).2.1
      rw [e] at this; cases this) (rr.fg b o e)
  -- a slot behind the call
  have slot : ∀ (j : Nat) y, (back ρ as args')[j]? = some y → SlOk F.T Hf' G H' σ[j]? y ∧ (owns y = true → ∃ x, ρ[j]? = some x ∧ owns x = true) := fun j y e => by
    rcases back_get (by rw [hl]; exact hlen) hn e with ⟨hj, e⟩ | ⟨i, ei, ey⟩
    · refine ⟨?_, fun ho => ⟨y, e, ho⟩⟩
      have h := rr.sl j y e
      have out : ∀ p u, owns y = true → σ[j]? = some (some (.ref p)) → H p = some u → gc Hf H (passed σ as) p = some u := fun p u ho hs hu => gc_in (rr.own e ho hs).1 (fun ⟨k, hk, hks⟩ => by
        obtain ⟨i, ei⟩ := slots_mem hk
        have hi : i < args.length := by rw [hlen]; exact lt_of_get ei
        have hv : i < vs.length := by rw [← avs_len ha]; exact lt_of_get ei
        rcases res_get hr ha i _ _ (List.getElem?_eq_getElem hv) (List.getElem?_eq_getElem hi) with ⟨d, _, _, e2⟩ | ⟨k', e2, hk', ho', _, _⟩
        · rw [ei] at e2; cases e2
        · rw [ei] at e2
          cases e2
          have hjk : j ≠ k := fun z => hj (z ▸ hk)
          exact rr.ds j k y _ p hjk e hk' ho ho' hs hks) hu
      refine (h.at fun p u ho hs hu => fg p u (out p u ho hs hu)).fz s fun p ho hs => ?_
      obtain ⟨_, _, u, hu⟩ := rr.own e ho hs
      exact dj p u (out p u ho hs hu)
    · have hi : i < args.length := by rw [← hl]; exact lt_of_get ey
      have hv : i < vs.length := by rw [← avs_len ha]; exact lt_of_get ei
      rcases res_get hr ha i _ _ (List.getElem?_eq_getElem hv) (List.getElem?_eq_getElem hi) with ⟨d, _, _, e2⟩ | ⟨k, e2, hk, ho, hks, hkm⟩
      · rw [ei] at e2; cases e2
      · rw [ei] at e2
        cases e2
        refine ⟨?_, fun _ => ⟨_, hk, ho⟩⟩
        have hsl := rr.sl j _ hk
        have href : ∃ p, vs[i] = .ref p := by
          rw [hks] at hsl
          generalize args[i] = x at *
          cases x with
          | un => cases ho
          | im d => cases ho
          | ml ds => obtain ⟨q, us, a, _⟩ := hsl; exact ⟨q, Option.some.inj (Option.some.inj a)⟩
          | md kvs => obtain ⟨q, a, _⟩ := hsl; exact ⟨q, Option.some.inj (Option.some.inj a)⟩
          | mi c fs => obtain ⟨q, _, _, _, a, _⟩ := hsl; exact ⟨q, Option.some.inj (Option.some.inj a)⟩
        obtain ⟨p, ep⟩ := href
        rw [ep] at hks
        have q := hp i p _ y (List.getElem?_eq_getElem hi) ho (by rw [List.getElem?_eq_getElem hv, ep]) ey
        rw [hks]
        have g0 : G p = none := (rr.own hk ho hks).2.1
        cases y with
        | un => trivial
        | im d => exact q
        | ml ds => obtain ⟨z, us, a, b, c, d, r⟩ := q; cases a; exact ⟨p, us, rfl, b, g0, d, r⟩
        | md kvs => obtain ⟨z, a, b, c, d⟩ := q; exact d.elim
        | mi c fs => obtain ⟨z, C, dx, us, a, b, c1, d⟩ := q; cases a; exact ⟨p, C, dx, us, rfl, b, g0, d⟩
  refine ⟨fz, fun b o e => fg b o (hG b o e), fun b o e => dj b o (hG b o e), by rw [back_len]; exact rr.len, fun j y e => (slot j y e).1, fun i j x y p hij ex ey ox oy hx hy => ?_, rr.kp⟩
  obtain ⟨a, ea, oa⟩ := (slot i x ex).2 ox
  obtain ⟨b, eb, ob⟩ := (slot j y ey).2 oy
  exact rr.ds i j a b p hij ea eb oa ob hx hy
end
/-- a def of the text: its promise, where it stands -/
structure Has (T : Wd) (x : Str) (k : Nat) (F : List Sl → Res D) : Prop where
  ex : ∃ f fd ps, FnOk T.P T.w T.K T.mg T.base CX0 k f fd ps (fsp T F) ∧ T.mg x = some (.ref f) ∧ PySem.W.keepIn T.K (.ref f) = true ∧ Binds T.K fd ps []
structure HasO (T : Wd) (x : Str) (k : Nat) (F : List Sl → Res (List D)) : Prop where
  ex : ∃ f fd ps, FnOk T.P T.w T.K T.mg T.base CX0 k f fd ps (fspO T F) ∧ T.mg x = some (.ref f) ∧ PySem.W.keepIn T.K (.ref f) = true ∧ Binds T.K fd ps []
section
variable {C : DC} {n : Nm} {pos : Pos}
theorem back_nil {ρ : Rho} {as : List AV} {xs : List Sl} (h : slots as = []) : back ρ as xs = ρ := by
  induction as generalizing xs with
  | nil => unfold back; rfl
  | cons a as ih =>
    cases a with
    | im d =>
      cases xs with
      | nil => unfold back; rfl
      | cons x xs => unfold back; exact ih h
    | sl i => cases h
theorem lft_call {F : List Sl → Res D} {m : M (List AV)} : ∀ σ H Q, Lft C (relE C.T) (bnd m (callM F)) σ H Q → tCall (fsp C.T F) [] (fun cls d H => C.W cls d σ H) (Lft C (relV C.T) m) σ H Q := fun σ H Q ⟨Hf, G, ρ, rr, h⟩ => post_bind rr h fun vs as H1 Hf1 ρ1 s1 r1 ra p1 => by
  rw [List.append_nil]
  unfold callM at p1
  cases hr : resolve ρ1 as with
  | none => simp only [hr] at p1; exact p1.elim
  | some args =>
    simp only [hr] at p1
    by_cases hn : nodupB (slots as) = true
    · rw [if_pos hn] at p1
      obtain ⟨c1, c2⟩ := call_pre r1 ra hr hn
      refine ⟨Hf1, gc Hf1 H1 (passed σ as), args, r1.fz, fun b o e => (gc_out e).2.2, fun b o e => (gc_out e).1, by rw [res_len hr, avs_len ra], c1, c2, ?_⟩
      cases e : F args with
      | ok d args' =>
        simp only [e] at p1
        by_cases hl : args'.length = args.length
        · rw [if_pos hl] at p1
          exact fun v H' Hf' s fz fg dj rv hp => p1 v H' Hf' s (call_post r1 ra hr hn hl s fz fg dj hp) rv
        · rw [if_neg hl] at p1; exact p1.elim
      | ex x r =>
        simp only [e] at p1
        by_cases hs : (slots as).isEmpty = true
        · rw [if_pos hs] at p1
          have hs' : slots as = [] := by simpa using hs
          intro cls dd H' Hf' s fz fg dj xr
          refine p1 cls dd H' Hf' s ?_ xr
          have := call_post (args' := args) r1 ra hr hn rfl s fz fg dj fun i p x x' ex ox hv ex' => by
            rcases res_get hr ra i _ x hv ex with ⟨d, e, _⟩ | ⟨k, _, _, _, _, hkm⟩
            · subst e; cases ox
            · rw [hs'] at hkm; cases hkm
          rw [back_nil hs'] at this
          exact this
        · rw [if_neg hs] at p1; exact p1.elim
      | no => simp only [e] at p1; exact p1.elim
    · rw [if_neg hn] at p1; exact p1.elim
theorem fsp_noE {T : Wd} {F : List Sl → Res D} {vs : List V} {H : Hp} {Q : VK} {E : XK} (hne : ∀ args e r, F args ≠ .ex e r) (h : fsp T F vs H Q E) : fsp T F vs H Q E0 := by
  obtain ⟨Hf, G, args, a1, a2, a3, a4, a5, a6, h⟩ := h
  refine ⟨Hf, G, args, a1, a2, a3, a4, a5, a6, ?_⟩
  cases e : F args with
  | ok d args' => rw [e] at h; exact h
  | ex x r => exact absurd e (hne _ _ _)
  | no => rw [e] at h; exact h
/-- a call of a def that raises nothing -/
def noEx (F : List Sl → Res D) (args : List Sl) : Res D := match F args with
  | .ex _ _ => .no
  | r => r
theorem de_call {x : Str} {p : Pos} {e : Expr} {es : List Expr} {k : Nat} {F : List Sl → Res D} {m : M (List AV)} (S : Sc C n) (j : Nat) (hj : n.gs[j]? = some x) (h : Has C.T x k F) (hk : k ≤ n.lv) (hne : ∀ args e r, F args ≠ .ex e r) (ha : DV C (e :: es) m) :
    DE C (.Call (.Name x p) (e :: es) [] pos) (bnd m (callM F)) := by
  obtain ⟨f, fd, ps, hf, hm, hkp, hb⟩ := h.ex
  have hok := ha.ok
  rw [List.all_cons, Bool.and_eq_true] at hok
  refine ⟨PE.imp (pe_call hf (S.room.mono hk) (S.gl hj).1 hm hkp hb .nil pass0 ha.pa (plB_d (S.gl hj).2).1 (star_ok hok.1 _ _) (all_star hok.2)) fun σ H Q hh => ?_, rfl⟩
  obtain ⟨Hf, G, ρ, rr, z⟩ := lft_call σ H Q hh
  refine ⟨Hf, G, ρ, rr, ?_⟩
  cases em : m ρ with
  | ok as ρ1 => rw [em] at z; exact fun vs H1 Hf1 s1 r1 ra => fsp_noE hne (z vs H1 Hf1 s1 r1 ra)
  | ex x ρ1 => rw [em] at z; exact z
  | no => rw [em] at z; exact z
theorem de_call0 {x : Str} {p : Pos} {k : Nat} {F : List Sl → Res D} (S : Sc C n) (j : Nat) (hj : n.gs[j]? = some x) (h : Has C.T x k F) (hk : k ≤ n.lv) (hne : ∀ args e r, F args ≠ .ex e r) :
    DE C (.Call (.Name x p) [] [] pos) (bnd (ret []) (callM F)) := by
  obtain ⟨f, fd, ps, hf, hm, hkp, hb⟩ := h.ex
  refine ⟨PE.imp (pe_call0 hf (S.room.mono hk) (S.gl hj).1 hm hkp hb .nil pass0 (plB_d (S.gl hj).2).1) fun σ H Q hh => ?_, rfl⟩
  obtain ⟨Hf, G, ρ, rr, z⟩ := lft_call σ H Q hh
  exact fsp_noE hne (z [] H Hf (Same.refl _) rr rfl)
/-- .. that hands back a new list -/
theorem df_call {x : Str} {p : Pos} {e : Expr} {es : List Expr} {k : Nat} {F : List Sl → Res (List D)} {m : M (List AV)} (S : Sc C n) (j : Nat) (hj : n.gs[j]? = some x) (h : HasO C.T x k F) (hk : k ≤ n.lv) (hnx : ∀ args e r, F args ≠ .ex e r) (ha : DV C (e :: es) m) :
    DF C (.Call (.Name x p) (e :: es) [] pos) (bnd m (callM F)) := by
  obtain ⟨f, fd, ps, hf, hm, hkp, hb⟩ := h.ex
  have hok := ha.ok
  rw [List.all_cons, Bool.and_eq_true] at hok
  refine ⟨PE.imp (pe_call hf (S.room.mono hk) (S.gl hj).1 hm hkp hb .nil pass0 ha.pa (plB_d (S.gl hj).2).1 (star_ok hok.1 _ _) (all_star hok.2)) fun σ H Q ⟨Hf, G, ρ, rr, h⟩ => ?_, rfl⟩
  refine post_bind rr h fun vs as H1 Hf1 ρ1 s1 r1 ra p1 => ?_
  rw [List.append_nil]
  unfold callM at p1
  cases hr : resolve ρ1 as with
  | none => simp only [hr] at p1; exact p1.elim
  | some args =>
    simp only [hr] at p1
    by_cases hn : nodupB (slots as) = true
    · rw [if_pos hn] at p1
      obtain ⟨c1, c2⟩ := call_pre r1 ra hr hn
      refine ⟨Hf1, gc Hf1 H1 (passed σ as), args, r1.fz, fun b o e => (gc_out e).2.2, fun b o e => (gc_out e).1, by rw [res_len hr, avs_len ra], c1, c2, ?_⟩
      cases e : F args with
      | ok d args' =>
        simp only [e] at p1
        by_cases hl : args'.length = args.length
        · rw [if_pos hl] at p1
          intro q vq H' Hf' s fz fg dj hq gq hne hHq rq hp
          refine p1 (.ref q) H' Hf' s (call_post r1 ra hr hn hl s fz fg dj hp) ⟨q, vq, rfl, ⟨hq, ?_, ?_⟩, hHq, rq⟩
          · cases eg : G q with
            | none => rfl
            | some o =>
              have : gc Hf1 H1 (passed σ as) q = some o := gc_in (r1.dj q o eg) (fun ⟨j, hj, hs⟩ => by
                obtain ⟨i, ei⟩ := slots_mem hj
                have hi : i < args.length := by rw [res_len hr]; exact lt_of_get ei
                have hv : i < vs.length := by rw [← avs_len ra]; exact lt_of_get ei
                rcases res_get hr ra i _ _ (List.getElem?_eq_getElem hv) (List.getElem?_eq_getElem hi) with ⟨d, _, _, e2⟩ | ⟨k, e2, hk, ho, hks, _⟩
                · rw [ei] at e2; cases e2
                · rw [ei] at e2
                  cases e2
                  have := (r1.own hk ho hs).2.1
                  rw [eg] at this; cases this) (r1.fg q o eg)
              rw [gq] at this; cases this
          · intro i x ex ox hs
            have hlen := res_len hr
            rcases back_get (by rw [hl]; exact hlen) hn ex with ⟨hj, e3⟩ | ⟨i', ei, ey⟩
            · obtain ⟨h1, h2, u, hu⟩ := r1.own e3 ox hs
              have : gc Hf1 H1 (passed σ as) q = some u := gc_in h1 (fun ⟨k, hk, hks⟩ => by
                obtain ⟨i', ei⟩ := slots_mem hk
                have hi : i' < args.length := by rw [hlen]; exact lt_of_get ei
                have hv : i' < vs.length := by rw [← avs_len ra]; exact lt_of_get ei
                rcases res_get hr ra i' _ _ (List.getElem?_eq_getElem hv) (List.getElem?_eq_getElem hi) with ⟨d, _, _, e2⟩ | ⟨k', e2, hk', ho', _, _⟩
                · rw [ei] at e2; cases e2
                · rw [ei] at e2
                  cases e2
                  have hjk : i ≠ k := fun z => hj (z ▸ hk)
                  exact r1.ds i k x _ q hjk e3 hk' ox ho' hs hks) hu
              rw [gq] at this; cases this
            · have hi : i' < args.length := by rw [← hl]; exact lt_of_get ey
              have hv : i' < vs.length := by rw [← avs_len ra]; exact lt_of_get ei
              rcases res_get hr ra i' _ _ (List.getElem?_eq_getElem hv) (List.getElem?_eq_getElem hi) with ⟨d, _, _, e2⟩ | ⟨k, e2, hk, ho, hks, hkm⟩
              · rw [ei] at e2; cases e2
              · rw [ei] at e2
                cases e2
                have hvv := Option.some.inj (Option.some.inj (hks.symm.trans hs))
                exact hne i' _ (List.getElem?_eq_getElem hi) ho (by rw [List.getElem?_eq_getElem hv, hvv])
        · rw [if_neg hl] at p1; exact p1.elim
      | ex x r => exact absurd e (hnx _ _ _)
      | no => simp only [e] at p1; exact p1.elim
    · rw [if_neg hn] at p1; exact p1.elim
theorem runF_ne {np nn : Nat} {mp : List Nat} {m : M Flow} : ∀ args e r, runF np nn mp m args ≠ .ex e r := fun args e r h => by
  unfold runF at h
  split at h
  · split at h <;> cases h
  · cases h
theorem runO_ne {np nn : Nat} {mp : List Nat} {m : M Flow} : ∀ args e r, runO np nn mp m args ≠ .ex e r := fun args e r h => by
  unfold runO at h
  split at h
  · split at h <;> cases h
  · cases h
/-! ### a list of one's own is changed -/
/-- x[k] = e -/
def siM (i : Nat) (me mk : M D) : M Flow := bnd me fun d => bnd (pk i) fun _ => bnd mk fun k => fun ρ => match ρ[i]?, k with
  | some (.ml ds), .int z => (match ixN ds.length z with
    | some j => .ok .nx (ρ.set i (.ml (ds.set j d)))
    | none => .no)
  | _, _ => .no
theorem posts_pk {σ : St} {H Hf G : Hp} {ρ : Rho} {i : Nat} {f : D → M Flow} {E : Ends} (rr : RR C.F Hf G σ H ρ) (h : PostS C E Hf G (bnd (pk i) f ρ)) : ∃ d v, σ[i]? = some (some v) ∧ RpT C.T Hf H d v ∧ PostS C E Hf G (f d ρ) := by
  unfold bnd at h
  cases e : pk i ρ with
  | ok d ρ' =>
    rw [e] at h
    obtain ⟨e2, v, hv, r⟩ := pk_some rr e
    subst e2
    exact ⟨d, v, hv, r, h⟩
  | ex x ρ' =>
    unfold pk at e
    split at e <;> cases e
  | no => rw [e] at h; exact h.elim
theorem asg_ok {k : Expr} (hk : okE k = true) (o : Expr) (p : Pos) (env : Env) (v : Value) : assign (.Subscript o k p) env v = (do
      let ov ← holding [v] (eval o env)
      let iv ← holding [v, ov] (eval k env)
      standAt p
      holding [v, ov, iv] (setItem ov iv v)
      release [v, ov, iv] []) := by
  cases k <;> first | rfl | exact Bool.noConfusion hk
theorem ds_si {x : Str} {px p2 : Pos} {e k : Expr} {me mk : M D} (S : Sc C n) (i : Nat) (hi : i ∈ n.vs) (hx : n.N[i]? = some x) (he : DE C e me) (hk : DE C k mk) (hl : noLc e = true) : DS C (.Assign [.Subscript (.Name x px) k p2] e pos) (siM i me mk) :=
  ⟨PS.imp (ps_asg he.pe (pg_sub (pv_ok S i hi hx) hk.pe set_list (fun v => asg_ok hk.ok _ _ _ _)) (sws_ok he.ok hl _ _ _) (by cases e <;> rfl) rfl) fun E σ H ⟨Hf, G, ρ, rr, h⟩ => posts_bind rr h fun v d H1 Hf1 ρ1 s1 r1 rv p1 => by
    obtain ⟨_, u, hu, _, p1⟩ := posts_pk r1 p1
    refine ⟨u, hu, ?_⟩
    refine posts_bind r1 p1 fun kv kd H2 Hf2 ρ2 s2 r2 rk p2 => ?_
    split at p2
    · rename_i ds z e1
      split at p2
      · rename_i j hj
        have hs := r2.sl i _ e1
        rw [hu] at hs
        obtain ⟨q, us, a, b, c, hq, ra⟩ := hs
        cases a
        have ek : kv = .int z := by simpa only [Rp] using rk
        refine ⟨q, us, z, j, rfl, ek, hq, by rw [RpA.length ra]; exact hj, ?_⟩
        exact p2 σ _ Hf2 (Same.refl _) (r2.wr (y := .ml (ds.set j d)) e1 rfl hu ⟨q, _, rfl, b, c, upd_same, RpA.set j ra (Rp.mono s2 _ _ rv)⟩)
      · exact p2.elim
    · exact p2.elim⟩
/-- x.append(e) -/
def apM (i : Nat) (me : M D) : M Flow := bnd (pkL i) fun _ => bnd me fun d => fun ρ => match ρ[i]? with
  | some (.ml ds) => if ds.length < sizeLine then .ok .nx (ρ.set i (.ml (ds ++ [d]))) else .no
  | _ => .no
where pkL (i : Nat) : M Unit := fun ρ => match ρ[i]? with
  | some (.ml _) => .ok () ρ
  | _ => .no
theorem posts_pkL {σ : St} {H Hf G : Hp} {ρ : Rho} {i : Nat} {f : Unit → M Flow} {E : Ends} (rr : RR C.F Hf G σ H ρ) (h : PostS C E Hf G (bnd (apM.pkL i) f ρ)) : ∃ q us, σ[i]? = some (some (.ref q)) ∧ H q = some (.lst us) ∧ PostS C E Hf G (f () ρ) := by
  unfold bnd apM.pkL at h
  cases e : ρ[i]? with
  | none => simp only [e] at h; exact h.elim
  | some x =>
    cases x with
    | ml ds =>
      simp only [e] at h
      obtain ⟨q, us, a, b, c, hq, ra⟩ := rr.sl i _ e
      exact ⟨q, us, a, hq, h⟩
    | un => simp only [e] at h; exact h.elim
    | im d => simp only [e] at h; exact h.elim
    | md d => simp only [e] at h; exact h.elim
    | mi c d => simp only [e] at h; exact h.elim
theorem few_ok {e : Expr} {cpos : Pos} (he : okE e = true) : ((backTo cpos (starEach [e] C.X.env)).all (fun x => !x.1) && (backToKw cpos (keywordEach [] C.X.env)).all (fun x => x.1.isSome)
      && decide ([e].length + ([] : List Keyword).length + (if ([] : List Keyword).isEmpty then 0 else 1) < 30)) = true := by
  rw [star_ok he]; rfl
theorem ds_app {x : Str} {px ap cp : Pos} {e : Expr} {me : M D} (S : Sc C n) (i : Nat) (hi : i ∈ n.vs) (hx : n.N[i]? = some x) (he : DE C e me) (hline : (ap.endLine == cp.line) = true) : DS C (.Expr (.Call (.Attribute (.Name x px) "append" ap) [e] [] cp) pos) (apM i me) :=
  ⟨PS.imp (ps_expr (pe_bm PySem.F.plainAttrs_list PySem.F.slot_list_append PySem.F.type_list_append mt_append (pv_ok S i hi hx) (pa_cons he.pe pa_nil (star_ok he.ok _ _)) rfl (few_ok he.ok) hline (star_ok he.ok _ _) rfl) rfl) fun E σ H ⟨Hf, G, ρ, rr, h⟩ => by
    obtain ⟨q, us, hq, hH, p⟩ := posts_pkL rr h
    refine ⟨.ref q, hq, .inl ⟨rfl, us, SqL.of hH⟩, ?_⟩
    refine posts_bind rr p fun v d H1 Hf1 ρ1 s1 r1 rv p1 => ?_
    split at p1
    · rename_i ds e1
      split at p1
      · rename_i hl
        have hs := r1.sl i _ e1
        rw [hq] at hs
        obtain ⟨q', ws, a, b, c, hq', ra⟩ := hs
        cases a
        refine ⟨q, ws, v, rfl, rfl, hq', by rw [RpA.length ra]; exact hl, ?_⟩
        exact p1 σ _ Hf1 (Same.refl _) (r1.wr (y := .ml (ds ++ [d])) e1 rfl hq ⟨q, _, rfl, b, c, upd_same, RpA.append ra (RpA.cons rv RpA.nil)⟩)
      · exact p1.elim
    · exact p1.elim⟩
/-- x op= e of numbers -/
def auM (g : D → D → Option D) (i : Nat) (me : M D) : M Flow := bnd (pk i) fun x => bnd me fun y => bnd (opt (g x y)) fun z => fun ρ => .ok .nx (ρ.set i (.im z))
def addI : D → D → Option D
  | .int i, .int j => some (.int (i + j))
  | _, _ => none
theorem ds_aug {op : Operator} {k : Int → Int → Int} {g : D → D → Option D} {x : Str} {px : Pos} {e : Expr} {me : M D} (ho : PIp C.X op (ipI k)) (hg : ∀ a b d, g a b = some d → ∃ i j, a = .int i ∧ b = .int j ∧ d = .int (k i j)) (S : Sc C n) (i : Nat) (hi : i ∈ n.ws) (hx : n.N[i]? = some x) (he : DE C e me) : DS C (.AugAssign (.Name x px) op e pos) (auM g i me) :=
  ⟨PS.imp (ps_aug (by rw [S.hN]; exact S.nd) (by rw [S.hN]; exact hx) (S.loc hi hx).1 he.pe ho (S.loc hi hx).2) fun E σ H ⟨Hf, G, ρ, rr, h⟩ => by
    obtain ⟨a, u, hu, ru, p1⟩ := posts_pk rr h
    refine ⟨u, hu, ?_⟩
    refine posts_bind rr p1 fun v b H2 Hf2 ρ2 s2 r2 rv p2 => ?_
    unfold bnd at p2
    cases eg : g a b with
    | none => simp only [eg] at p2; exact p2.elim
    | some z =>
      simp only [eg] at p2
      obtain ⟨i1, j1, rfl, rfl, rfl⟩ := hg _ _ _ eg
      refine ⟨i1, j1, rpt_int ru, by simpa only [Rp] using rv, ?_⟩
      exact p2 _ H2 Hf2 (Same.refl _) (r2.set (S.mpo i hi) (rp_int _))⟩
theorem ds_augAdd {x : Str} {px : Pos} {e : Expr} {me : M D} (S : Sc C n) (i : Nat) (hi : i ∈ n.ws) (hx : n.N[i]? = some x) (he : DE C e me) : DS C (.AugAssign (.Name x px) .Add e pos) (auM addI i me) :=
  ds_aug ip_add (fun a b d h => by unfold addI at h; split at h <;> cases h; exact ⟨_, _, rfl, rfl, rfl⟩) S i hi hx he
theorem ds_augSub {x : Str} {px : Pos} {e : Expr} {me : M D} (S : Sc C n) (i : Nat) (hi : i ∈ n.ws) (hx : n.N[i]? = some x) (he : DE C e me) : DS C (.AugAssign (.Name x px) .Sub e pos) (auM subD i me) :=
  ds_aug ip_sub (fun a b d h => by unfold subD at h; split at h <;> cases h; exact ⟨_, _, rfl, rfl, rfl⟩) S i hi hx he
/-! ### a module's constant -/
theorem de_glob {x : Str} {p : Pos} {d : D} (S : Sc C n) (j : Nat) (hj : n.gs[j]? = some x) (h : ∃ u v, C.T.mg x = some u ∧ RelV v u ∧ ∀ Hf, Rp C.T Hf d v) : DE C (.Name x p) (ret d) := by
  obtain ⟨u, v, hm, r, hr⟩ := h
  exact ⟨PE.imp (pe_glob (S.gl hj).1 hm r (plB_d (S.gl hj).2).1) (lft_ret hr), rfl⟩
/-! ### a number turned about -/
def negD : D → Option D
  | .int i => some (.int (-i))
  | _ => none
theorem de_neg {a : Expr} {ma : M D} (ha : DE C a ma) : DE C (.UnaryOp .USub a pos) (c1 negD ma) :=
  ⟨PE.imp (pe_un un_neg ha.pe) fun σ H Q ⟨Hf, G, ρ, rr, h⟩ => post_bind rr h fun x d H1 Hf1 ρ1 s1 r1 rx p1 => (by
    obtain ⟨z, e, q⟩ := opt_post p1
    unfold negD at e
    split at e
    · rename_i i
      cases e
      exact ⟨i, by simpa only [Rp] using rx, q _ H1 Hf1 (Same.refl _) r1 (rp_int _)⟩
    · cases e), rfl⟩
end
end DS
namespace DS
open PySem L2
section
variable {C : DC} {n : Nm} {pos : Pos} {elt tg iter : Expr} {ifs : List Expr} {sc scope : Scope} {own : List (Str × Nat)} {vs ws : List Nat} {gs bs : List Str} {mi : M (List D)} {f : D → M Unit} {t : M Bool} {el : M D}
/-- name = [..] -/
theorem ds_lcO {i : Nat} {y : Str} {py spos : Pos} (S : Sc C n) (hi' : i ∈ n.ws) (hl' : i ∈ n.ls) (hx : n.N[i]? = some y) (hsw : swB scope y py.line pos.line = true) (L : LkSc C sc)
    (hb : blB n sc scope own vs gs bs = true) (hi : DI C tg iter mi)
    (hg : ∀ C', Sc C' (n.sub vs (own.map (·.2)) gs bs) → LkSc C' scope → DG C' tg ws f) (ht : ∀ C', Sc C' (n.sub vs (own.map (·.2)) gs bs) → LkSc C' scope → DTs C' ifs t) (he : ∀ C', Sc C' (n.sub vs (own.map (·.2)) gs bs) → LkSc C' scope → DE C' elt el) (hw : ws.all (fun i => (own.map (·.2)).contains i) = true) :
    DS C (.Assign [.Name y py] (.ListComp elt [⟨tg, iter, ifs, 0⟩] scope pos) spos) (soM (lcM (own.map (·.2)) mi f t el) i) :=
  ⟨PS.imp (ps_lc S hi' hx (S.lcl hl' hx) S.kd hsw L hb hi hg ht he hw) (so_asg S hi')⟩
def sfM (m : M (List D)) (i : Nat) : M Flow := bnd m fun ds => fun ρ => .ok .nx (ρ.set i (.im (.list ds)))
theorem sf_asg (S : Sc C n) {i : Nat} (hi : i ∈ n.ws) {m : M (List D)} : ∀ E σ H, LS C (sfM m i) E σ H → tAsg (Lft C (relF C.T) m) (gName i) E σ H := fun E σ H ⟨Hf, G, ρ, rr, h⟩ => posts_bind rr h fun v ds H1 Hf1 ρ1 s r1 ⟨p, vs, e, f, hp, ra⟩ q => by
  subst e
  exact q _ H1 _ (Same.updN f.1) ((r1.freeze hp f.1 f.2.1 f.2.2).set (S.mpo i hi) (rp_list (SqL.of upd_same) (RpA.mono (Same.updN f.1) _ _ ra)))
theorem ds_lc {i : Nat} {y : Str} {py spos : Pos} (S : Sc C n) (hi' : i ∈ n.ws) (hl' : i ∈ n.ls) (hx : n.N[i]? = some y) (hsw : swB scope y py.line pos.line = true) (L : LkSc C sc)
    (hb : blB n sc scope own vs gs bs = true) (hi : DI C tg iter mi)
    (hg : ∀ C', Sc C' (n.sub vs (own.map (·.2)) gs bs) → LkSc C' scope → DG C' tg ws f) (ht : ∀ C', Sc C' (n.sub vs (own.map (·.2)) gs bs) → LkSc C' scope → DTs C' ifs t) (he : ∀ C', Sc C' (n.sub vs (own.map (·.2)) gs bs) → LkSc C' scope → DE C' elt el) (hw : ws.all (fun i => (own.map (·.2)).contains i) = true) :
    DS C (.Assign [.Name y py] (.ListComp elt [⟨tg, iter, ifs, 0⟩] scope pos) spos) (sfM (lcM (own.map (·.2)) mi f t el) i) :=
  ⟨PS.imp (ps_lc S hi' hx (S.lcl hl' hx) S.kd hsw L hb hi hg ht he hw) (sf_asg S hi')⟩
/-- name = [..], the name captured elsewhere (a cell): an ordinary store -/
theorem sw_cell {e : Expr} {y : Str} {py : Pos} {l : Nat} {env : Env} (hy : env.scope.names.lookup y = some .cell) : swapsWith e (some (.Name y py)) l env = pure false := by
  have ky : env.kindOf y = some .cell := hy
  have hb : (some NameKind.cell == some NameKind.local) = false := rfl
  unfold swapsWith
  split
  · simp only [ky, hb, Bool.and_false, Bool.false_and]
  · rfl
theorem ds_setFc {e : Expr} {m : M (List D)} {x : Str} {px : Pos} (S : Sc C n) (i : Nat) (hi : i ∈ n.ws) (hx : n.N[i]? = some x) (h : DF C e m) (hc : i ∈ n.cs) : DS C (.Assign [.Name x px] e pos) (soM m i) :=
  ⟨PS.imp (ps_asg h.pe (pg_ok S i hi hx) (show swapsWithSole [.Name x px] e pos.line C.X.env = pure false from sw_cell (l := pos.line) (S.cel hc hx)) (by cases e <;> rfl) rfl) (so_asg S hi)⟩
theorem ds_setfc {e : Expr} {m : M (List D)} {x : Str} {px : Pos} (S : Sc C n) (i : Nat) (hi : i ∈ n.ws) (hx : n.N[i]? = some x) (h : DF C e m) (hc : i ∈ n.cs) : DS C (.Assign [.Name x px] e pos) (sfM m i) :=
  ⟨PS.imp (ps_asg h.pe (pg_ok S i hi hx) (show swapsWithSole [.Name x px] e pos.line C.X.env = pure false from sw_cell (l := pos.line) (S.cel hc hx)) (by cases e <;> rfl) rfl) (sf_asg S hi)⟩
/-! ### a, b = x, y -/
def paM (i j : Nat) (m : M (List D)) : M Flow := bnd m fun ds => match ds with
  | [d, e] => fun ρ => .ok .nx ((ρ.set i (.im d)).set j (.im e))
  | _ => stop
theorem swap_ok {x y : Str} {px py pt pt2 : Pos} {kt k2 : Nat} {a b : Expr} {env : Env} (hk : env.scope.kind = .function) (hx : env.scope.names.lookup x = some .local) (hy : env.scope.names.lookup y = some .local) (hl : (py.line == px.line) = true) (hxy : (x == y) = false)
    (ha : okE a = true) (hb : okE b = true) (h1 : [a, b].all (foldedForSure 8) = false) (h2 : [a, b].all (constantsAlone 8) = false) : swappedStores [.Tuple [.Name x px, .Name y py] kt pt] (.Tuple [a, b] k2 pt2) env = pure (some [x, y]) := by
  have kx : env.kindOf x = some .local := hx
  have ky : env.kindOf y = some .local := hy
  have hbk : env.blockKind = .function := by unfold Env.blockKind; rw [hk]; rfl
  have hyx : (y == x) = false := by rw [beq_eq_false_iff_ne] at hxy ⊢; exact Ne.symm hxy
  have hed : [x, y].eraseDups = [x, y] := by
    have h0 : (!y == x) = true := by rw [hyx]; rfl
    rw [List.eraseDups_cons]
    simp only [List.filter_cons, h0, if_true, List.filter_nil]
    rw [List.eraseDups_cons]
    rfl
  have b0 : (some NameKind.local == some NameKind.local) = true := rfl
  have l0 : (px.line == px.line) = true := by simp
  unfold swappedStores
  simp only [hbk, List.length_cons, List.length_nil, List.head?_cons, Option.map_some, Option.getD_some, Expr.pos]
  simp only [List.filterMap_cons, List.filterMap_nil, kx, ky, hl, l0, b0, Bool.and_self, if_true]
  rw [if_neg (by decide)]
  split
  · rename_i h
    exfalso
    simp only [List.any_cons, List.any_nil, Bool.or_false, Bool.or_eq_true] at h
    rcases h with h | h
    · exact absurd h (by cases a <;> first | exact Bool.false_ne_true | exact Bool.noConfusion ha)
    · exact absurd h (by cases b <;> first | exact Bool.false_ne_true | exact Bool.noConfusion hb)
  · rw [hed, if_neg (by simp), h1, h2]
    rw [if_neg (by decide), if_neg (by decide)]
theorem ds_par {i j : Nat} {x y : Str} {a b : Expr} {m : M (List D)} {px py pt pt2 : Pos} {kt k2 : Nat} (S : Sc C n) (hi : i ∈ n.ws) (hj : j ∈ n.ws) (li : i ∈ n.ls) (lj : j ∈ n.ls) (hx : n.N[i]? = some x) (hy : n.N[j]? = some y) (hij : i ≠ j) (hl : (py.line == px.line) = true) (hxy : (x == y) = false)
    (ha : DA C [a, b] m) (oa : okE a = true) (ob : okE b = true) (h1 : [a, b].all (foldedForSure 8) = false) (h2 : [a, b].all (constantsAlone 8) = false) : DS C (.Assign [.Tuple [.Name x px, .Name y py] kt pt] (.Tuple [a, b] k2 pt2) pos) (paM i j m) :=
  ⟨PS.imp (ps_par S.calm (by rw [S.hN]; exact S.nd) (by rw [S.hN]; exact hx) (by rw [S.hN]; exact hy) hij (S.lcl li hx) (S.lcl lj hy) ha.pa (swap_ok S.kd (S.lcl li hx) (S.lcl lj hy) hl hxy oa ob h1 h2) rfl) fun E σ H ⟨Hf, G, ρ, rr, h⟩ => posts_bind rr h fun vs ds H1 Hf1 ρ1 s1 r1 ra p1 => by
    match ds, ra, p1 with
    | [d, e], ra, p1 =>
      obtain ⟨v, r, e1, q1, z⟩ := RpA.uncons ra
      obtain ⟨w, r', e2, q2, z'⟩ := RpA.uncons z
      rw [RpA.unnil z'] at e2
      subst e1 e2
      exact ⟨v, w, rfl, p1 _ H1 Hf1 (Same.refl _) ((r1.set (S.mpo i hi) q1).set (S.mpo j hj) q2)⟩
    | [], ra, p1 => exact p1.elim
    | [_], ra, p1 => exact p1.elim
    | _ :: _ :: _ :: _, ra, p1 => exact p1.elim⟩
/-! ### sorted -/
theorem each_reads {X : Cx} {pins : List (Addr × Obj)} {σ : St} {H : Hp} {s : Shared} (I : Inv X pins σ H s) : ∀ {ds : List D} {vs : List V} {us : List Value}, DpAll X.K H vs ds → Vals vs us → PySem.W.EachIs (fun v b => ∃ as, Reads s.heap v b as) us ds
  | [], _, _, h, r => by cases h; cases r; exact .nil
  | d :: ds, _, _, h, r => by
    cases h with
    | cons h1 h2 =>
      cases r with
      | cons r1 r2 => exact .cons (Dp.reads I d _ _ h1 r1) (each_reads I h2 r2)
theorem dpall_of {K : PySem.W.Frag} {H : Hp} : ∀ {vs : List V} {ds : List D} {us : List Value} , DpAll K H vs ds → Vals vs us → us.length = ds.length
  | _, _, _, .nil, .nil => rfl
  | _, _, _, .cons _ h, .cons _ r => by simp [dpall_of h r]
/-- every item is a kind of its own; what is sorted is data all of one kind -/
def sortOk (ds : List D) : Bool := (ds.all fun d => ds.all fun e => PySem.W.alike d e) && (ds.all fun d => decide (d.depth ≤ 64)) && noObjA ds && decide (ds.length ≤ sizeLine) &&
  ((ds.all fun d => match d with | .tuple (_ :: _) => true | _ => false) || ds.all fun d => match d with | .none => false | .tuple _ => false | _ => true)
def sortL (ds : List D) : List D := ds.mergeSort (PySem.W.dataLe false id)
def sortD : D → Option (List D)
  | .list ds => if sortOk ds then some (sortL ds) else none
  | _ => none
def rSortD (K : PySem.W.Frag) : List V → Hp → VK → Prop := fun xs H Q => ∃ a vs ds, xs = [.ref a] ∧ SqL K H a vs ∧ DpAll K H vs ds ∧ sortOk ds = true ∧
  ∀ ps : List (V × D), ps.Perm (vs.zip ds) → ps.map (·.2) = sortL ds → ∀ p, H p = none → Q (.ref p) (upd H p (.lst (ps.map (·.1))))
theorem each_zip {X : Cx} {pins : List (Addr × Obj)} {σ : St} {H : Hp} {s : Shared} (I : Inv X pins σ H s) : ∀ {ds : List D} {vs : List V} {us : List Value}, DpAll X.K H vs ds → Vals vs us →
    PySem.W.EachIs (fun u (b : V × D) => RelV b.1 u) us (vs.zip ds) ∧ PySem.W.EachIs (fun u (b : V × D) => ∃ as, Reads s.heap u b.2 as) us (vs.zip ds)
  | [], _, _, h, r => by cases h; cases r; exact ⟨.nil, .nil⟩
  | d :: ds, _, _, h, r => by
    cases h with
    | cons h1 h2 =>
      cases r with
      | cons r1 r2 =>
        obtain ⟨a, b⟩ := each_zip I h2 r2
        exact ⟨.cons r1 a, .cons (Dp.reads I d _ _ h1 r1) b⟩
theorem vals_each : ∀ {us : List Value} {bs : List (V × D)}, PySem.W.EachIs (fun u (b : V × D) => RelV b.1 u) us bs → Vals (bs.map (·.1)) us
  | _, _, .nil => .nil
  | _, _, .cons h t => .cons h (vals_each t)
theorem dpall_len {K : PySem.W.Frag} {H : Hp} : ∀ {vs : List V} {ds : List D}, DpAll K H vs ds → vs.length = ds.length
  | _, _, .nil => rfl
  | _, _, .cons _ h => by simp [dpall_len h]
theorem cr_sortD {X : Cx} (hu : X.A.units + 100 < cLine) : CallR X (.builtin "sorted") (rSortD X.K) := by
  intro pins s σ H xs us Q I r h
  obtain ⟨a, vs, ds, rfl, hs, hd, ok, q⟩ := h
  obtain ⟨its, rv, hl, hz⟩ := I.list hs
  rw [Vals.ref1 r]
  obtain ⟨e1, e2⟩ := each_zip I hd rv
  have hlen := dpall_len hd
  have hzip : (vs.zip ds).map (·.2) = ds := by rw [List.map_snd_zip (by omega)]
  unfold sortOk at ok
  simp only [Bool.and_eq_true, decide_eq_true_eq, List.all_eq_true, Bool.or_eq_true] at ok
  obtain ⟨⟨⟨⟨o1, o2⟩, o3⟩, o4⟩, o5⟩ := ok
  refine PySem.W.sorted_data (bs := vs.zip ds) (enc := fun b : V × D => b.2) hl.isList e1 e2 ?_ ?_ ?_ ?_ fun out ho eo => ?_
  · show PySem.W.AllAlike ((vs.zip ds).map (·.2))
    rw [hzip]
    exact fun d h1 d' h2 => o1 d h1 d' h2
  · show PySem.W.Sortable ((vs.zip ds).map (·.2))
    rw [hzip]
    rcases o5 with o5 | o5
    · refine .inl fun d hd => ?_
      have := o5 d hd
      match d, this with
      | .tuple (x :: r), _ => exact ⟨x, r, rfl⟩
      | .tuple [], h => cases h
      | .none, h => cases h
      | .bool _, h => cases h
      | .int _, h => cases h
      | .str _, h => cases h
      | .list _, h => cases h
      | .dict _, h => cases h
    · refine .inr fun d hd => ?_
      have := o5 d hd
      refine ⟨?_, ?_⟩
      · intro z
        subst z
        exact Bool.noConfusion this
      · intro xs z
        subst z
        exact Bool.noConfusion this
  · rw [List.length_zip]; omega
  · intro b hb
    have := o2 b.2 (List.of_mem_zip hb).2
    omega
  · have hp : ((vs.zip ds).mergeSort (PySem.W.dataLe false fun b : V × D => b.2)).Perm (vs.zip ds) := List.mergeSort_perm _ _
    have hm : ((vs.zip ds).mergeSort (PySem.W.dataLe false fun b : V × D => b.2)).map (·.2) = sortL ds := by
      have h1 := List.map_mergeSort (r := PySem.W.dataLe false fun b : V × D => b.2) (s := PySem.W.dataLe false id) (f := fun b : V × D => b.2) (l := vs.zip ds) (fun _ _ _ _ => rfl)
      rw [h1, hzip]
      rfl
    obtain ⟨ep, he'⟩ := PyProof.Rows.sortedAll_at s.heap its out.toArray
    have hvl := vals_each eo
    have hlen2 : (((vs.zip ds).mergeSort (PySem.W.dataLe false fun b : V × D => b.2)).map (·.1)).length ≤ sizeLine := by
      rw [List.length_map, List.length_mergeSort, List.length_zip]; omega
    exact ⟨.ref _, upd H (s.heap.objs.size + 1) (.lst (((vs.zip ds).mergeSort (PySem.W.dataLe false fun b : V × D => b.2)).map (·.1))), I.laid (t' := s.toks) (fun _ _ => PyProof.Rows.sortedAll_old) (Nat.le_succ _) ⟨hlen2, out, ep, hvl, he'⟩, rfl, q _ hp hm _ (I.hok.fresh (Nat.le_succ _))⟩
theorem rpa_of_mem {T : Wd} {H : Hp} : ∀ (ps : List (V × D)), (∀ p ∈ ps, Rp T H p.2 p.1) → RpA T H (ps.map (·.2)) (ps.map (·.1))
  | [], _ => RpA.nil
  | p :: ps, h => RpA.cons (h p List.mem_cons_self) (rpa_of_mem ps fun q hq => h q (List.mem_cons_of_mem _ hq))
theorem rpa_zip {T : Wd} {H : Hp} : ∀ {ds : List D} {vs : List V}, RpA T H ds vs → ∀ p ∈ vs.zip ds, Rp T H p.2 p.1
  | [], vs, h, p, hp => by simp at hp
  | d :: ds, vs, h, p, hp => by
    obtain ⟨v, r, e, q, z⟩ := RpA.uncons h
    subst e
    rcases List.mem_cons.mp hp with e | hp
    · subst e; exact q
    · exact rpa_zip z p hp
def soD (m : M D) : M (List D) := bnd m fun x => opt (sortD x)
theorem df_sorted {a : Expr} {ma : M D} {p : Pos} (S : Sc C n) (j : Nat) (hj : n.bs[j]? = some ("sorted" : Str)) (ha : DK C a ma) : DF C (.Call (.Name "sorted" p) [a] [] pos) (soD ma) :=
  ⟨PE.imp (pe_callB (cr_sortD (by have := S.room.un; omega)) (S.bl hj).1 (S.bl hj).2 (by decide +kernel) (pa_cons ha.pe pa_nil (star_ok ha.ok _ _)) (by decide) (by decide) (star_ok ha.ok _ _) rfl) fun σ H Q ⟨Hf, G, ρ, rr, h⟩ => post_bind rr h fun x d H1 Hf1 ρ1 s1 r1 rx p1 => (by
    obtain ⟨z, e, q⟩ := opt_post p1
    unfold sortD at e
    split at e
    · rename_i ds
      split at e
      · rename_i ok
        cases e
        obtain ⟨a, xs, e1, sa, ra⟩ := rpt_list rx
        subst e1
        have ok' := ok
        unfold sortOk at ok'
        simp only [Bool.and_eq_true] at ok'
        have hdp := (RpA.lay ds xs (RpA.mono r1.fz _ _ ra) ok'.1.1.2).2
        refine ⟨a, xs, ds, rfl, sa, hdp, ok, fun ps hp hm => ?_⟩
        rw [← hm] at q
        exact new_own r1 (rpa_of_mem ps fun b hb => rpa_zip ra b (hp.mem_iff.mp hb)) q
      · cases e
    · cases e), rfl⟩
/-! ### a list put together, new -/
def catD : D → D → Option (List D)
  | .list a, .list b => if a.length + b.length ≤ sizeLine then some (a ++ b) else none
  | _, _ => none
def catM (ma mb : M D) : M (List D) := bnd ma fun x => bnd mb fun y => opt (catD x y)
theorem df_cat {a b : Expr} {ma mb : M D} (ha : DE C a ma) (hb : DK C b mb) : DF C (.BinOp a .Add b pos) (catM ma mb) :=
  ⟨PE.imp (pe_op op_catL ha.pe hb.pe) fun σ H Q ⟨Hf, G, ρ, rr, h⟩ => post_bind rr h fun x d H1 Hf1 ρ1 s1 r1 rx p1 => post_bind r1 p1 fun y e H2 Hf2 ρ2 s2 r2 ry p2 => (by
    obtain ⟨z, ez, q⟩ := opt_post p2
    unfold catD at ez
    split at ez
    · split at ez
      · rename_i hl
        cases ez
        obtain ⟨p1, xs, e1, sq1, ra⟩ := rpt_list (Rp.top r2.fz (Rp.mono s2 _ _ rx))
        obtain ⟨p2, ys, e2, sq2, rb⟩ := rpt_list ry
        exact ⟨p1, p2, xs, ys, e1, e2, sq1, sq2, by rw [RpA.length ra, RpA.length rb]; exact hl, new_own r2 (RpA.append ra rb) q⟩
      · cases ez
    · cases ez), rfl⟩
/-- no slot is shared with the caller -/
theorem noMp (S : Sc C n) (h : n.mp = []) : ∀ (Hf G : Hp) (σ : St) (H : Hp) (ρ : Rho) (i : Nat), RR C.F Hf G σ H ρ → i ∈ C.mp → ∃ x, ρ[i]? = some x ∧ owns x = true := fun _ _ _ _ _ i _ hi => by
  rw [S.mpe, h] at hi; cases hi
/-- a module's constant -/
def Cn (T : Wd) (x : Str) (d : D) : Prop := ∃ u v, T.mg x = some u ∧ RelV v u ∧ ∀ Hf, Rp T Hf d v
end
end DS
namespace DS
open PySem L2
/-! ### the end -/
section
variable {P : Program} {w : World} {K : PySem.W.Frag} {mg : Str → Option Value} {base : Heap}
theorem has_mk {x qual : Str} {sd : Stmt} {f : Addr} {fd : FuncData} {ps : List Str} {n : Nm} {m : M Flow} (F : Fun K x qual sd f fd) (hm : mg x = some (.ref f)) (hb : Binds K fd ps []) (S : FnScope n.N ps (defScope sd)) (hp : ps.length ≤ n.N.length)
    (ck : scB n (defScope sd) = true) (bno : ∀ x ∈ n.bn, mg x = none) (fs : n.fs ⟨P, w, K, mg, base⟩) (hD : ∀ C, Sc C n → LkSc C (defScope sd) → DSs C (defBody sd) m) : Has ⟨P, w, K, mg, base⟩ x (n.lv + 1) (runF ps.length n.N.length n.mp m) :=
  ⟨f, fd, ps, fn_ok F S hp ck bno fs hD, hm, F.kp, hb⟩
theorem hasO_mk {x qual : Str} {sd : Stmt} {f : Addr} {fd : FuncData} {ps : List Str} {n : Nm} {m : M Flow} (F : Fun K x qual sd f fd) (hm : mg x = some (.ref f)) (hb : Binds K fd ps []) (S : FnScope n.N ps (defScope sd)) (hp : ps.length ≤ n.N.length)
    (ck : scB n (defScope sd) = true) (bno : ∀ x ∈ n.bn, mg x = none) (fs : n.fs ⟨P, w, K, mg, base⟩) (hD : ∀ C, Sc C n → LkSc C (defScope sd) → DSs C (defBody sd) m) : HasO ⟨P, w, K, mg, base⟩ x (n.lv + 1) (runO ps.length n.N.length n.mp m) :=
  ⟨f, fd, ps, fn_okO F S hp ck bno fs hD, hm, F.kp, hb⟩
/-- the law's promise: of at most 63 ints it tells True -/
def spL (K : PySem.W.Frag) : Sp := fun vs H Q _ => ∃ (a : Addr) (ns : List Int), vs = [.ref a] ∧ SqL K H a (ns.map V.int) ∧ ns.length ≤ 63 ∧ ∀ H', Q (.bl true) H'
theorem rpa_ints {T : Wd} {H : Hp} : ∀ ns : List Int, RpA T H (ns.map .int) (ns.map V.int)
  | [] => RpA.nil
  | n :: ns => RpA.cons (rp_int n) (rpa_ints ns)
theorem law_fn {k : Nat} {f : Addr} {fd : FuncData} {F : List Sl → Res D} (h : FnOk P w K mg base CX0 k f fd ["script"] (fsp ⟨P, w, K, mg, base⟩ F))
    (ht : ∀ ns : List Int, ns.length ≤ 63 → ∃ r, F [.im (.list (ns.map .int))] = .ok (.bool true) r) : FnOk P w K mg base CX0 k f fd ["script"] (spL K) := by
  refine h.imp fun vs H Q E ⟨a, ns, e, hS, hl, q⟩ => ?_
  subst e
  obtain ⟨r, hr⟩ := ht ns hl
  refine ⟨H, fun _ => none, [.im (.list (ns.map .int))], Same.refl _, (fun _ _ z => by cases z), (fun _ _ z => by cases z), rfl, fun i v x hv hx => ?_, fun i j p x y hij ex ey ox oy hx hy => ?_, ?_⟩
  · cases i with
    | succ i => simp at hv
    | zero =>
      simp at hv hx
      subst hv hx
      exact ⟨⟨.ref a, rfl, rp_list hS (rpa_ints ns)⟩, fun z => by cases z⟩
  · cases i with
    | succ i => simp at hx
    | zero =>
      simp at ex
      subst ex
      cases ox
  · rw [hr]
    intro v H' Hf' _ _ _ _ rv _
    have : v = .bl true := by simpa only [Rp] using rv
    subst this
    exact q H'
theorem mg_const {x : Str} {i : Int} {t : Tok} (h : mg x = some (.int i t)) : Cn ⟨P, w, K, mg, base⟩ x (.int i) := ⟨_, .int i, h, ⟨t, rfl⟩, fun _ => rp_int i⟩
end
theorem walk_L {l : PySem.W.OpenLaw} {q : Program} {loose : List Str} {XP : (Str → Option Value) → Heap → Prop} {YP : World → Heap → Prop} {d : DefRec} {K : Params → PySem.W.Frag} {k : Nat} (hr : Room k callerA) (hn : l.most = some 63) (hdf : d.params.defaults = [])
    (hY : ∀ (w : World) (h : Heap), YP w h → (K w.params).In h)
    (F : ∀ (w : World) (mg : Str → Option Value) (fa : Addr) (h : Heap), (K w.params).In h → h.Ns mainGlobals mg → mg d.name = some (.ref fa) →
      ∃ fd : FuncData, (∀ (s : Shared) (u : Value), BindsTo s fd ⟨[u], []⟩ [("script", u)]) ∧ ∀ base : Heap, (K w.params).In base → base.Ns mainGlobals mg → FnOk l.prog w (K w.params) mg base CX0 k fa fd ["script"] (spL (K w.params))) :
    PySem.W.WalkO q loose XP YP l.row.toRowW d [] (fun f vs => PySem.call f vs) :=
  L2.walk_of (n := 63) (k := k) (x := "script") (CX := fun _ => CX0) (sp := fun w => spL (K w.params)) hn (by decide) hdf hr hY F (fun _ _ a ns hl _ hS => ⟨a, ns, rfl, hS, hl, fun _ => rfl⟩) fun _ _ _ _ _ z => z
end DS
/-! Running the readings. -/
namespace DS
open PySem L2
section
variable {α β : Type}
@[simp ↓] theorem bnd_eq (m : M α) (f : α → M β) (ρ : Rho) : bnd m f ρ = match m ρ with | .ok a r => f a r | .ex e r => .ex e r | .no => .no := id rfl
@[simp ↓] theorem ret_eq (a : α) (ρ : Rho) : ret a ρ = .ok a ρ := id rfl
@[simp ↓] theorem rd_eq (i : Nat) (ρ : Rho) : rd i ρ = match ρ[i]? with | some (.im d) => .ok d ρ | some (.ml ds) => .ok (.list ds) (ρ.set i (.im (.list ds))) | _ => .no := id rfl
@[simp ↓] theorem pk_eq (i : Nat) (ρ : Rho) : pk i ρ = match ρ[i]? with | some (.im d) => .ok d ρ | some (.ml ds) => .ok (.list ds) ρ | _ => .no := id rfl
@[simp ↓] theorem opt_some (a : α) (ρ : Rho) : opt (some a) ρ = .ok a ρ := id rfl
@[simp ↓] theorem opt_none (ρ : Rho) : opt (none : Option α) ρ = .no := id rfl
@[simp ↓] theorem bin_eq (g : D → D → Option D) (a b : M D) (ρ : Rho) : bin g a b ρ = (bnd a fun x => bnd b fun y => opt (g x y)) ρ := id rfl
@[simp ↓] theorem binN_eq (g : D → D → Option D) (i : Nat) (b : M D) (ρ : Rho) : binN g i b ρ = (bnd (pk i) fun _ => bnd b fun y => bnd (pk i) fun x => opt (g x y)) ρ := id rfl
@[simp ↓] theorem c1_eq (g : D → Option D) (a : M D) (ρ : Rho) : c1 g a ρ = (bnd a fun x => opt (g x)) ρ := id rfl
@[simp ↓] theorem asB_bool (m : M D) (ρ : Rho) : asB m ρ = match m ρ with | .ok (.bool b) r => .ok b r | .ok _ _ => .no | .ex e r => .ex e r | .no => .no := by
  unfold asB bnd
  cases m ρ with
  | ok d r => cases d <;> rfl
  | ex e r => rfl
  | no => rfl
@[simp ↓] theorem andV_eq (a b : M D) (ρ : Rho) : andV a b ρ = (bnd (asB a) fun x => if x = true then b else ret (.bool false)) ρ := id rfl
@[simp ↓] theorem orV_eq (a b : M D) (ρ : Rho) : orV a b ρ = (bnd (asB a) fun x => if x = true then ret (.bool true) else b) ρ := id rfl
@[simp ↓] theorem notV_eq (a : M D) (ρ : Rho) : notV a ρ = (bnd (asB a) fun x => ret (.bool (!x))) ρ := id rfl
@[simp ↓] theorem ifV_eq (t : M Bool) (a b : M D) (ρ : Rho) : ifV t a b ρ = (bnd t fun c => if c = true then a else b) ρ := id rfl
@[simp ↓] theorem andB_eq (a b : M Bool) (ρ : Rho) : andB a b ρ = (bnd a fun x => if x = true then b else ret false) ρ := id rfl
@[simp ↓] theorem orB_eq (a b : M Bool) (ρ : Rho) : orB a b ρ = (bnd a fun x => if x = true then ret true else b) ρ := id rfl
@[simp ↓] theorem notB_eq (a : M Bool) (ρ : Rho) : notB a ρ = (bnd a fun x => ret (!x)) ρ := id rfl
@[simp ↓] theorem chM_eq (g g' : D → D → Option D) (a b c : M D) (ρ : Rho) : chM g g' a b c ρ = (bnd a fun x => bnd b fun y => bnd (opt (g x y)) fun z => match z with | .bool k => if k = true then bnd c fun w => opt (g' y w) else ret (.bool false) | _ => stop) ρ := id rfl
@[simp ↓] theorem rtM_eq (m : M D) (ρ : Rho) : rtM m ρ = (bnd m fun d => ret (.rt d)) ρ := id rfl
@[simp ↓] theorem roM_eq (m : M (List D)) (ρ : Rho) : roM m ρ = (bnd m fun d => ret (.ro d)) ρ := id rfl
@[simp ↓] theorem exM_eq (m : M D) (ρ : Rho) : exM m ρ = (bnd m fun _ => ret .nx) ρ := id rfl
@[simp ↓] theorem ifM_eq (t : M Bool) (a b : M Flow) (ρ : Rho) : ifM t a b ρ = (bnd t fun c => if c = true then a else b) ρ := id rfl
@[simp ↓] theorem sq_eq (a b : M Flow) (ρ : Rho) : sq a b ρ = match a ρ with | .ok .nx r => b r | r => r := by
  unfold sq bnd
  cases a ρ with
  | ok f r => cases f <;> rfl
  | ex e r => rfl
  | no => rfl
@[simp ↓] theorem asM_eq (m : M D) (f : D → M Unit) (ρ : Rho) : asM m f ρ = match m ρ with | .ok d r => (match f d r with | .ok _ r1 => .ok .nx r1 | _ => .no) | .ex e r => .ex e r | .no => .no := by
  unfold asM bnd
  cases m ρ <;> rfl
@[simp ↓] theorem st_eq (i : Nat) (d : D) (ρ : Rho) : st i d ρ = .ok () (ρ.set i (.im d)) := id rfl
@[simp ↓] theorem soM_eq (m : M (List D)) (i : Nat) (ρ : Rho) : soM m i ρ = (bnd m fun ds => fun ρ => .ok .nx (ρ.set i (.ml ds))) ρ := id rfl
@[simp ↓] theorem sfM_eq (m : M (List D)) (i : Nat) (ρ : Rho) : sfM m i ρ = (bnd m fun ds => fun ρ => .ok .nx (ρ.set i (.im (.list ds)))) ρ := id rfl
@[simp ↓] theorem stN_nil (ρ : Rho) : stN [] ρ = .ok () ρ := id rfl
@[simp ↓] theorem stC_cons (f : D → M Unit) (g : List D → M Unit) (d : D) (ds : List D) (ρ : Rho) : stC f g (d :: ds) ρ = (bnd (f d) fun _ => g ds) ρ := id rfl
@[simp ↓] theorem unT_eq (k : Nat) (f : List D → M Unit) (ds : List D) (ρ : Rho) : unT k f (.tuple ds) ρ = (if ds.length = k then f ds else stop) ρ := id rfl
@[simp ↓] theorem forS_eq (m : M (List D)) (f : D → M Unit) (b : M Flow) (ρ : Rho) : forS m f b ρ = (bnd m (forM f b)) ρ := id rfl
@[simp ↓] theorem itM_eq (m : M D) (ρ : Rho) : itM m ρ = (bnd m fun x => opt (walkD x)) ρ := id rfl
@[simp ↓] theorem consM_eq (a : M D) (b : M (List D)) (ρ : Rho) : consM a b ρ = (bnd a fun x => bnd b fun xs => ret (x :: xs)) ρ := id rfl
@[simp ↓] theorem tupM_eq (m : M (List D)) (ρ : Rho) : tupM m ρ = (bnd m fun ds => if ds.length ≤ sizeLine then ret (.tuple ds) else stop) ρ := id rfl
@[simp ↓] theorem lstM_eq (m : M (List D)) (ρ : Rho) : lstM m ρ = (bnd m fun ds => if ds.length ≤ sizeLine then ret ds else stop) ρ := id rfl
@[simp ↓] theorem frzM_eq (m : M (List D)) (ρ : Rho) : frzM m ρ = (bnd m fun ds => ret (.list ds)) ρ := id rfl
@[simp ↓] theorem slM_eq (m : M D) (lo hi : M (Option Int)) (ρ : Rho) : slM m lo hi ρ = (bnd m fun x => bnd lo fun l => bnd hi fun h => opt (slD x l h)) ρ := id rfl
@[simp ↓] theorem slN_eq (i : Nat) (lo hi : M (Option Int)) (ρ : Rho) : slN i lo hi ρ = (bnd (pk i) fun _ => bnd lo fun l => bnd hi fun h => bnd (pk i) fun x => opt (slD x l h)) ρ := id rfl
@[simp ↓] theorem asI_eq (m : M D) (ρ : Rho) : asI m ρ = (bnd m fun d => match d with | .int i => ret (some i) | _ => stop) ρ := id rfl
@[simp ↓] theorem vim_eq (a : M D) (b : M (List AV)) (ρ : Rho) : vim a b ρ = (bnd a fun x => bnd b fun xs => ret (.im x :: xs)) ρ := id rfl
@[simp ↓] theorem vsl_eq (i : Nat) (b : M (List AV)) (ρ : Rho) : vsl i b ρ = (bnd (vsl.pkO i) fun _ => bnd b fun xs => ret (.sl i :: xs)) ρ := id rfl
@[simp ↓] theorem pkO_eq (i : Nat) (ρ : Rho) : vsl.pkO i ρ = match ρ[i]? with | some x => if owns x then .ok () ρ else .no | none => .no := id rfl
@[simp ↓] theorem owns_ml (ds : List D) : owns (.ml ds) = true := id rfl
@[simp ↓] theorem owns_im (d : D) : owns (.im d) = false := id rfl
@[simp ↓] theorem owns_unn : owns .un = false := id rfl
@[simp ↓] theorem callM_eq (F : List Sl → Res α) (as : List AV) (ρ : Rho) : callM F as ρ = match resolve ρ as with
  | none => .no
  | some args => if nodupB (slots as) then
      match F args with
      | .ok d args' => if args'.length = args.length then .ok d (back ρ as args') else .no
      | .ex e _ => if (slots as).isEmpty then .ex e ρ else .no
      | .no => .no
    else .no := id rfl
@[simp ↓] theorem res_nil (ρ : Rho) : resolve ρ [] = some [] := id rfl
@[simp ↓] theorem res_im (ρ : Rho) (d : D) (as : List AV) : resolve ρ (.im d :: as) = (resolve ρ as).map (.im d :: ·) := id rfl
@[simp ↓] theorem res_sl (ρ : Rho) (i : Nat) (as : List AV) : resolve ρ (.sl i :: as) = match ρ[i]? with | some x => if owns x then (resolve ρ as).map (x :: ·) else none | none => none := id rfl
@[simp ↓] theorem slots_nil : slots [] = [] := id rfl
@[simp ↓] theorem slots_im (d : D) (as : List AV) : slots (.im d :: as) = slots as := id rfl
@[simp ↓] theorem slots_sl (i : Nat) (as : List AV) : slots (.sl i :: as) = i :: slots as := id rfl
@[simp ↓] theorem nodupB_nil : nodupB [] = true := id rfl
@[simp ↓] theorem nodupB_cons (i : Nat) (l : List Nat) : nodupB (i :: l) = (!l.contains i && nodupB l) := id rfl
@[simp ↓] theorem back_nil' (ρ : Rho) (xs : List Sl) : back ρ [] xs = ρ := by unfold back; rfl
@[simp ↓] theorem back_im (ρ : Rho) (d : D) (as : List AV) (x : Sl) (xs : List Sl) : back ρ (.im d :: as) (x :: xs) = back ρ as xs := id rfl
@[simp ↓] theorem back_sl (ρ : Rho) (i : Nat) (as : List AV) (x : Sl) (xs : List Sl) : back ρ (.sl i :: as) (x :: xs) = (back ρ as xs).set i x := id rfl
@[simp ↓] theorem siM_eq (i : Nat) (me mk : M D) (ρ : Rho) : siM i me mk ρ = (bnd me fun d => bnd (pk i) fun _ => bnd mk fun k => fun ρ => match ρ[i]?, k with
  | some (.ml ds), .int z => (match ixN ds.length z with | some j => .ok .nx (ρ.set i (.ml (ds.set j d))) | none => .no)
  | _, _ => .no) ρ := id rfl
@[simp ↓] theorem apM_eq (i : Nat) (me : M D) (ρ : Rho) : apM i me ρ = (bnd (apM.pkL i) fun _ => bnd me fun d => fun ρ => match ρ[i]? with
  | some (.ml ds) => if ds.length < sizeLine then .ok .nx (ρ.set i (.ml (ds ++ [d]))) else .no
  | _ => .no) ρ := id rfl
@[simp ↓] theorem pkL_eq (i : Nat) (ρ : Rho) : apM.pkL i ρ = match ρ[i]? with | some (.ml _) => .ok () ρ | _ => .no := id rfl
@[simp ↓] theorem paM_eq (i j : Nat) (m : M (List D)) (ρ : Rho) : paM i j m ρ = (bnd m fun ds => match ds with | [d, e] => fun ρ => .ok .nx ((ρ.set i (.im d)).set j (.im e)) | _ => stop) ρ := id rfl
@[simp ↓] theorem lcM_eq (vs : List Nat) (mi : M (List D)) (f : D → M Unit) (t : M Bool) (el : M D) (ρ : Rho) : lcM vs mi f t el ρ = (bnd mi (lcA vs f t el [])) ρ := id rfl
@[simp ↓] theorem liM_eq (m : M D) (ρ : Rho) : liM m ρ = (bnd m fun x => opt (itemsD x)) ρ := id rfl
@[simp ↓] theorem catM_eq (a b : M D) (ρ : Rho) : catM a b ρ = (bnd a fun x => bnd b fun y => opt (catD x y)) ρ := id rfl
@[simp ↓] theorem soD_eq (m : M D) (ρ : Rho) : soD m ρ = (bnd m fun x => opt (sortD x)) ρ := id rfl
@[simp ↓] theorem enM_eq (m : M D) (ρ : Rho) : enM m ρ = (bnd m fun x => match x with | .list ds => ret (enD ds) | _ => stop) ρ := id rfl
@[simp ↓] theorem rg1_eq (m : M D) (ρ : Rho) : rg1 m ρ = (bnd m fun x => match x with | .int j => if inR j then ret (rgD 0 j.toNat 1) else stop | _ => stop) ρ := id rfl
@[simp ↓] theorem rg2_eq (a b : M D) (ρ : Rho) : rg2 a b ρ = (bnd a fun x => bnd b fun y => match x, y with | .int i, .int j => if inR i && inR j then ret (rgD i (j - i).toNat 1) else stop | _, _ => stop) ρ := id rfl
@[simp ↓] theorem wpR_nil (ρ : Rho) : wpR ρ [] = ρ := id rfl
@[simp ↓] theorem wpR_cons (ρ : Rho) (v : Nat) (vs : List Nat) : wpR ρ (v :: vs) = (wpR ρ vs).set v .un := id rfl
@[simp ↓] theorem ownAt_nil (mp : List Nat) (k : Nat) : ownAt mp k [] = true := id rfl
@[simp ↓] theorem ownAt_cons (mp : List Nat) (k : Nat) (x : Sl) (xs : List Sl) : ownAt mp k (x :: xs) = ((!owns x || mp.contains k) && ownAt mp (k + 1) xs) := id rfl
/-! operators on numbers -/
@[simp ↓] theorem addD_int (i j : Int) : addD (.int i) (.int j) = some (.int (i + j)) := id rfl
@[simp ↓] theorem addD_list (a b : List D) : addD (.list a) (.list b) = if a.length + b.length ≤ sizeLine then some (.list (a ++ b)) else none := id rfl
@[simp ↓] theorem addD_str (a b : Str) : addD (.str a) (.str b) = if a.length + b.length ≤ sizeLine then some (.str (a ++ b)) else none := id rfl
@[simp ↓] theorem addD_tuple (a b : List D) : addD (.tuple a) (.tuple b) = if a.length + b.length ≤ sizeLine then some (.tuple (a ++ b)) else none := id rfl
@[simp ↓] theorem catD_list (a b : List D) : catD (.list a) (.list b) = if a.length + b.length ≤ sizeLine then some (a ++ b) else none := id rfl
@[simp ↓] theorem subD_int (i j : Int) : subD (.int i) (.int j) = some (.int (i - j)) := id rfl
@[simp ↓] theorem mulD_int (i j : Int) : mulD (.int i) (.int j) = if mulOk i j then some (.int (i * j)) else none := id rfl
@[simp ↓] theorem modD_int (i j : Int) : modD (.int i) (.int j) = if 0 < j then some (.int (i % j)) else none := id rfl
@[simp ↓] theorem divD_int (i j : Int) : divD (.int i) (.int j) = if big (0 < j ∧ j < 1073741824) then some (.int (i / j)) else none := id rfl
@[simp ↓] theorem powD_int (i j : Int) : powD (.int i) (.int j) = if big (0 ≤ j ∧ j ≤ 1000000 ∧ i.natAbs < 2 ^ 64) then some (.int (i ^ j.toNat)) else none := id rfl
@[simp ↓] theorem negD_int (i : Int) : negD (.int i) = some (.int (-i)) := id rfl
@[simp ↓] theorem ltD_int (i j : Int) : ltD (.int i) (.int j) = some (.bool (decide (i < j))) := id rfl
@[simp ↓] theorem leD_int (i j : Int) : leD (.int i) (.int j) = some (.bool (decide (i ≤ j))) := id rfl
@[simp ↓] theorem gtD_int (i j : Int) : gtD (.int i) (.int j) = some (.bool (decide (j < i))) := id rfl
@[simp ↓] theorem geD_int (i j : Int) : geD (.int i) (.int j) = some (.bool (decide (j ≤ i))) := id rfl
@[simp ↓] theorem max2D_int (i j : Int) : max2D (.int i) (.int j) = some (.int (if j > i then j else i)) := id rfl
@[simp ↓] theorem min2D_int (i j : Int) : min2D (.int i) (.int j) = some (.int (if j < i then j else i)) := id rfl
theorem dep_int (i : Int) : PyData.depth (.int i) = 0 := by simp only [PyData.depth]
theorem dep_str (i : Str) : PyData.depth (.str i) = 0 := by simp only [PyData.depth]
theorem dep_bool (i : Bool) : PyData.depth (.bool i) = 0 := by simp only [PyData.depth]
theorem dep_none : PyData.depth .none = 0 := by simp only [PyData.depth]
@[simp ↓] theorem eqD_int (i j : Int) : eqD (.int i) (.int j) = some (.bool (decide (i = j))) := by
  simp [eqD, cmpOk, dep_int, noObj, PyData.eqv, BEq.beq]
@[simp ↓] theorem neD_int (i j : Int) : neD (.int i) (.int j) = some (.bool (!decide (i = j))) := by
  simp [neD, cmpOk, dep_int, noObj, PyData.eqv, BEq.beq]
@[simp ↓] theorem lenD_list (ds : List D) : lenD (.list ds) = some (.int ds.length) := id rfl
@[simp ↓] theorem lenD_tuple (ds : List D) : lenD (.tuple ds) = some (.int ds.length) := id rfl
@[simp ↓] theorem walkD_list (ds : List D) : walkD (.list ds) = some ds := id rfl
@[simp ↓] theorem walkD_tuple (ds : List D) : walkD (.tuple ds) = some ds := id rfl
@[simp ↓] theorem itemsD_list (ds : List D) : itemsD (.list ds) = some ds := id rfl
@[simp ↓] theorem itemsD_tuple (ds : List D) : itemsD (.tuple ds) = some ds := id rfl
@[simp ↓] theorem ixD_list (ds : List D) (i : Int) : ixD (.list ds) (.int i) = atI ds i := id rfl
@[simp ↓] theorem ixD_tuple (ds : List D) (i : Int) : ixD (.tuple ds) (.int i) = atI ds i := id rfl
@[simp ↓] theorem slD_list (ds : List D) (lo hi : Option Int) : slD (.list ds) lo hi = some (.list (cutL ds lo hi)) := id rfl
@[simp ↓] theorem slD_tuple (ds : List D) (lo hi : Option Int) : slD (.tuple ds) lo hi = some (.tuple (cutL ds lo hi)) := id rfl
@[simp ↓] theorem isi_list (t : Ty) (ds : List D) : isiD t (.list ds) = some (.bool (match t with | .list => true | _ => false)) := id rfl
@[simp ↓] theorem isi_tuple (t : Ty) (ds : List D) : isiD t (.tuple ds) = some (.bool (match t with | .tuple => true | _ => false)) := id rfl
@[simp ↓] theorem isi_int (t : Ty) (i : Int) : isiD t (.int i) = some (.bool (match t with | .int => true | _ => false)) := id rfl
@[simp ↓] theorem isi_bool (t : Ty) (i : Bool) : isiD t (.bool i) = some (.bool (match t with | .int => true | .bool => true | _ => false)) := id rfl
@[simp ↓] theorem isi_str (t : Ty) (i : Str) : isiD t (.str i) = some (.bool (match t with | .str => true | _ => false)) := id rfl
@[simp ↓] theorem isi_none (t : Ty) : isiD t .none = some (.bool false) := id rfl
@[simp ↓] theorem isD_none (d : D) : isD d .none = some (.bool (isNone d)) := by cases d <;> rfl
@[simp ↓] theorem isNotD_none (d : D) : isNotD d .none = some (.bool (!isNone d)) := by cases d <;> rfl
/-- emptiness -/
theorem eqD_nil (ds : List D) (h : noObjA ds = true) : eqD (.list ds) (.list []) = some (.bool ds.isEmpty) := by
  have h1 : PyData.depth (.list ([] : List D)) = 1 := id rfl
  have : min (PyData.depth (.list ds)) (PyData.depth (.list ([] : List D))) ≤ 64 := by rw [h1]; omega
  unfold eqD cmpOk
  rw [decide_eq_true this]
  simp only [noObj, h, noObjA, Bool.and_self, if_true]
  cases ds <;> rfl
theorem neD_nil (ds : List D) (h : noObjA ds = true) : neD (.list ds) (.list []) = some (.bool (!ds.isEmpty)) := by
  have h1 : PyData.depth (.list ([] : List D)) = 1 := id rfl
  have : min (PyData.depth (.list ds)) (PyData.depth (.list ([] : List D))) ≤ 64 := by rw [h1]; omega
  unfold neD cmpOk
  rw [decide_eq_true this]
  simp only [noObj, h, noObjA, Bool.and_self, if_true]
  cases ds <;> rfl
end
end DS
/-! Running loops and comprehensions. -/
namespace DS
open PySem L2
section
mutual
theorem noObj_plain : ∀ d : D, d.plain = true → noObj d = true
  | .none, _ => rfl
  | .bool _, _ => rfl
  | .int _, _ => rfl
  | .str _, _ => rfl
  | .list ds, h => by simp only [PyData.plain] at h; simp only [noObj]; exact noObjA_plain ds h
  | .tuple ds, h => by simp only [PyData.plain] at h; simp only [noObj]; exact noObjA_plain ds h
  | .dict _, h => by simp [PyData.plain] at h
theorem noObjA_plain : ∀ ds : List D, PyData.plainAll ds = true → noObjA ds = true
  | [], _ => rfl
  | d :: ds, h => by
    simp only [PyData.plainAll, Bool.and_eq_true] at h
    simp only [noObjA, noObj_plain d h.1, noObjA_plain ds h.2, Bool.and_self]
end
section
variable {α : Type} [DecidableEq α] [PySem.W.Datum α]
abbrev tD (x : α) : D := PySem.W.Datum.toD x
theorem noObj_tD (x : α) : noObj (tD x) = true := noObj_plain _ (PySem.W.Datum.plain x)
theorem eqD_tD (x y : α) (h : PySem.W.Datum.depth α ≤ 64 := by decide) : eqD (tD x) (tD y) = some (.bool (decide (x = y))) := by
  have h1 := PySem.W.Datum.depth_le x
  unfold eqD cmpOk
  rw [noObj_tD, noObj_tD, decide_eq_true (by unfold tD; omega), PySem.W.Datum.eqv]
  rfl
theorem neD_tD (x y : α) (h : PySem.W.Datum.depth α ≤ 64 := by decide) : neD (tD x) (tD y) = some (.bool (!decide (x = y))) := by
  have h1 := PySem.W.Datum.depth_le x
  unfold neD cmpOk
  rw [noObj_tD, noObj_tD, decide_eq_true (by unfold tD; omega), PySem.W.Datum.eqv]
  rfl
end
/-- one turn of a comprehension -/
def lcStep (vs : List Nat) (f : D → M Unit) (t : M Bool) (el : M D) (d : D) (ρ : Rho) : Res (Option D) := match f d (wpR ρ vs) with
  | .ok _ ρ1 => (match t ρ1 with
    | .ok true ρ2 => (match el ρ2 with
      | .ok y ρ3 => .ok (some y) ρ3
      | _ => .no)
    | .ok false ρ2 => .ok none ρ2
    | _ => .no)
  | _ => .no
theorem lcStep_t {vs : List Nat} {f : D → M Unit} {t : M Bool} {el : M D} {d y : D} {ρ ρ0 ρ1 ρ2 ρ3 : Rho} (h0 : wpR ρ vs = ρ0) (h1 : f d ρ0 = .ok () ρ1) (h2 : t ρ1 = .ok true ρ2) (h3 : el ρ2 = .ok y ρ3) : lcStep vs f t el d ρ = .ok (some y) ρ3 := by
  unfold lcStep
  rw [h0, h1]
  simp only [h2, h3]
theorem lcStep_f {vs : List Nat} {f : D → M Unit} {t : M Bool} {el : M D} {d : D} {ρ ρ0 ρ1 ρ2 : Rho} (h0 : wpR ρ vs = ρ0) (h1 : f d ρ0 = .ok () ρ1) (h2 : t ρ1 = .ok false ρ2) : lcStep vs f t el d ρ = .ok none ρ2 := by
  unfold lcStep
  rw [h0, h1]
  simp only [h2]
theorem lcStep_tp {vs : List Nat} {f : D → M Unit} {t : M Bool} {el : M D} {d y : D} {ρ ρ0 ρ1 : Rho} (h0 : wpR ρ vs = ρ0) (h1 : f d ρ0 = .ok () ρ1) (h2 : t ρ1 = .ok true ρ1) (h3 : el ρ1 = .ok y ρ1) : lcStep vs f t el d ρ = .ok (some y) ρ1 := lcStep_t h0 h1 h2 h3
theorem lcStep_fp {vs : List Nat} {f : D → M Unit} {t : M Bool} {el : M D} {d : D} {ρ ρ0 ρ1 : Rho} (h0 : wpR ρ vs = ρ0) (h1 : f d ρ0 = .ok () ρ1) (h2 : t ρ1 = .ok false ρ1) : lcStep vs f t el d ρ = .ok none ρ1 := lcStep_f h0 h1 h2
/-- a turn that leaves no trace -/
def LcOk (vs : List Nat) (f : D → M Unit) (t : M Bool) (el : M D) (h : D → Option D) (ρ0 : Rho) (d : D) (ρ : Rho) : Prop := ∃ ρ', lcStep vs f t el d ρ = .ok (h d) ρ' ∧ wpR ρ' vs = ρ0
theorem lcP_t {vs : List Nat} {f : D → M Unit} {t : M Bool} {el : M D} {h : D → Option D} {d y : D} {ρ ρ0 ρ1 : Rho} (h0 : wpR ρ vs = ρ0) (h1 : f d ρ0 = .ok () ρ1) (hw : wpR ρ1 vs = ρ0) (hh : h d = some y) (h2 : t ρ1 = .ok true ρ1) (h3 : el ρ1 = .ok y ρ1) : LcOk vs f t el h ρ0 d ρ := ⟨ρ1, by rw [hh]; exact lcStep_t h0 h1 h2 h3, hw⟩
theorem lcP_f {vs : List Nat} {f : D → M Unit} {t : M Bool} {el : M D} {h : D → Option D} {d : D} {ρ ρ0 ρ1 : Rho} (h0 : wpR ρ vs = ρ0) (h1 : f d ρ0 = .ok () ρ1) (hw : wpR ρ1 vs = ρ0) (hh : h d = none) (h2 : t ρ1 = .ok false ρ1) : LcOk vs f t el h ρ0 d ρ := ⟨ρ1, by rw [hh]; exact lcStep_f h0 h1 h2, hw⟩
theorem lcA_step {vs : List Nat} {f : D → M Unit} {t : M Bool} {el : M D} {acc ds : List D} {d : D} {ρ ρ' : Rho} {o : Option D} (h : lcStep vs f t el d ρ = .ok o ρ') (hl : acc.length < sizeLine) : lcA vs f t el acc (d :: ds) ρ = lcA vs f t el (acc ++ o.toList) ds ρ' := by
  conv => lhs; unfold lcA
  unfold lcStep at h
  cases e1 : f d (wpR ρ vs) with
  | ok u ρ1 =>
    simp only [e1] at h ⊢
    cases e2 : t ρ1 with
    | ok c ρ2 =>
      cases c with
      | true =>
        simp only [e2] at h ⊢
        cases e3 : el ρ2 with
        | ok y ρ3 =>
          simp only [e3] at h ⊢
          cases h
          simp only [if_pos hl, Option.toList]
        | ex _ _ => simp only [e3] at h; cases h
        | no => simp only [e3] at h; cases h
      | false =>
        simp only [e2] at h ⊢
        cases h
        simp only [Option.toList, List.append_nil]
    | ex _ _ => simp only [e2] at h; cases h
    | no => simp only [e2] at h; cases h
  | ex _ _ => simp only [e1] at h; cases h
  | no => simp only [e1] at h; cases h
theorem lcA_inv0 {vs : List Nat} {f : D → M Unit} {t : M Bool} {el : M D} : ∀ (I : List D → Nat → Rho → Prop) (ds acc : List D) (ρ : Rho), acc.length + ds.length ≤ sizeLine → I acc 0 ρ →
    (∀ k d acc ρ, ds[k]? = some d → I acc k ρ → ∃ o ρ', lcStep vs f t el d ρ = .ok o ρ' ∧ I (acc ++ o.toList) (k + 1) ρ') → ∃ acc' ρ', lcA vs f t el acc ds ρ = .ok acc' (wpR ρ' vs) ∧ I acc' ds.length ρ'
  | I, [], acc, ρ, _, i0, _ => ⟨acc, ρ, rfl, i0⟩
  | I, d :: ds, acc, ρ, hl, i0, st => by
    obtain ⟨o, ρ1, e, i1⟩ := st 0 d acc ρ rfl i0
    simp only [List.length_cons] at hl
    have ho : (acc ++ o.toList).length ≤ acc.length + 1 := by cases o <;> simp
    obtain ⟨a, ρ2, e2, i2⟩ := lcA_inv0 (fun a k r => I a (k + 1) r) ds (acc ++ o.toList) ρ1 (by omega) i1 fun k d' a r hd => st (k + 1) d' a r (by simpa using hd)
    exact ⟨a, ρ2, by rw [lcA_step e (by omega)]; exact e2, i2⟩
theorem lcA_inv {vs : List Nat} {f : D → M Unit} {t : M Bool} {el : M D} (I : List D → Nat → Rho → Prop) (ds : List D) (ρ : Rho) (hl : ds.length ≤ sizeLine) (i0 : I [] 0 ρ)
    (st : ∀ k d acc ρ, ds[k]? = some d → I acc k ρ → ∃ o ρ', lcStep vs f t el d ρ = .ok o ρ' ∧ I (acc ++ o.toList) (k + 1) ρ') : ∃ acc' ρ', lcA vs f t el [] ds ρ = .ok acc' (wpR ρ' vs) ∧ I acc' ds.length ρ' :=
  lcA_inv0 I ds [] ρ (by simpa using hl) i0 st
@[simp] theorem fm_none (ds : List D) : ds.filterMap (fun _ => (none : Option D)) = [] := by induction ds <;> simp_all
/-- no state -/
theorem lcA_pure {vs : List Nat} {f : D → M Unit} {t : M Bool} {el : M D} (h : D → Option D) {ds acc : List D} {ρ : Rho} (hl : acc.length + ds.length ≤ sizeLine)
    (st : ∀ d ∈ ds, ∀ ρ1, wpR ρ1 vs = wpR ρ vs → LcOk vs f t el h (wpR ρ vs) d ρ1) : lcA vs f t el acc ds ρ = .ok (acc ++ ds.filterMap h) (wpR ρ vs) := by
  induction ds generalizing acc ρ with
  | nil => simp [lcA]
  | cons d ds ih =>
    obtain ⟨ρ1, e, w⟩ := st d List.mem_cons_self ρ rfl
    simp only [List.length_cons] at hl
    have ho : (acc ++ (h d).toList).length ≤ acc.length + 1 := by cases h d <;> simp
    rw [lcA_step e (by omega), ih (by omega) (fun d' hd r hr => by rw [w] at hr ⊢; exact st d' (List.mem_cons_of_mem _ hd) r hr), w]
    congr 1
    cases hh : h d <;> simp [hh, List.filterMap_cons]
/-- one turn of a for loop -/
def forStep (f : D → M Unit) (b : M Flow) (d : D) (ρ : Rho) : Res Flow := match f d ρ with
  | .ok _ ρ1 => b ρ1
  | _ => .no
theorem forStep_ok {f : D → M Unit} {b : M Flow} {d : D} {ρ ρ1 : Rho} (h1 : f d ρ = .ok () ρ1) : forStep f b d ρ = b ρ1 := by
  unfold forStep
  rw [h1]
theorem forM_step {f : D → M Unit} {b : M Flow} {d : D} {ds : List D} {ρ ρ' : Rho} (h : forStep f b d ρ = .ok .nx ρ') : forM f b (d :: ds) ρ = forM f b ds ρ' := by
  conv => lhs; unfold forM
  unfold forStep at h
  cases e1 : f d ρ with
  | ok u ρ1 =>
    simp only [e1] at h ⊢
    simp only [h]
  | ex _ _ => simp only [e1] at h; cases h
  | no => simp only [e1] at h; cases h
theorem forM_fold {σ : Type} {f : D → M Unit} {b : M Flow} (I : σ → Rho → Prop) (g : σ → D → σ) : ∀ (ds : List D) (s : σ) (ρ : Rho), I s ρ →
    (∀ d s ρ, d ∈ ds → I s ρ → ∃ ρ', forStep f b d ρ = .ok .nx ρ' ∧ I (g s d) ρ') → ∃ ρ', forM f b ds ρ = .ok .nx ρ' ∧ I (ds.foldl g s) ρ'
  | [], s, ρ, i0, _ => ⟨ρ, rfl, i0⟩
  | d :: ds, s, ρ, i0, st => by
    obtain ⟨ρ1, e, i1⟩ := st d s ρ List.mem_cons_self i0
    obtain ⟨ρ2, e2, i2⟩ := forM_fold I g ds (g s d) ρ1 i1 fun d' a r hd => st d' a r (List.mem_cons_of_mem _ hd)
    exact ⟨ρ2, by rw [forM_step e]; exact e2, i2⟩
theorem forM_inv {f : D → M Unit} {b : M Flow} (I : Nat → Rho → Prop) (ds : List D) (ρ : Rho) (i0 : I 0 ρ)
    (st : ∀ k d ρ, ds[k]? = some d → I k ρ → ∃ ρ', forStep f b d ρ = .ok .nx ρ' ∧ I (k + 1) ρ') : ∃ ρ', forM f b ds ρ = .ok .nx ρ' ∧ I ds.length ρ' := by
  induction ds generalizing ρ I with
  | nil => exact ⟨ρ, rfl, i0⟩
  | cons d ds ih =>
    obtain ⟨ρ1, e, i1⟩ := st 0 d ρ rfl i0
    obtain ⟨ρ2, e2, i2⟩ := ih (fun k => I (k + 1)) ρ1 i1 fun k d' r hd => st (k + 1) d' r (by simpa using hd)
    exact ⟨ρ2, by rw [forM_step e]; exact e2, i2⟩
theorem mulOk_l {i j : Int} (h0 : -1000000000000000000 ≤ i) (h1 : i ≤ 1000000000000000000) : mulOk i j = true := by
  simp [mulOk]; omega
theorem mulOk_r {i j : Int} (h0 : -1000000000000000000 ≤ j) (h1 : j ≤ 1000000000000000000) : mulOk i j = true := by
  simp [mulOk]; omega
/-! parts of data -/
def iO : D → Int
  | .int i => i
  | _ => 0
def p0 : D → D
  | .tuple (a :: _) => a
  | d => d
def p1 : D → D
  | .tuple (_ :: b :: _) => b
  | d => d
@[simp] theorem iO_int (i : Int) : iO (.int i) = i := rfl
@[simp] theorem p0_tup (a : D) (l : List D) : p0 (.tuple (a :: l)) = a := rfl
@[simp] theorem p1_tup (a b : D) (l : List D) : p1 (.tuple (a :: b :: l)) = b := rfl
/-! lists of whole numbers -/
def nI (l : List Int) : List D := l.map PyData.int
@[simp] theorem nI_length (l : List Int) : (nI l).length = l.length := by simp [nI]
theorem nI_nil : nI [] = [] := rfl
theorem nI_cons (a : Int) (l : List Int) : nI (a :: l) = .int a :: nI l := rfl
theorem nI_append (a b : List Int) : nI (a ++ b) = nI a ++ nI b := by simp [nI]
theorem nI_mem {l : List Int} {d : D} (h : d ∈ nI l) : ∃ x ∈ l, d = .int x := by
  obtain ⟨x, hx, e⟩ := List.mem_map.mp h
  exact ⟨x, hx, e.symm⟩
theorem nI_isEmpty (l : List Int) : (nI l).isEmpty = l.isEmpty := by cases l <;> rfl
theorem noObj_nI (l : List Int) : noObjA (nI l) = true := by
  induction l with
  | nil => rfl
  | cons n ns ih => simp [nI_cons, noObjA, noObj, ih]
theorem neD_nI_nil (l : List Int) : neD (.list (nI l)) (.list []) = some (.bool (!l.isEmpty)) := by rw [neD_nil _ (noObj_nI l), nI_isEmpty]
theorem eqD_nI_nil (l : List Int) : eqD (.list (nI l)) (.list []) = some (.bool l.isEmpty) := by rw [eqD_nil _ (noObj_nI l), nI_isEmpty]
theorem tD_nI (l : List Int) : tD l = .list (nI l) := rfl
theorem neD_nI (l m : List Int) : neD (.list (nI l)) (.list (nI m)) = some (.bool (!decide (l = m))) := neD_tD l m
theorem eqD_nI (l m : List Int) : eqD (.list (nI l)) (.list (nI m)) = some (.bool (decide (l = m))) := eqD_tD l m
theorem nI_get {l : List Int} {i : Nat} (h : i < l.length) : (nI l)[i]? = some (.int l[i]) := by simp [nI, h]
theorem atI_nat {ds : List D} {i : Nat} {d : D} (h : ds[i]? = some d) : atI ds (i : Int) = some d := by
  have hi : i < ds.length := lt_of_get h
  unfold atI ixN
  simp [hi]
  simpa [List.getElem?_eq_getElem hi] using h
theorem atI_int {l : List Int} {i : Nat} (h : i < l.length) : atI (nI l) (i : Int) = some (.int l[i]) := atI_nat (nI_get h)
theorem atI_m1 {ds : List D} {d : D} (h : ds.getLast? = some d) : atI ds (-1) = some d := by
  have hne : ds ≠ [] := by intro e; subst e; cases h
  have hl : 0 < ds.length := List.length_pos_iff.mpr hne
  unfold atI ixN
  have h1 : ¬ (0 : Int) ≤ -1 := by omega
  have e : (-1 + (ds.length : Int)).toNat = ds.length - 1 := by omega
  have h3 : (1 : Int) ≤ (ds.length : Int) := by omega
  rw [if_neg h1]
  simp [e, h3]
  rw [List.getLast?_eq_getElem?] at h
  exact h
def lastI (l : List Int) : Int := l.getLast?.getD 0
theorem nI_last {l : List Int} (h : l ≠ []) : (nI l).getLast? = some (.int (lastI l)) := by
  unfold nI lastI
  rw [List.getLast?_map]
  cases e : l.getLast? with
  | none => exact absurd (List.getLast?_eq_none_iff.mp e) h
  | some z => rfl
theorem lastI_mem {l : List Int} (h : l ≠ []) : lastI l ∈ l := by
  unfold lastI
  cases e : l.getLast? with
  | none => exact absurd (List.getLast?_eq_none_iff.mp e) h
  | some z => exact List.mem_of_getLast? e
theorem atI_last {l : List Int} (h : l ≠ []) : atI (nI l) (-1) = some (.int (lastI l)) := atI_m1 (nI_last h)
theorem nI_dropLast (l : List Int) : (nI l).dropLast = nI l.dropLast := by simp [nI]
theorem nI_take (l : List Int) (k : Nat) : (nI l).take k = nI (l.take k) := by simp [nI]
theorem nI_drop (l : List Int) (k : Nat) : (nI l).drop k = nI (l.drop k) := by simp [nI]
theorem cutL_init (l : List D) : cutL l none (some (-1)) = l.dropLast := by
  unfold cutL
  simp only [HT.sIx, List.drop_zero]
  rw [if_pos (by omega), List.dropLast_eq_take]
  congr 1
  omega
theorem cutL_to (l : List D) (k : Nat) : cutL l none (some (k : Int)) = l.take k := by
  unfold cutL
  rw [HT.sIx_none, HT.sIx_nat]
  simp [List.take_eq_take_iff]
theorem cutL_from (l : List D) (k : Nat) : cutL l (some (k : Int)) none = l.drop k := by
  unfold cutL
  rw [HT.sIx_none, HT.sIx_nat]
  by_cases h : k ≤ l.length
  · rw [Nat.min_eq_left h, List.take_of_length_le (by simp)]
  · rw [Nat.min_eq_right (by omega), List.drop_eq_nil_of_le (by omega), List.drop_eq_nil_of_le (by omega), List.take_nil]
theorem rg_nat (n : Nat) : rgD 0 n 1 = (List.range n).map fun (i : Nat) => PyData.int (i : Int) := by
  unfold rgD
  congr 1
  funext i
  simp
theorem intsD_map (l : List Int) : intsD (nI l) = some l := by
  induction l with
  | nil => rfl
  | cons a l ih => rw [nI_cons, intsD, ih]; rfl
theorem boolsD_map (l : List Bool) : boolsD (l.map PyData.bool) = some l := by
  induction l with
  | nil => rfl
  | cons a l ih => simp only [List.map_cons, boolsD]; rw [ih]; rfl
theorem sumD_int (l : List Int) : sumD (.list (nI l)) = some (.int l.sum) := by simp [sumD, intsD_map]
theorem allD_bool (l : List Bool) : allD (.list (l.map PyData.bool)) = some (.bool (l.all id)) := by simp only [allD, boolsD_map, Option.map_some]
end
end DS
set_option maxHeartbeats 4000000
namespace K31
open PySem L2 DS
noncomputable section
def top (i : Nat) : Stmt := PySem.Challenge.pw_barsets_k31_whole_mended.main.body.getD i (.Pass ⟨0, 0, 0, 0⟩)
abbrev s_is_number : Stmt := top 7
def m_is_number : M DS.Flow :=
  (rtM (andV (c1 (isiD .int) (pk 0)) (andV (notV (c1 (isiD .bool) (pk 0))) (chM leD leD (rd 1) (rd 0) (pk 2)))))
def F_is_number : List Sl → Res D := runF 3 3 [] m_is_number
def n_is_number : Nm := ⟨["thing", "least", "most"], [0, 1, 2], [], [], ["isinstance", "int", "bool"], ["isinstance", "int", "bool"], [], [], [], 0, fun T => True⟩
theorem sc_is_number : FnScope n_is_number.N ["thing", "least", "most"] (defScope s_is_number) := ⟨rfl, rfl, rfl, by decide +kernel, rfl, by decide +kernel, by decide +kernel⟩
theorem ck_is_number : scB n_is_number (defScope s_is_number) = true := by decide +kernel
theorem d_is_number (C : DC) (S : Sc C n_is_number) (L : LkSc C (defScope s_is_number)) : DSs C (defBody s_is_number) m_is_number :=
  (dss_one (ds_ret (de_and (de_isi .int S 0 1 rfl rfl rfl (dk_var S 0 (by decide) rfl)) (de_and (de_not (de_isi .bool S 0 2 rfl rfl rfl (dk_var S 0 (by decide) rfl))) (de_one (de_ch o_le o_le (de_var S 1 (by decide) rfl) (de_var S 0 (by decide) rfl) (dk_var S 2 (by decide) rfl)))))))
abbrev s_is_row : Stmt := top 8
def e_is_row_1 : M D := (bnd (vim (rd 2) (vim (ret (.int 0)) (vim (binN subD 1 (ret (.int 1))) (ret [])))) (callM F_is_number))
def m_is_row : M DS.Flow :=
  (rtM (andV (c1 (isiD .list) (pk 0)) (andV (bin leD (c1 lenD (pk 0)) (ret (.int 300))) (c1 allD (frzM (lcM [2] (itM (rd 0)) (st 2) (ret true) e_is_row_1))))))
def F_is_row : List Sl → Res D := runF 2 3 [] m_is_row
def n_is_row : Nm := ⟨["thing", "many", "one"], [0, 1], [], ["MOST_ROW"], ["isinstance", "list", "len", "all"], ["isinstance", "list", "len", "all"], [], [], [], 1, fun T => Cn T "MOST_ROW" (.int 300) ∧ Has T "is_number" 1 F_is_number⟩
theorem sc_is_row : FnScope n_is_row.N ["thing", "many"] (defScope s_is_row) := ⟨rfl, rfl, rfl, by decide +kernel, rfl, by decide +kernel, by decide +kernel⟩
theorem ck_is_row : scB n_is_row (defScope s_is_row) = true := by decide +kernel
theorem d_is_row (C : DC) (S : Sc C n_is_row) (L : LkSc C (defScope s_is_row)) : DSs C (defBody s_is_row) m_is_row :=
  (dss_one (ds_ret (de_and (de_isi .list S 0 1 rfl rfl rfl (dk_var S 0 (by decide) rfl)) (de_and (de_cmp o_le (de_len S 2 rfl (dk_var S 0 (by decide) rfl)) (DE.k (de_glob S 0 rfl S.fs.1))) (de_one (de_all S 3 rfl (DE.k (DF.e (df_lc S L (own := [("one", 2)]) (vs := [1, 2]) (gs := ["is_number"]) (bs := []) (by decide +kernel) (di_seq (de_var S 0 (by decide) rfl)) (fun CS' S' L' => (dg_name S' 2 (by decide) rfl)) (fun CS' S' L' => dts_nil) (fun CS' S' L' => (de_call S' 0 rfl S'.fs.2 (by decide) runF_ne (dv_im (de_var S' 2 (by decide) rfl) (dv_im de_int (dv_im (de_binN S' o_sub 1 (by decide) rfl (DE.k de_int)) dv_nil))))) (by decide))))))))))
abbrev s_look_numbers : Stmt := top 10
def m_look_numbers : M DS.Flow :=
  (sq (ifM (notB (asB (bnd (vim (rd 1) (vim (ret (.int 2)) (vim (ret (.int 200)) (ret [])))) (callM F_is_number)))) stop (ret .nx))
  (ifM (notB (asB (bnd (vim (rd 0) (vim (rd 1) (ret []))) (callM F_is_row)))) stop (ret .nx)))
def F_look_numbers : List Sl → Res D := runF 2 2 [] m_look_numbers
def n_look_numbers : Nm := ⟨["numbers", "base"], [0, 1], [], ["is_number", "is_row"], [], [], [], [], [], 2, fun T => Has T "is_number" 1 F_is_number ∧ Has T "is_row" 2 F_is_row⟩
theorem sc_look_numbers : FnScope n_look_numbers.N ["numbers", "base"] (defScope s_look_numbers) := ⟨rfl, rfl, rfl, by decide +kernel, rfl, by decide +kernel, by decide +kernel⟩
theorem ck_look_numbers : scB n_look_numbers (defScope s_look_numbers) = true := by decide +kernel
theorem d_look_numbers (C : DC) (S : Sc C n_look_numbers) (L : LkSc C (defScope s_look_numbers)) : DSs C (defBody s_look_numbers) m_look_numbers :=
  (dss_cons (ds_if (dt_not (dt_val (de_call S 0 rfl S.fs.1 (by decide) runF_ne (dv_im (de_var S 1 (by decide) rfl) (dv_im de_int (dv_im de_int dv_nil)))) rfl)) (dss_one ds_never) dss_nil)
  (dss_one (ds_if (dt_not (dt_val (de_call S 1 rfl S.fs.2 (by decide) runF_ne (dv_im (de_var S 0 (by decide) rfl) (dv_im (de_var S 1 (by decide) rfl) dv_nil))) rfl)) (dss_one ds_never) dss_nil)))
abbrev s_check_of : Stmt := top 11
def e_check_of_1 : M D := (bin mulD (binN addD 2 (ret (.int 1))) (pk 3))
def m_check_of : M DS.Flow :=
  (rtM (bin modD (c1 sumD (frzM (lcM [2, 3] (enM (rd 0)) (unT 2 (stC (st 2) (stC (st 3) stN))) (ret true) e_check_of_1))) (pk 1)))
def F_check_of : List Sl → Res D := runF 2 4 [] m_check_of
def n_check_of : Nm := ⟨["numbers", "base", "at", "one"], [0, 1], [], [], ["enumerate", "sum"], ["enumerate", "sum"], [], [], [], 0, fun T => True⟩
theorem sc_check_of : FnScope n_check_of.N ["numbers", "base"] (defScope s_check_of) := ⟨rfl, rfl, rfl, by decide +kernel, rfl, by decide +kernel, by decide +kernel⟩
theorem ck_check_of : scB n_check_of (defScope s_check_of) = true := by decide +kernel
theorem d_check_of (C : DC) (S : Sc C n_check_of) (L : LkSc C (defScope s_check_of)) : DSs C (defBody s_check_of) m_check_of :=
  (dss_one (ds_ret (de_bin o_mod (de_sum S 1 rfl (DE.k (DF.e (df_lc S L (own := [("at", 2), ("one", 3)]) (vs := [2, 3]) (gs := []) (bs := []) (by decide +kernel) (di_enum S 0 rfl (de_var S 0 (by decide) rfl)) (fun CS' S' L' => (dg_tup2 S' (dg_name S' 2 (by decide) rfl) (dg_name S' 3 (by decide) rfl))) (fun CS' S' L' => dts_nil) (fun CS' S' L' => (de_bin o_mul (de_binN S' o_add 2 (by decide) rfl (DE.k de_int)) (dk_var S' 3 (by decide) rfl))) (by decide))))) (dk_var S 1 (by decide) rfl))))
abbrev s_is_closed_of : Stmt := top 12
def m_is_closed_of : M DS.Flow :=
  (rtM (andV (binN neD 0 (frzM (lstM (ret [])))) (bin eqD (binN ixD 0 (c1 negD (ret (.int 1)))) (bnd (vim (slN 0 (ret none) (asI (c1 negD (ret (.int 1))))) (vim (rd 1) (ret []))) (callM F_check_of)))))
def F_is_closed_of : List Sl → Res D := runF 2 2 [] m_is_closed_of
def n_is_closed_of : Nm := ⟨["numbers", "base"], [0, 1], [], ["check_of"], [], [], [], [], [], 1, fun T => Has T "check_of" 1 F_check_of⟩
theorem sc_is_closed_of : FnScope n_is_closed_of.N ["numbers", "base"] (defScope s_is_closed_of) := ⟨rfl, rfl, rfl, by decide +kernel, rfl, by decide +kernel, by decide +kernel⟩
theorem ck_is_closed_of : scB n_is_closed_of (defScope s_is_closed_of) = true := by decide +kernel
theorem d_is_closed_of (C : DC) (S : Sc C n_is_closed_of) (L : LkSc C (defScope s_is_closed_of)) : DSs C (defBody s_is_closed_of) m_is_closed_of :=
  (dss_one (ds_ret (de_and (de_cmpN S (o_ne S) 0 (by decide) rfl (DE.k (DF.e (df_lst da_nil)))) (de_one (de_cmp (o_eq S) (de_ixN S 0 (by decide) rfl (DE.k (de_neg de_int))) (DE.k (de_call S 0 rfl S.fs (by decide) runF_ne (dv_im (de_slN S 0 (by decide) rfl do_none (do_some (de_neg de_int))) (dv_im (de_var S 1 (by decide) rfl) dv_nil)))))))))
abbrev s_check : Stmt := top 13
def m_check : M DS.Flow :=
  (sq (exM (bnd (vim (rd 0) (vim (rd 1) (ret []))) (callM F_look_numbers)))
  (rtM (bnd (vim (rd 0) (vim (rd 1) (ret []))) (callM F_check_of))))
def F_check : List Sl → Res D := runF 2 2 [] m_check
def n_check : Nm := ⟨["numbers", "base"], [0, 1], [], ["look_numbers", "check_of"], [], [], [], [], [], 3, fun T => Has T "look_numbers" 3 F_look_numbers ∧ Has T "check_of" 1 F_check_of⟩
theorem sc_check : FnScope n_check.N ["numbers", "base"] (defScope s_check) := ⟨rfl, rfl, rfl, by decide +kernel, rfl, by decide +kernel, by decide +kernel⟩
theorem ck_check : scB n_check (defScope s_check) = true := by decide +kernel
theorem d_check (C : DC) (S : Sc C n_check) (L : LkSc C (defScope s_check)) : DSs C (defBody s_check) m_check :=
  (dss_cons (ds_expr (de_call S 0 rfl S.fs.1 (by decide) runF_ne (dv_im (de_var S 0 (by decide) rfl) (dv_im (de_var S 1 (by decide) rfl) dv_nil))) rfl)
  (dss_one (ds_ret (de_call S 1 rfl S.fs.2 (by decide) runF_ne (dv_im (de_var S 0 (by decide) rfl) (dv_im (de_var S 1 (by decide) rfl) dv_nil))))))
abbrev s_is_closed : Stmt := top 14
def m_is_closed : M DS.Flow :=
  (sq (exM (bnd (vim (rd 0) (vim (rd 1) (ret []))) (callM F_look_numbers)))
  (rtM (bnd (vim (rd 0) (vim (rd 1) (ret []))) (callM F_is_closed_of))))
def F_is_closed : List Sl → Res D := runF 2 2 [] m_is_closed
def n_is_closed : Nm := ⟨["numbers", "base"], [0, 1], [], ["look_numbers", "is_closed_of"], [], [], [], [], [], 3, fun T => Has T "look_numbers" 3 F_look_numbers ∧ Has T "is_closed_of" 2 F_is_closed_of⟩
theorem sc_is_closed : FnScope n_is_closed.N ["numbers", "base"] (defScope s_is_closed) := ⟨rfl, rfl, rfl, by decide +kernel, rfl, by decide +kernel, by decide +kernel⟩
theorem ck_is_closed : scB n_is_closed (defScope s_is_closed) = true := by decide +kernel
theorem d_is_closed (C : DC) (S : Sc C n_is_closed) (L : LkSc C (defScope s_is_closed)) : DSs C (defBody s_is_closed) m_is_closed :=
  (dss_cons (ds_expr (de_call S 0 rfl S.fs.1 (by decide) runF_ne (dv_im (de_var S 0 (by decide) rfl) (dv_im (de_var S 1 (by decide) rfl) dv_nil))) rfl)
  (dss_one (ds_ret (de_call S 1 rfl S.fs.2 (by decide) runF_ne (dv_im (de_var S 0 (by decide) rfl) (dv_im (de_var S 1 (by decide) rfl) dv_nil))))))
abbrev s_mended : Stmt := top 15
def b_mended_1 : M DS.Flow := (ifM (andB (asB (binN neD 7 (pk 5))) (asB (bin eqD (bin modD (binN addD 3 (binN mulD 6 (binN subD 7 (pk 5)))) (pk 1)) (ret (.int 0))))) (apM 2 (bin addD (bin addD (slN 0 (ret none) (asI (rd 4))) (frzM (lstM (consM (rd 7) (ret []))))) (slN 0 (asI (binN addD 4 (ret (.int 1)))) (ret none)))) (ret .nx))
def b_mended_2 : M DS.Flow := (sq (asM (ifV (asB (bin ltD (binN addD 4 (ret (.int 1))) (c1 lenD (pk 0)))) (binN addD 4 (ret (.int 1))) (c1 negD (ret (.int 1)))) (st 6))
  (forS (rg1 (rd 1)) (st 7) b_mended_1))
def m_mended : M DS.Flow :=
  (sq (exM (bnd (vim (rd 0) (vim (rd 1) (ret []))) (callM F_look_numbers)))
  (sq (soM (lstM (ret [])) 2)
  (sq (ifM (asB (binN neD 0 (frzM (lstM (ret []))))) (sq (asM (bin modD (bin subD (bnd (vim (slN 0 (ret none) (asI (c1 negD (ret (.int 1))))) (vim (rd 1) (ret []))) (callM F_check_of)) (binN ixD 0 (c1 negD (ret (.int 1))))) (pk 1)) (st 3))
  (forS (enM (rd 0)) (unT 2 (stC (st 4) (stC (st 5) stN))) b_mended_2)) (ret .nx))
  (rtM (frzM (soD (pk 2)))))))
def F_mended : List Sl → Res D := runF 2 8 [] m_mended
def n_mended : Nm := ⟨["numbers", "base", "found", "far", "at", "one", "times", "other"], [0, 1, 2, 3, 4, 5, 6, 7], [2, 3, 4, 5, 6, 7], ["look_numbers", "check_of"], ["enumerate", "len", "range", "sorted"], ["enumerate", "len", "range", "sorted"], [], [], [], 3, fun T => Has T "look_numbers" 3 F_look_numbers ∧ Has T "check_of" 1 F_check_of⟩
theorem sc_mended : FnScope n_mended.N ["numbers", "base"] (defScope s_mended) := ⟨rfl, rfl, rfl, by decide +kernel, rfl, by decide +kernel, by decide +kernel⟩
theorem ck_mended : scB n_mended (defScope s_mended) = true := by decide +kernel
theorem d_mended (C : DC) (S : Sc C n_mended) (L : LkSc C (defScope s_mended)) : DSs C (defBody s_mended) m_mended :=
  (dss_cons (ds_expr (de_call S 0 rfl S.fs.1 (by decide) runF_ne (dv_im (de_var S 0 (by decide) rfl) (dv_im (de_var S 1 (by decide) rfl) dv_nil))) rfl)
  (dss_cons (ds_setF S 2 (by decide) rfl (df_lst da_nil) rfl)
  (dss_cons (ds_if (dt_cmpN S (o_ne S) 0 (by decide) rfl (DE.k (DF.e (df_lst da_nil)))) (dss_cons (ds_set S 3 (by decide) rfl (de_bin o_mod (de_bin o_sub (de_call S 1 rfl S.fs.2 (by decide) runF_ne (dv_im (de_slN S 0 (by decide) rfl do_none (do_some (de_neg de_int))) (dv_im (de_var S 1 (by decide) rfl) dv_nil))) (DE.k (de_ixN S 0 (by decide) rfl (DE.k (de_neg de_int))))) (dk_var S 1 (by decide) rfl)) rfl)
  (dss_one (ds_for S (di_enum S 0 rfl (de_var S 0 (by decide) rfl)) (dg_tup2 S (dg_name S 4 (by decide) rfl) (dg_name S 5 (by decide) rfl)) (dss_cons (ds_set S 6 (by decide) rfl (de_if (dt_cmp o_lt (de_binN S o_add 4 (by decide) rfl (DE.k de_int)) (DE.k (de_len S 1 rfl (dk_var S 0 (by decide) rfl)))) (de_binN S o_add 4 (by decide) rfl (DE.k de_int)) (de_neg de_int)) rfl)
  (dss_one (ds_for S (di_rg1 S 2 rfl (de_var S 1 (by decide) rfl)) (dg_name S 7 (by decide) rfl) (dss_one (ds_if (DW.t (dw_and (dt_cmpN S (o_ne S) 7 (by decide) rfl (dk_var S 5 (by decide) rfl)) (dw_and1 (dt_cmp (o_eq S) (de_bin o_mod (de_binN S o_add 3 (by decide) rfl (DE.k (de_binN S o_mul 6 (by decide) rfl (DE.k (de_binN S o_sub 7 (by decide) rfl (dk_var S 5 (by decide) rfl)))))) (dk_var S 1 (by decide) rfl)) (DE.k de_int))))) (dss_one (ds_app S 2 (by decide) rfl (de_bin o_add (de_bin o_add (de_slN S 0 (by decide) rfl do_none (do_some (de_var S 4 (by decide) rfl))) (DE.k (DF.e (df_lst (da_cons (de_var S 7 (by decide) rfl) da_nil))))) (DE.k (de_slN S 0 (by decide) rfl (do_some (de_binN S o_add 4 (by decide) rfl (DE.k de_int))) do_none))) rfl)) dss_nil)))))))) dss_nil)
  (dss_one (ds_ret (DF.e (df_sorted S 3 rfl (dk_var S 2 (by decide) rfl))))))))
abbrev s_divisor : Stmt := top 16
def t_divisor_1 : M Bool := (asB (binN gtD 1 (ret (.int 0))))
def b_divisor_2 : M DS.Flow := (paM 0 1 (consM (rd 1) (consM (binN modD 0 (pk 1)) (ret []))))
def m_divisor : M DS.Flow :=
  (sq (whM t_divisor_1 b_divisor_2 100000)
  (rtM (rd 0)))
def F_divisor : List Sl → Res D := runF 2 2 [] m_divisor
def n_divisor : Nm := ⟨["one", "other"], [0, 1], [0, 1], [], [], [], [], [0, 1], [], 0, fun T => True⟩
theorem sc_divisor : FnScope n_divisor.N ["one", "other"] (defScope s_divisor) := ⟨rfl, rfl, rfl, by decide +kernel, rfl, by decide +kernel, by decide +kernel⟩
theorem ck_divisor : scB n_divisor (defScope s_divisor) = true := by decide +kernel
theorem d_divisor (C : DC) (S : Sc C n_divisor) (L : LkSc C (defScope s_divisor)) : DSs C (defBody s_divisor) m_divisor :=
  (dss_cons (ds_while S (dt_cmpN S o_gt 1 (by decide) rfl (DE.k de_int)) (dss_one (ds_par S (by decide) (by decide) (by decide) (by decide) rfl rfl (by decide) rfl (by decide +kernel) (da_cons (de_var S 1 (by decide) rfl) (da_cons (de_binN S o_mod 0 (by decide) rfl (dk_var S 1 (by decide) rfl)) da_nil)) rfl rfl rfl rfl)) 100000)
  (dss_one (ds_ret (de_var S 0 (by decide) rfl))))
abbrev s_unseen : Stmt := top 17
def t_unseen_1 : M Bool := (asB (bin gtD (bnd (vim (rd 0) (vim (binN addD 2 (ret (.int 1))) (ret []))) (callM F_divisor)) (ret (.int 1))))
def e_unseen_2 : M D := (rd 2)
def m_unseen : M DS.Flow :=
  (sq (exM (bnd (vim (frzM (lstM (ret []))) (vim (rd 0) (ret []))) (callM F_look_numbers)))
  (sq (ifM (notB (asB (bnd (vim (rd 1) (vim (ret (.int 0)) (vim (ret (.int 300)) (ret [])))) (callM F_is_number)))) stop (ret .nx))
  (rtM (frzM (lcM [2] (rg1 (rd 1)) (st 2) t_unseen_1 e_unseen_2)))))
def F_unseen : List Sl → Res D := runF 2 3 [] m_unseen
def n_unseen : Nm := ⟨["base", "many", "at"], [0, 1], [], ["look_numbers", "MOST_ROW", "is_number"], ["range"], ["range"], [], [], [], 3, fun T => Has T "look_numbers" 3 F_look_numbers ∧ Cn T "MOST_ROW" (.int 300) ∧ Has T "is_number" 1 F_is_number ∧ Has T "divisor" 1 F_divisor⟩
theorem sc_unseen : FnScope n_unseen.N ["base", "many"] (defScope s_unseen) := ⟨rfl, rfl, rfl, by decide +kernel, rfl, by decide +kernel, by decide +kernel⟩
theorem ck_unseen : scB n_unseen (defScope s_unseen) = true := by decide +kernel
theorem d_unseen (C : DC) (S : Sc C n_unseen) (L : LkSc C (defScope s_unseen)) : DSs C (defBody s_unseen) m_unseen :=
  (dss_cons (ds_expr (de_call S 0 rfl S.fs.1 (by decide) runF_ne (dv_im (DF.e (df_lst da_nil)) (dv_im (de_var S 0 (by decide) rfl) dv_nil))) rfl)
  (dss_cons (ds_if (dt_not (dt_val (de_call S 2 rfl S.fs.2.2.1 (by decide) runF_ne (dv_im (de_var S 1 (by decide) rfl) (dv_im de_int (dv_im (de_glob S 1 rfl S.fs.2.1) dv_nil)))) rfl)) (dss_one ds_never) dss_nil)
  (dss_one (ds_ret (DF.e (df_lc S L (own := [("at", 2)]) (vs := [0, 2]) (gs := ["divisor"]) (bs := []) (by decide +kernel) (di_rg1 S 0 rfl (de_var S 1 (by decide) rfl)) (fun CS' S' L' => (dg_name S' 2 (by decide) rfl)) (fun CS' S' L' => (dts_one (dt_cmp o_gt (de_call S' 0 rfl S'.fs.2.2.2 (by decide) runF_ne (dv_im (de_var S' 0 (by decide) rfl) (dv_im (de_binN S' o_add 2 (by decide) rfl (DE.k de_int)) dv_nil))) (DE.k de_int)))) (fun CS' S' L' => (de_var S' 2 (by decide) rfl)) (by decide)))))))
abbrev s_law_town : Stmt := top 19
def m_law_town : M DS.Flow :=
  (roM (catM (frzM (lstM (consM (ret (.int 0)) (ret [])))) (frzM (liM (pk 0)))))
def F_law_town : List Sl → Res (List D) := runO 1 1 [] m_law_town
def n_law_town : Nm := ⟨["script"], [0], [], [], ["list"], ["list"], [], [], [], 0, fun T => True⟩
theorem sc_law_town : FnScope n_law_town.N ["script"] (defScope s_law_town) := ⟨rfl, rfl, rfl, by decide +kernel, rfl, by decide +kernel, by decide +kernel⟩
theorem ck_law_town : scB n_law_town (defScope s_law_town) = true := by decide +kernel
theorem d_law_town (C : DC) (S : Sc C n_law_town) (L : LkSc C (defScope s_law_town)) : DSs C (defBody s_law_town) m_law_town :=
  (dss_one (ds_retF (noMp S rfl) (df_cat (DF.e (df_lst (da_cons de_int da_nil))) (DE.k (DF.e (df_list S 0 rfl (dk_var S 0 (by decide) rfl)))))))
abbrev s_law_draw : Stmt := top 20
def m_law_draw : M DS.Flow :=
  (sq (siM 1 (bin addD (binN ixD 1 (ret (.int 0))) (ret (.int 1))) (ret (.int 0)))
  (sq (ifM (asB (binN eqD 0 (frzM (lstM (ret []))))) (rtM (bin modD (bin divD (bin mulD (bin mulD (binN ixD 1 (ret (.int 0))) (binN ixD 1 (ret (.int 0)))) (ret (.int 7))) (ret (.int 3))) (pk 2))) (ret .nx))
  (sq (asM (bin modD (binN ixD 1 (ret (.int 0))) (c1 lenD (pk 0))) (st 3))
  (sq (asM (binN ixD 1 (bin addD (ret (.int 1)) (pk 3))) (st 4))
  (sq (ifM (andB (asB (bin geD (binN ixD 0 (pk 3)) (bin powD (ret (.int 10)) (ret (.int 18))))) (asB (binN gtD 4 (ret (.int 0))))) (sq (siM 1 (binN divD 4 (pk 2)) (bin addD (ret (.int 1)) (pk 3)))
  (rtM (binN modD 4 (pk 2)))) (ret .nx))
  (sq (asM (bin modD (bin addD (binN ixD 0 (pk 3)) (bin mulD (ret (.int 104729)) (binN ixD 1 (ret (.int 0))))) (ret (.int 4294967291))) (st 5))
  (sq (asM (bin modD (binN powD 5 (ret (.int 5))) (ret (.int 4294967279))) (st 5))
  (rtM (bin modD (bin divD (bin modD (bin addD (bin mulD (binN divD 5 (ret (.int 64))) (ret (.int 69621))) (pk 5)) (ret (.int 4294967231))) (ret (.int 8))) (pk 2))))))))))
def F_law_draw : List Sl → Res D := runF 3 6 [1] m_law_draw
def n_law_draw : Nm := ⟨["script", "town", "many", "at", "left", "number"], [0, 1, 2, 3, 4, 5], [3, 4, 5], [], ["len"], ["len"], [1], [], [], 0, fun T => True⟩
theorem sc_law_draw : FnScope n_law_draw.N ["script", "town", "many"] (defScope s_law_draw) := ⟨rfl, rfl, rfl, by decide +kernel, rfl, by decide +kernel, by decide +kernel⟩
theorem ck_law_draw : scB n_law_draw (defScope s_law_draw) = true := by decide +kernel
theorem d_law_draw (C : DC) (S : Sc C n_law_draw) (L : LkSc C (defScope s_law_draw)) : DSs C (defBody s_law_draw) m_law_draw :=
  (dss_cons (ds_si S 1 (by decide) rfl (de_bin o_add (de_ixN S 1 (by decide) rfl (DE.k de_int)) (DE.k de_int)) de_int rfl)
  (dss_cons (ds_if (dt_cmpN S (o_eq S) 0 (by decide) rfl (DE.k (DF.e (df_lst da_nil)))) (dss_one (ds_ret (de_bin o_mod (de_bin o_div (de_bin o_mul (de_bin o_mul (de_ixN S 1 (by decide) rfl (DE.k de_int)) (DE.k (de_ixN S 1 (by decide) rfl (DE.k de_int)))) (DE.k de_int)) (DE.k de_int)) (dk_var S 2 (by decide) rfl)))) dss_nil)
  (dss_cons (ds_set S 3 (by decide) rfl (de_bin o_mod (de_ixN S 1 (by decide) rfl (DE.k de_int)) (DE.k (de_len S 0 rfl (dk_var S 0 (by decide) rfl)))) rfl)
  (dss_cons (ds_set S 4 (by decide) rfl (de_ixN S 1 (by decide) rfl (DE.k (de_bin o_add de_int (dk_var S 3 (by decide) rfl)))) rfl)
  (dss_cons (ds_if (DW.t (dw_and (dt_cmp o_ge (de_ixN S 0 (by decide) rfl (dk_var S 3 (by decide) rfl)) (DE.k (de_bin o_pow de_int (DE.k de_int)))) (dw_and1 (dt_cmpN S o_gt 4 (by decide) rfl (DE.k de_int))))) (dss_cons (ds_si S 1 (by decide) rfl (de_binN S o_div 4 (by decide) rfl (dk_var S 2 (by decide) rfl)) (de_bin o_add de_int (dk_var S 3 (by decide) rfl)) rfl)
  (dss_one (ds_ret (de_binN S o_mod 4 (by decide) rfl (dk_var S 2 (by decide) rfl))))) dss_nil)
  (dss_cons (ds_set S 5 (by decide) rfl (de_bin o_mod (de_bin o_add (de_ixN S 0 (by decide) rfl (dk_var S 3 (by decide) rfl)) (DE.k (de_bin o_mul de_int (DE.k (de_ixN S 1 (by decide) rfl (DE.k de_int)))))) (DE.k de_int)) rfl)
  (dss_cons (ds_set S 5 (by decide) rfl (de_bin o_mod (de_binN S o_pow 5 (by decide) rfl (DE.k de_int)) (DE.k de_int)) rfl)
  (dss_one (ds_ret (de_bin o_mod (de_bin o_div (de_bin o_mod (de_bin o_add (de_bin o_mul (de_binN S o_div 5 (by decide) rfl (DE.k de_int)) (DE.k de_int)) (dk_var S 5 (by decide) rfl)) (DE.k de_int)) (DE.k de_int)) (dk_var S 2 (by decide) rfl)))))))))))
abbrev s_law_pick : Stmt := top 21
def m_law_pick : M DS.Flow :=
  (rtM (binN ixD 2 (bnd (vim (rd 0) (vsl 1 (vim (c1 lenD (pk 2)) (ret [])))) (callM F_law_draw))))
def F_law_pick : List Sl → Res D := runF 3 3 [1] m_law_pick
def n_law_pick : Nm := ⟨["script", "town", "some"], [0, 1, 2], [], ["_law_draw"], ["len"], ["len"], [1], [], [], 1, fun T => Has T "_law_draw" 1 F_law_draw⟩
theorem sc_law_pick : FnScope n_law_pick.N ["script", "town", "some"] (defScope s_law_pick) := ⟨rfl, rfl, rfl, by decide +kernel, rfl, by decide +kernel, by decide +kernel⟩
theorem ck_law_pick : scB n_law_pick (defScope s_law_pick) = true := by decide +kernel
theorem d_law_pick (C : DC) (S : Sc C n_law_pick) (L : LkSc C (defScope s_law_pick)) : DSs C (defBody s_law_pick) m_law_pick :=
  (dss_one (ds_ret (de_ixN S 2 (by decide) rfl (DE.k (de_call S 0 rfl S.fs (by decide) runF_ne (dv_im (de_var S 0 (by decide) rfl) (dv_sl S 1 (by decide) rfl (dv_im (de_len S 0 rfl (dk_var S 2 (by decide) rfl)) dv_nil))))))))
abbrev s_law_whole : Stmt := top 22
def m_law_whole : M DS.Flow :=
  (rtM (andV (c1 (isiD .int) (pk 0)) (notV (c1 (isiD .bool) (pk 0)))))
def F_law_whole : List Sl → Res D := runF 1 1 [] m_law_whole
def n_law_whole : Nm := ⟨["thing"], [0], [], [], ["isinstance", "int", "bool"], ["isinstance", "int", "bool"], [], [], [], 0, fun T => True⟩
theorem sc_law_whole : FnScope n_law_whole.N ["thing"] (defScope s_law_whole) := ⟨rfl, rfl, rfl, by decide +kernel, rfl, by decide +kernel, by decide +kernel⟩
theorem ck_law_whole : scB n_law_whole (defScope s_law_whole) = true := by decide +kernel
theorem d_law_whole (C : DC) (S : Sc C n_law_whole) (L : LkSc C (defScope s_law_whole)) : DSs C (defBody s_law_whole) m_law_whole :=
  (dss_one (ds_ret (de_and (de_isi .int S 0 1 rfl rfl rfl (dk_var S 0 (by decide) rfl)) (de_one (de_not (de_isi .bool S 0 2 rfl rfl rfl (dk_var S 0 (by decide) rfl)))))))
abbrev s_law_wholes : Stmt := top 23
def t_law_wholes_1 : M Bool := (notB (asB (bnd (vim (rd 1) (ret [])) (callM F_law_whole))))
def e_law_wholes_2 : M D := (rd 1)
def m_law_wholes : M DS.Flow :=
  (rtM (andV (c1 (isiD .list) (pk 0)) (bin eqD (frzM (lcM [1] (itM (rd 0)) (st 1) t_law_wholes_1 e_law_wholes_2)) (frzM (lstM (ret []))))))
def F_law_wholes : List Sl → Res D := runF 1 2 [] m_law_wholes
def n_law_wholes : Nm := ⟨["thing", "one"], [0], [], [], ["isinstance", "list"], ["isinstance", "list"], [], [], [], 1, fun T => Has T "_law_whole" 1 F_law_whole⟩
theorem sc_law_wholes : FnScope n_law_wholes.N ["thing"] (defScope s_law_wholes) := ⟨rfl, rfl, rfl, by decide +kernel, rfl, by decide +kernel, by decide +kernel⟩
theorem ck_law_wholes : scB n_law_wholes (defScope s_law_wholes) = true := by decide +kernel
theorem d_law_wholes (C : DC) (S : Sc C n_law_wholes) (L : LkSc C (defScope s_law_wholes)) : DSs C (defBody s_law_wholes) m_law_wholes :=
  (dss_one (ds_ret (de_and (de_isi .list S 0 1 rfl rfl rfl (dk_var S 0 (by decide) rfl)) (de_one (de_cmp (o_eq S) (DF.e (df_lc S L (own := [("one", 1)]) (vs := [1]) (gs := ["_law_whole"]) (bs := []) (by decide +kernel) (di_seq (de_var S 0 (by decide) rfl)) (fun CS' S' L' => (dg_name S' 1 (by decide) rfl)) (fun CS' S' L' => (dts_one (dt_not (dt_val (de_call S' 0 rfl S'.fs (by decide) runF_ne (dv_im (de_var S' 1 (by decide) rfl) dv_nil)) rfl)))) (fun CS' S' L' => (de_var S' 1 (by decide) rfl)) (by decide))) (DE.k (DF.e (df_lst da_nil))))))))
abbrev s_law_symbols : Stmt := top 24
def e_law_symbols_1 : M D := (bnd (vim (rd 0) (vsl 1 (vim (rd 2) (ret [])))) (callM F_law_draw))
def m_law_symbols : M DS.Flow :=
  (rtM (frzM (lcM [4] (rg1 (bnd (vim (rd 0) (vsl 1 (vim (binN addD 3 (ret (.int 1))) (ret [])))) (callM F_law_draw))) (st 4) (ret true) e_law_symbols_1)))
def F_law_symbols : List Sl → Res D := runF 4 5 [1] m_law_symbols
def n_law_symbols : Nm := ⟨["script", "town", "many", "long", "k"], [0, 1, 2, 3], [], ["_law_draw"], ["range"], ["range"], [1], [], [], 1, fun T => Has T "_law_draw" 1 F_law_draw⟩
theorem sc_law_symbols : FnScope n_law_symbols.N ["script", "town", "many", "long"] (defScope s_law_symbols) := ⟨rfl, rfl, rfl, by decide +kernel, rfl, by decide +kernel, by decide +kernel⟩
theorem ck_law_symbols : scB n_law_symbols (defScope s_law_symbols) = true := by decide +kernel
theorem d_law_symbols (C : DC) (S : Sc C n_law_symbols) (L : LkSc C (defScope s_law_symbols)) : DSs C (defBody s_law_symbols) m_law_symbols :=
  (dss_one (ds_ret (DF.e (df_lc S L (own := [("k", 4)]) (vs := [0, 1, 2]) (gs := ["_law_draw"]) (bs := []) (by decide +kernel) (di_rg1 S 0 rfl (de_call S 0 rfl S.fs (by decide) runF_ne (dv_im (de_var S 0 (by decide) rfl) (dv_sl S 1 (by decide) rfl (dv_im (de_binN S o_add 3 (by decide) rfl (DE.k de_int)) dv_nil))))) (fun CS' S' L' => (dg_name S' 4 (by decide) rfl)) (fun CS' S' L' => dts_nil) (fun CS' S' L' => (de_call S' 0 rfl S'.fs (by decide) runF_ne (dv_im (de_var S' 0 (by decide) rfl) (dv_sl S' 1 (by decide) rfl (dv_im (de_var S' 2 (by decide) rfl) dv_nil))))) (by decide)))))
abbrev s_law_closed : Stmt := top 25
def b_law_closed_1 : M DS.Flow := (asM (binN addD 2 (bin mulD (binN addD 3 (ret (.int 1))) (pk 4))) (st 2))
def m_law_closed : M DS.Flow :=
  (sq (asM (ret (.int 0)) (st 2))
  (sq (forS (enM (slN 0 (ret none) (asI (c1 negD (ret (.int 1)))))) (unT 2 (stC (st 3) (stC (st 4) stN))) b_law_closed_1)
  (rtM (andV (binN neD 0 (frzM (lstM (ret [])))) (bin eqD (binN modD 2 (pk 1)) (binN ixD 0 (c1 negD (ret (.int 1)))))))))
def F_law_closed : List Sl → Res D := runF 2 5 [] m_law_closed
def n_law_closed : Nm := ⟨["numbers", "base", "due", "at", "one"], [0, 1, 2, 3, 4], [2, 3, 4], [], ["enumerate"], ["enumerate"], [], [], [], 0, fun T => True⟩
theorem sc_law_closed : FnScope n_law_closed.N ["numbers", "base"] (defScope s_law_closed) := ⟨rfl, rfl, rfl, by decide +kernel, rfl, by decide +kernel, by decide +kernel⟩
theorem ck_law_closed : scB n_law_closed (defScope s_law_closed) = true := by decide +kernel
theorem d_law_closed (C : DC) (S : Sc C n_law_closed) (L : LkSc C (defScope s_law_closed)) : DSs C (defBody s_law_closed) m_law_closed :=
  (dss_cons (ds_set S 2 (by decide) rfl de_int rfl)
  (dss_cons (ds_for S (di_enum S 0 rfl (de_slN S 0 (by decide) rfl do_none (do_some (de_neg de_int)))) (dg_tup2 S (dg_name S 3 (by decide) rfl) (dg_name S 4 (by decide) rfl)) (dss_one (ds_set S 2 (by decide) rfl (de_binN S o_add 2 (by decide) rfl (DE.k (de_bin o_mul (de_binN S o_add 3 (by decide) rfl (DE.k de_int)) (dk_var S 4 (by decide) rfl)))) rfl)))
  (dss_one (ds_ret (de_and (de_cmpN S (o_ne S) 0 (by decide) rfl (DE.k (DF.e (df_lst da_nil)))) (de_one (de_cmp (o_eq S) (de_binN S o_mod 2 (by decide) rfl (dk_var S 1 (by decide) rfl)) (DE.k (de_ixN S 0 (by decide) rfl (DE.k (de_neg de_int)))))))))))
abbrev s_law_others : Stmt := top 26
def b_law_others_1 : M DS.Flow := (sq (asM (bin addD (bin addD (slN 0 (ret none) (asI (rd 3))) (frzM (lstM (consM (rd 4) (ret []))))) (slN 0 (asI (binN addD 3 (ret (.int 1)))) (ret none))) (st 5))
  (ifM (andB (asB (binN neD 4 (binN ixD 0 (pk 3)))) (asB (bnd (vim (rd 5) (vim (rd 1) (ret []))) (callM F_law_closed)))) (apM 2 (rd 5)) (ret .nx)))
def b_law_others_2 : M DS.Flow := (forS (rg1 (rd 1)) (st 4) b_law_others_1)
def m_law_others : M DS.Flow :=
  (sq (soM (lstM (ret [])) 2)
  (sq (forS (rg1 (c1 lenD (pk 0))) (st 3) b_law_others_2)
  (rtM (frzM (soD (pk 2))))))
def F_law_others : List Sl → Res D := runF 2 6 [] m_law_others
def n_law_others : Nm := ⟨["numbers", "base", "found", "at", "other", "some"], [0, 1, 2, 3, 4, 5], [2, 3, 4, 5], ["_law_closed"], ["len", "range", "sorted"], ["len", "range", "sorted"], [], [], [], 1, fun T => Has T "_law_closed" 1 F_law_closed⟩
theorem sc_law_others : FnScope n_law_others.N ["numbers", "base"] (defScope s_law_others) := ⟨rfl, rfl, rfl, by decide +kernel, rfl, by decide +kernel, by decide +kernel⟩
theorem ck_law_others : scB n_law_others (defScope s_law_others) = true := by decide +kernel
theorem d_law_others (C : DC) (S : Sc C n_law_others) (L : LkSc C (defScope s_law_others)) : DSs C (defBody s_law_others) m_law_others :=
  (dss_cons (ds_setF S 2 (by decide) rfl (df_lst da_nil) rfl)
  (dss_cons (ds_for S (di_rg1 S 1 rfl (de_len S 0 rfl (dk_var S 0 (by decide) rfl))) (dg_name S 3 (by decide) rfl) (dss_one (ds_for S (di_rg1 S 1 rfl (de_var S 1 (by decide) rfl)) (dg_name S 4 (by decide) rfl) (dss_cons (ds_set S 5 (by decide) rfl (de_bin o_add (de_bin o_add (de_slN S 0 (by decide) rfl do_none (do_some (de_var S 3 (by decide) rfl))) (DE.k (DF.e (df_lst (da_cons (de_var S 4 (by decide) rfl) da_nil))))) (DE.k (de_slN S 0 (by decide) rfl (do_some (de_binN S o_add 3 (by decide) rfl (DE.k de_int))) do_none))) rfl)
  (dss_one (ds_if (DW.t (dw_and (dt_cmpN S (o_ne S) 4 (by decide) rfl (DE.k (de_ixN S 0 (by decide) rfl (dk_var S 3 (by decide) rfl)))) (dw_and1 (dt_val (de_call S 0 rfl S.fs (by decide) runF_ne (dv_im (de_var S 5 (by decide) rfl) (dv_im (de_var S 1 (by decide) rfl) dv_nil))) rfl)))) (dss_one (ds_app S 2 (by decide) rfl (de_var S 5 (by decide) rfl) rfl)) dss_nil))))))
  (dss_one (ds_ret (DF.e (df_sorted S 2 rfl (dk_var S 2 (by decide) rfl)))))))
abbrev s_law : Stmt := top 27
def b_law_1 : M DS.Flow := (ifM (orB (notB (asB (bnd (vim (rd 6) (ret [])) (callM F_law_wholes)))) (notB (asB (bnd (vim (rd 6) (vim (rd 2) (ret []))) (callM F_is_closed))))) (rtM (ret (.bool false))) (ret .nx))
def t_law_2 : M Bool := (asB (bin neD (binN ixD 6 (pk 10)) (binN ixD 3 (pk 10))))
def e_law_3 : M D := (rd 6)
def t_law_4 : M Bool := (asB (bin neD (frzM (lcM [6] (itM (rd 5)) (st 6) t_law_2 e_law_3)) (frzM (lstM (ret [])))))
def e_law_5 : M D := (rd 10)
def t_law_6 : M Bool := (asB (bin neD (binN ixD 6 (c1 negD (ret (.int 1)))) (binN ixD 3 (c1 negD (ret (.int 1))))))
def t_law_7 : M Bool := (asB (binN ltD 10 (bin subD (c1 lenD (pk 3)) (ret (.int 1)))))
def r_law_8 : M DS.Flow := (sq (asM (bnd (vim (rd 2) (vim (bin max2D (ret (.int 0)) (bin subD (c1 lenD (pk 3)) (ret (.int 1)))) (ret []))) (callM F_unseen)) (st 7))
  (sq (ifM (notB (asB (bnd (vim (rd 7) (ret [])) (callM F_law_wholes)))) (rtM (ret (.bool false))) (ret .nx))
  (sq (ifM (asB (bnd (vim (rd 3) (vim (rd 2) (ret []))) (callM F_law_closed))) (sq (sfM (lcM [10] (rg1 (bin subD (c1 lenD (pk 3)) (ret (.int 1)))) (st 10) t_law_4 e_law_5) 8)
  (ifM (orB (asB (binN neD 8 (pk 7))) (asB (bin neD (frzM (lcM [6] (itM (rd 5)) (st 6) t_law_6 e_law_3)) (frzM (lstM (ret [])))))) (rtM (ret (.bool false))) (ret .nx))) (ret .nx))
  (sq (asM (bnd (vim (rd 0) (vsl 1 (vim (frzM (lstM (consM (ret (.int 2)) (consM (ret (.int 3)) (consM (ret (.int 5)) (consM (ret (.int 7)) (consM (ret (.int 11)) (consM (ret (.int 13)) (consM (ret (.int 17)) (consM (ret (.int 19)) (consM (ret (.int 23)) (consM (ret (.int 29)) (consM (ret (.int 31)) (consM (ret (.int 37)) (consM (ret (.int 101)) (consM (ret (.int 199)) (ret []))))))))))))))))) (ret [])))) (callM F_law_pick)) (st 9))
  (sq (ifM (orB (asB (bin neD (bnd (vim (rd 9) (vim (binN subD 9 (ret (.int 1))) (ret []))) (callM F_unseen)) (frzM (lstM (ret []))))) (asB (bin neD (bnd (vim (rd 9) (vim (rd 9) (ret []))) (callM F_unseen)) (frzM (lstM (consM (binN subD 9 (ret (.int 1))) (ret []))))))) (rtM (ret (.bool false))) (ret .nx))
  (rtM (andV (bin eqD (bnd (vim (rd 2) (vim (ret (.int 0)) (ret []))) (callM F_unseen)) (frzM (lstM (ret [])))) (binN eqD 7 (frzM (lcM [10] (itM (bnd (vim (rd 2) (vim (ret (.int 60)) (ret []))) (callM F_unseen))) (st 10) t_law_7 e_law_5))))))))))
def r_law_9 : M DS.Flow := (sq (asM (frzM (liM (pk 3))) (st 4))
  (sq (asM (bnd (vim (rd 4) (vim (rd 2) (ret []))) (callM F_mended)) (st 5))
  (sq (ifM (orB (asB (binN neD 5 (bnd (vim (rd 3) (vim (rd 2) (ret []))) (callM F_law_others)))) (orB (asB (binN neD 4 (pk 3))) (notB (asB (c1 (isiD .list) (pk 5)))))) (rtM (ret (.bool false))) (ret .nx))
  (sq (forS (itM (rd 5)) (st 6) b_law_1)
  r_law_8))))
def m_law : M DS.Flow :=
  (sq (soM (bnd (vim (rd 0) (ret [])) (callM F_law_town)) 1)
  (sq (asM (bin addD (ret (.int 2)) (bnd (vim (rd 0) (vsl 1 (vim (ret (.int 39)) (ret [])))) (callM F_law_draw))) (st 2))
  (sq (asM (bnd (vim (rd 0) (vsl 1 (vim (rd 2) (vim (ret (.int 12)) (ret []))))) (callM F_law_symbols)) (st 3))
  (sq (ifM (asB (bin eqD (bnd (vim (rd 0) (vsl 1 (vim (ret (.int 2)) (ret [])))) (callM F_law_draw)) (ret (.int 0)))) (asM (binN addD 3 (frzM (lstM (consM (bnd (vim (rd 3) (vim (rd 2) (ret []))) (callM F_check)) (ret []))))) (st 3)) (ret .nx))
  r_law_9))))
def F_law : List Sl → Res D := runF 1 11 [] m_law
def n_law : Nm := ⟨["script", "town", "base", "numbers", "given_numbers", "told", "one", "places", "some", "prime", "at"], [0, 1, 2, 3, 4, 5, 6, 7, 8, 9], [1, 2, 3, 4, 5, 6, 7, 8, 9], ["_law_town", "_law_draw", "_law_symbols", "check", "mended", "_law_others", "_law_wholes", "is_closed", "unseen", "_law_closed", "_law_pick"], ["list", "isinstance", "len", "max", "range"], ["list", "isinstance", "len", "max", "range"], [], [8], [], 4, fun T => HasO T "_law_town" 1 F_law_town ∧ Has T "_law_draw" 1 F_law_draw ∧ Has T "_law_symbols" 2 F_law_symbols ∧ Has T "check" 4 F_check ∧ Has T "mended" 4 F_mended ∧ Has T "_law_others" 2 F_law_others ∧ Has T "_law_wholes" 2 F_law_wholes ∧ Has T "is_closed" 4 F_is_closed ∧ Has T "unseen" 4 F_unseen ∧ Has T "_law_closed" 1 F_law_closed ∧ Has T "_law_pick" 2 F_law_pick⟩
theorem sc_law : FnScope n_law.N ["script"] (defScope s_law) := ⟨rfl, rfl, rfl, by decide +kernel, rfl, by decide +kernel, by decide +kernel⟩
theorem ck_law : scB n_law (defScope s_law) = true := by decide +kernel
theorem d_law (C : DC) (S : Sc C n_law) (L : LkSc C (defScope s_law)) : DSs C (defBody s_law) m_law :=
  (dss_cons (ds_setF S 1 (by decide) rfl (df_call S 0 rfl S.fs.1 (by decide) runO_ne (dv_im (de_var S 0 (by decide) rfl) dv_nil)) rfl)
  (dss_cons (ds_set S 2 (by decide) rfl (de_bin o_add de_int (DE.k (de_call S 1 rfl S.fs.2.1 (by decide) runF_ne (dv_im (de_var S 0 (by decide) rfl) (dv_sl S 1 (by decide) rfl (dv_im de_int dv_nil)))))) rfl)
  (dss_cons (ds_set S 3 (by decide) rfl (de_call S 2 rfl S.fs.2.2.1 (by decide) runF_ne (dv_im (de_var S 0 (by decide) rfl) (dv_sl S 1 (by decide) rfl (dv_im (de_var S 2 (by decide) rfl) (dv_im de_int dv_nil))))) rfl)
  (dss_cons (ds_if (dt_cmp (o_eq S) (de_call S 1 rfl S.fs.2.1 (by decide) runF_ne (dv_im (de_var S 0 (by decide) rfl) (dv_sl S 1 (by decide) rfl (dv_im de_int dv_nil)))) (DE.k de_int)) (dss_one (ds_set S 3 (by decide) rfl (de_binN S o_add 3 (by decide) rfl (DE.k (DF.e (df_lst (da_cons (de_call S 3 rfl S.fs.2.2.2.1 (by decide) runF_ne (dv_im (de_var S 3 (by decide) rfl) (dv_im (de_var S 2 (by decide) rfl) dv_nil))) da_nil))))) rfl)) dss_nil)
  (dss_cons (ds_set S 4 (by decide) rfl (DF.e (df_list S 0 rfl (dk_var S 3 (by decide) rfl))) rfl)
  (dss_cons (ds_set S 5 (by decide) rfl (de_call S 4 rfl S.fs.2.2.2.2.1 (by decide) runF_ne (dv_im (de_var S 4 (by decide) rfl) (dv_im (de_var S 2 (by decide) rfl) dv_nil))) rfl)
  (dss_cons (ds_if (DW.t (dw_or (dt_cmpN S (o_ne S) 5 (by decide) rfl (DE.k (de_call S 5 rfl S.fs.2.2.2.2.2.1 (by decide) runF_ne (dv_im (de_var S 3 (by decide) rfl) (dv_im (de_var S 2 (by decide) rfl) dv_nil))))) (dw_or (dt_cmpN S (o_ne S) 4 (by decide) rfl (dk_var S 3 (by decide) rfl)) (dw_or1 (dt_not (dt_val (de_isi .list S 1 0 rfl rfl rfl (dk_var S 5 (by decide) rfl)) rfl)))))) (dss_one (ds_ret de_bl)) dss_nil)
  (dss_cons (ds_for S (di_seq (de_var S 5 (by decide) rfl)) (dg_name S 6 (by decide) rfl) (dss_one (ds_if (DW.t (dw_or (dt_not (dt_val (de_call S 6 rfl S.fs.2.2.2.2.2.2.1 (by decide) runF_ne (dv_im (de_var S 6 (by decide) rfl) dv_nil)) rfl)) (dw_or1 (dt_not (dt_val (de_call S 7 rfl S.fs.2.2.2.2.2.2.2.1 (by decide) runF_ne (dv_im (de_var S 6 (by decide) rfl) (dv_im (de_var S 2 (by decide) rfl) dv_nil))) rfl))))) (dss_one (ds_ret de_bl)) dss_nil)))
  (dss_cons (ds_set S 7 (by decide) rfl (de_call S 8 rfl S.fs.2.2.2.2.2.2.2.2.1 (by decide) runF_ne (dv_im (de_var S 2 (by decide) rfl) (dv_im (de_max2 S 3 rfl de_int (de_bin o_sub (de_len S 2 rfl (dk_var S 3 (by decide) rfl)) (DE.k de_int))) dv_nil))) rfl)
  (dss_cons (ds_if (dt_not (dt_val (de_call S 6 rfl S.fs.2.2.2.2.2.2.1 (by decide) runF_ne (dv_im (de_var S 7 (by decide) rfl) dv_nil)) rfl)) (dss_one (ds_ret de_bl)) dss_nil)
  (dss_cons (ds_if (dt_val (de_call S 9 rfl S.fs.2.2.2.2.2.2.2.2.2.1 (by decide) runF_ne (dv_im (de_var S 3 (by decide) rfl) (dv_im (de_var S 2 (by decide) rfl) dv_nil))) rfl) (dss_cons (ds_lc S (i := 8) (by decide) (by decide) rfl (by decide +kernel) L (own := [("at", 10)]) (vs := [3, 5, 10]) (gs := []) (bs := []) (by decide +kernel) (di_rg1 S 4 rfl (de_bin o_sub (de_len S 2 rfl (dk_var S 3 (by decide) rfl)) (DE.k de_int))) (fun CS' S' L' => (dg_name S' 10 (by decide) rfl)) (fun CS' S' L' => (dts_one (dt_cmp (o_ne S') (DF.e (df_lc S' L' (own := [("one", 6)]) (vs := [3, 6, 10]) (gs := []) (bs := []) (by decide +kernel) (di_seq (de_var S' 5 (by decide) rfl)) (fun CS'' S'' L'' => (dg_name S'' 6 (by decide) rfl)) (fun CS'' S'' L'' => (dts_one (dt_cmp (o_ne S'') (de_ixN S'' 6 (by decide) rfl (dk_var S'' 10 (by decide) rfl)) (DE.k (de_ixN S'' 3 (by decide) rfl (dk_var S'' 10 (by decide) rfl)))))) (fun CS'' S'' L'' => (de_var S'' 6 (by decide) rfl)) (by decide))) (DE.k (DF.e (df_lst da_nil)))))) (fun CS' S' L' => (de_var S' 10 (by decide) rfl)) (by decide))
  (dss_one (ds_if (DW.t (dw_or (dt_cmpN S (o_ne S) 8 (by decide) rfl (dk_var S 7 (by decide) rfl)) (dw_or1 (dt_cmp (o_ne S) (DF.e (df_lc S L (own := [("one", 6)]) (vs := [3, 6]) (gs := []) (bs := []) (by decide +kernel) (di_seq (de_var S 5 (by decide) rfl)) (fun CS' S' L' => (dg_name S' 6 (by decide) rfl)) (fun CS' S' L' => (dts_one (dt_cmp (o_ne S') (de_ixN S' 6 (by decide) rfl (DE.k (de_neg de_int))) (DE.k (de_ixN S' 3 (by decide) rfl (DE.k (de_neg de_int))))))) (fun CS' S' L' => (de_var S' 6 (by decide) rfl)) (by decide))) (DE.k (DF.e (df_lst da_nil))))))) (dss_one (ds_ret de_bl)) dss_nil))) dss_nil)
  (dss_cons (ds_set S 9 (by decide) rfl (de_call S 10 rfl S.fs.2.2.2.2.2.2.2.2.2.2 (by decide) runF_ne (dv_im (de_var S 0 (by decide) rfl) (dv_sl S 1 (by decide) rfl (dv_im (DF.e (df_lst (da_cons de_int (da_cons de_int (da_cons de_int (da_cons de_int (da_cons de_int (da_cons de_int (da_cons de_int (da_cons de_int (da_cons de_int (da_cons de_int (da_cons de_int (da_cons de_int (da_cons de_int (da_cons de_int da_nil)))))))))))))))) dv_nil)))) rfl)
  (dss_cons (ds_if (DW.t (dw_or (dt_cmp (o_ne S) (de_call S 8 rfl S.fs.2.2.2.2.2.2.2.2.1 (by decide) runF_ne (dv_im (de_var S 9 (by decide) rfl) (dv_im (de_binN S o_sub 9 (by decide) rfl (DE.k de_int)) dv_nil))) (DE.k (DF.e (df_lst da_nil)))) (dw_or1 (dt_cmp (o_ne S) (de_call S 8 rfl S.fs.2.2.2.2.2.2.2.2.1 (by decide) runF_ne (dv_im (de_var S 9 (by decide) rfl) (dv_im (de_var S 9 (by decide) rfl) dv_nil))) (DE.k (DF.e (df_lst (da_cons (de_binN S o_sub 9 (by decide) rfl (DE.k de_int)) da_nil)))))))) (dss_one (ds_ret de_bl)) dss_nil)
  (dss_one (ds_ret (de_and (de_cmp (o_eq S) (de_call S 8 rfl S.fs.2.2.2.2.2.2.2.2.1 (by decide) runF_ne (dv_im (de_var S 2 (by decide) rfl) (dv_im de_int dv_nil))) (DE.k (DF.e (df_lst da_nil)))) (de_one (de_cmpN S (o_eq S) 7 (by decide) rfl (DE.k (DF.e (df_lc S L (own := [("at", 10)]) (vs := [3, 10]) (gs := []) (bs := ["len"]) (by decide +kernel) (di_seq (de_call S 8 rfl S.fs.2.2.2.2.2.2.2.2.1 (by decide) runF_ne (dv_im (de_var S 2 (by decide) rfl) (dv_im de_int dv_nil)))) (fun CS' S' L' => (dg_name S' 10 (by decide) rfl)) (fun CS' S' L' => (dts_one (dt_cmpN S' o_lt 10 (by decide) rfl (DE.k (de_bin o_sub (de_len S' 0 rfl (dk_var S' 3 (by decide) rfl)) (DE.k de_int)))))) (fun CS' S' L' => (de_var S' 10 (by decide) rfl)) (by decide))))))))))))))))))))))
/-- the count of draws and the cells -/
def Tw (ns : List Int) (B : Nat) (t : List D) : Prop := ∃ (c : Int) (town : List Int), 0 ≤ c ∧ c ≤ B ∧ town.length = ns.length ∧ t = .int c :: nI town
theorem Tw.mono {ns : List Int} {B B' : Nat} {t : List D} (h : Tw ns B t) (hb : B ≤ B') : Tw ns B' t := by
  obtain ⟨c, town, h0, h1, hl, rfl⟩ := h
  exact ⟨c, town, h0, by omega, hl, rfl⟩
theorem atI_map {ns : List Int} {i : Int} (h0 : 0 ≤ i) (h1 : i < ns.length) : ∃ z, atI (nI ns) i = some (.int z) := by
  unfold atI ixN
  rw [nI_length, if_pos h0, if_pos h1]
  exact ⟨ns[i.toNat]'(by omega), nI_get (by omega)⟩
theorem draw_ok {ns : List Int} {B : Nat} {t : List D} {many : Int} (ht : Tw ns B t) (hB : B < 2 ^ 60) (hm : 0 < many) (hm2 : many < 2 ^ 29) :
    ∃ (d : Int) (t' : List D), 0 ≤ d ∧ d < many ∧ Tw ns (B + 1) t' ∧ F_law_draw [.im (.list (nI ns)), .ml t, .im (.int many)] =
      .ok (.int d) [.im (.list (nI ns)), .ml t', .im (.int many)] := by
  obtain ⟨c, town, h0, h1, hl, rfl⟩ := ht
  have hm3 : many < 1073741824 := by omega
  by_cases he : ns = []
  · subst he
    have hl : town = [] := by cases town with | nil => rfl | cons a l => cases hl
    subst hl
    rw [nI_nil]
    refine ⟨((c + 1) * (c + 1) * 7) / 3 % many, [.int (c + 1)], Int.emod_nonneg _ (by omega), Int.emod_lt_of_pos _ hm, ⟨c + 1, [], by omega, by omega, rfl, rfl⟩, ?_⟩
    have m1 : mulOk (c + 1) (c + 1) = true := by simp [mulOk]; omega
    have m2 : mulOk ((c + 1) * (c + 1)) 7 = true := by simp [mulOk]
    have e0 : eqD (.list []) (.list []) = some (.bool true) := rfl
    simp [F_law_draw, runF, m_law_draw, e0, atI, ixN, m1, m2, hm]
  · have hposN : 0 < ns.length := by
      cases ns with
      | nil => exact absurd rfl he
      | cons a l => simp
    have hpos : 0 < (ns.length : Int) := by omega
    have e0 : eqD (.list (nI ns)) (.list []) = some (.bool false) := by
      rw [eqD_nI_nil]
      cases ns with
      | nil => exact absurd rfl he
      | cons a l => rfl
    have ha0 := Int.emod_nonneg (c + 1) (b := (ns.length : Int)) (by omega)
    have ha1 := Int.emod_lt_of_pos (c + 1) hpos
    obtain ⟨x, hx⟩ := atI_map (ns := ns) ha0 ha1
    obtain ⟨y, hy⟩ := atI_map (ns := (c + 1) :: town) (i := 1 + (c + 1) % (ns.length : Int)) (by omega) (by simp; omega)
    have h00 : atI (PyData.int c :: nI town) 0 = some (.int c) := by
      have : (0 : Int) < ((town.length : Int) + 1) := by omega
      simp [atI, ixN, this]
    have h01 : atI (PyData.int (c + 1) :: nI town) 0 = some (.int (c + 1)) := by
      have : (0 : Int) < ((town.length : Int) + 1) := by omega
      simp [atI, ixN, this]
    have hs0 : ixN (town.length + 1) 0 = some 0 := by
      have : (0 : Int) < ((town.length : Int) + 1) := by omega
      simp [ixN, this]
    have hs1 : ixN (town.length + 1) (1 + (c + 1) % (ns.length : Int)) = some (1 + (c + 1) % (ns.length : Int)).toNat := by
      unfold ixN
      rw [if_pos (by omega), if_pos (by simp; omega)]
    rw [nI_cons] at hy
    have p1 : ∀ z : Int, mulOk 104729 z = true := fun z => by simp [mulOk]
    have p2 : ∀ z : Int, mulOk z 69621 = true := fun z => by simp [mulOk]
    have p3 : ∀ z : Int, (z % 4294967291).natAbs < 18446744073709551616 := fun z => by
      have a := Int.emod_nonneg z (b := 4294967291) (by omega)
      have b := Int.emod_lt_of_pos z (b := 4294967291) (by omega)
      omega
    have plain : ∀ b : Bool, (decide (1000000000000000000 ≤ x) && decide (0 < y)) = false → ∃ (d : Int) (t' : List D), 0 ≤ d ∧ d < many ∧ Tw ns (B + 1) t' ∧ F_law_draw [.im (.list (nI ns)), .ml (PyData.int c :: nI town), .im (.int many)] =
      .ok (.int d) [.im (.list (nI ns)), .ml t', .im (.int many)] := fun _ hf => by
      refine ⟨((((x + 104729 * (c + 1)) % 4294967291) ^ 5 % 4294967279 / 64 * 69621 + ((x + 104729 * (c + 1)) % 4294967291) ^ 5 % 4294967279) % 4294967231 / 8) % many, .int (c + 1) :: nI town, Int.emod_nonneg _ (by omega), Int.emod_lt_of_pos _ hm, ⟨c + 1, town, by omega, by omega, hl, rfl⟩, ?_⟩
      by_cases hb : (1000000000000000000 : Int) ≤ x
      · have hy0 : ¬ 0 < y := by simpa [hb] using hf
        simp [F_law_draw, runF, m_law_draw, e0, h00, h01, hs0, hx, hy, hb, hy0, hm, hposN, p1, p2, p3, hm3]
      · simp [F_law_draw, runF, m_law_draw, e0, h00, h01, hs0, hx, hy, hb, hm, hposN, p1, p2, p3, hm3]
    by_cases hb : (1000000000000000000 : Int) ≤ x
    · by_cases hb2 : 0 < y
      · refine ⟨y % many, .int (c + 1) :: nI (town.set ((c + 1) % (ns.length : Int)).toNat (y / many)), Int.emod_nonneg _ (by omega), Int.emod_lt_of_pos _ hm, ⟨c + 1, town.set ((c + 1) % (ns.length : Int)).toNat (y / many), by omega, by omega, by simpa using hl, rfl⟩, ?_⟩
        have hset : (PyData.int (c + 1) :: nI town).set (1 + (c + 1) % (ns.length : Int)).toNat (.int (y / many)) = PyData.int (c + 1) :: nI (town.set ((c + 1) % (ns.length : Int)).toNat (y / many)) := by
          rw [show (1 + (c + 1) % (ns.length : Int)).toNat = ((c + 1) % (ns.length : Int)).toNat + 1 by omega, List.set_cons_succ, nI, nI, List.map_set]
        simp [F_law_draw, runF, m_law_draw, e0, h00, h01, hs0, hx, hy, hb, hb2, hs1, hm, hposN, hset, hm3]
      · exact plain true (by simp [hb2])
    · exact plain true (by simp [hb])
theorem town_ok (ns : List Int) (hl : ns.length ≤ 63) : F_law_town [.im (.list (nI ns))] = .ok (.int 0 :: nI ns) [.im (.list (nI ns))] := by
  have h1 : 1 + ns.length ≤ sizeLine := by simp only [sizeLine]; omega
  have h2 : 1 ≤ sizeLine := by simp only [sizeLine]; omega
  simp [F_law_town, runO, m_law_town, h1, h2]
theorem town_tw (ns : List Int) : Tw ns 0 (.int 0 :: nI ns) := ⟨0, ns, by omega, by omega, rfl, rfl⟩
theorem pick_ok {ns : List Int} {B : Nat} {t : List D} {ds : List D} (ht : Tw ns B t) (hB : B < 2 ^ 60) (h0 : ds ≠ []) (h1 : ds.length < 2 ^ 29) :
    ∃ (x : D) (t' : List D), x ∈ ds ∧ Tw ns (B + 1) t' ∧ F_law_pick [.im (.list (nI ns)), .ml t, .im (.list ds)] = .ok x [.im (.list (nI ns)), .ml t', .im (.list ds)] := by
  have hp : 0 < ds.length := List.length_pos_iff.mpr h0
  obtain ⟨d, t', d0, d1, ht', e⟩ := draw_ok (many := ds.length) ht hB (by omega) (by omega)
  refine ⟨ds[d.toNat]'(by omega), t', List.getElem_mem _, ht', ?_⟩
  have ha : atI ds d = some (ds[d.toNat]'(by omega)) := by
    unfold atI ixN
    rw [if_pos d0, if_pos d1]
    simp
  simp [F_law_pick, runF, m_law_pick, e, ha]
/-- whole numbers below many -/
def Row (many : Int) (l : List Int) : Prop := ∀ x ∈ l, 0 ≤ x ∧ x < many
theorem is_number_int (i a b : Int) : F_is_number [.im (.int i), .im (.int a), .im (.int b)] = .ok (.bool (decide (a ≤ i) && decide (i ≤ b))) [.im (.int i), .im (.int a), .im (.int b)] := by
  by_cases h : a ≤ i <;> simp [F_is_number, runF, m_is_number, h]
theorem filterMap_nI {f : D → Option D} {g : Int → D} (l : List Int) (h : ∀ x ∈ l, f (.int x) = some (g x)) : (nI l).filterMap f = l.map g := by
  induction l with
  | nil => rfl
  | cons a l ih => simp [nI_cons, h a List.mem_cons_self, ih fun x hx => h x (List.mem_cons_of_mem _ hx)]
theorem is_row_ok {many : Int} {l : List Int} (h : Row many l) (hl : l.length ≤ 300) : F_is_row [.im (.list (nI l)), .im (.int many)] = .ok (.bool true) [.im (.list (nI l)), .im (.int many)] := by
  have e : lcA [2] (DS.st 2) (ret true) e_is_row_1 [] (nI l) [.im (.list (nI l)), .im (.int many), .un] = .ok ([] ++ (nI l).filterMap fun _ => some (.bool true)) [.im (.list (nI l)), .im (.int many), .un] := by
    refine lcA_pure (fun _ => some (.bool true)) (by simp only [sizeLine]; simp; omega) fun d hd ρ1 h1 => ?_
    obtain ⟨x, hx, rfl⟩ := nI_mem hd
    have := h x hx
    have q1 : 0 ≤ x := this.1
    have q2 : x ≤ many - 1 := by omega
    exact lcP_t h1 rfl rfl rfl rfl (by simp [e_is_row_1, is_number_int, q1, q2])
  have e2 : (nI l).filterMap (fun _ => some (PyData.bool true)) = (l.map fun _ => true).map PyData.bool := by
    rw [filterMap_nI (g := fun _ => PyData.bool true) l fun _ _ => rfl]; simp
  rw [List.nil_append, e2] at e
  have h3 : (l.length : Int) ≤ 300 := by omega
  have h4 : allD (.list ((l.map fun _ => true).map PyData.bool)) = some (.bool true) := by rw [allD_bool]; simp
  simp [F_is_row, runF, m_is_row, h3, e, h4, -List.map_map, -List.map_const]
theorem look_ok {base : Int} {l : List Int} (hb : 2 ≤ base ∧ base ≤ 200) (h : Row base l) (hl : l.length ≤ 300) : F_look_numbers [.im (.list (nI l)), .im (.int base)] = .ok .none [.im (.list (nI l)), .im (.int base)] := by
  have e1 := hb.1
  have e2 := hb.2
  have e3 := is_row_ok h hl
  simp [F_look_numbers, runF, m_look_numbers, is_number_int, e1, e2, e3]
/-- the sum of places times numbers -/
def wsum : Nat → List Int → Int
  | _, [] => 0
  | k, x :: xs => ((k : Int) + 1) * x + wsum (k + 1) xs
theorem enD_nI (l : List Int) : enD (nI l) = l.zipIdx.map fun p => PyData.tuple [.int ((p.2 : Nat) : Int), .int p.1] := by
  unfold enD nI
  rw [List.zipIdx_map, List.map_map]
  rfl
theorem wsum_eq (k : Nat) (l : List Int) : ((l.zipIdx k).map fun p => ((p.2 : Int) + 1) * p.1).sum = wsum k l := by
  induction l generalizing k with
  | nil => rfl
  | cons a l ih => simp [List.zipIdx_cons, wsum, ih]
theorem check_of_ok {base : Int} {l : List Int} (hb : 0 < base) (hl : l.length ≤ 300) : F_check_of [.im (.list (nI l)), .im (.int base)] = .ok (.int (wsum 0 l % base)) [.im (.list (nI l)), .im (.int base)] := by
  have e2 : (enD (nI l)).filterMap (fun d => some (.int ((iO (p0 d) + 1) * iO (p1 d)))) = nI (l.zipIdx.map fun p => ((p.2 : Int) + 1) * p.1) := by
    rw [enD_nI, List.filterMap_map]
    simp [nI, Function.comp_def]
  have h4 : sumD (.list (nI (l.zipIdx.map fun p => ((p.2 : Int) + 1) * p.1))) = some (.int (wsum 0 l)) := by rw [sumD_int, wsum_eq]
  simp [F_check_of, runF, m_check_of]
  rw [lcA_pure (fun d => some (.int ((iO (p0 d) + 1) * iO (p1 d)))) (by rw [enD_nI]; simp only [sizeLine]; simp; omega) fun d hd ρ1 h1 => ?_]
  · simp [e2, h4, hb]
  · rw [enD_nI] at hd
    obtain ⟨⟨x, i⟩, hx, rfl⟩ := List.mem_map.mp hd
    have hi : i < l.length := by have := List.mem_zipIdx hx; omega
    have hm : mulOk ((i : Int) + 1) x = true := mulOk_l (by omega) (by omega)
    exact lcP_t h1 rfl rfl rfl rfl (by simp [e_check_of_1, hm])
theorem check_ok {base : Int} {l : List Int} (hb : 2 ≤ base ∧ base ≤ 200) (h : Row base l) (hl : l.length ≤ 300) : F_check [.im (.list (nI l)), .im (.int base)] = .ok (.int (wsum 0 l % base)) [.im (.list (nI l)), .im (.int base)] := by
  have e1 := look_ok hb h hl
  have e2 := check_of_ok (base := base) (l := l) (by omega) hl
  simp [F_check, runF, m_check, e1, e2]
/-- what a row lacks -/
def lack (l : List Int) : Int := wsum 0 l.dropLast - lastI l
theorem mod_eq_iff {b w z : Int} (h0 : 0 ≤ z) (h1 : z < b) : (z = w % b) ↔ (w - z) % b = 0 := by
  rw [← Int.emod_eq_emod_iff_emod_sub_eq_zero, Int.emod_eq_of_lt h0 h1]
  exact eq_comm
/-- the row is closed -/
def Shut (base : Int) (l : List Int) : Prop := l ≠ [] ∧ lack l % base = 0
instance (base : Int) (l : List Int) : Decidable (Shut base l) := inferInstanceAs (Decidable (_ ∧ _))
theorem closed_of_ok {base : Int} {l : List Int} (hb : 2 ≤ base ∧ base ≤ 200) (h : Row base l) (hl : l.length ≤ 300) : F_is_closed_of [.im (.list (nI l)), .im (.int base)] = .ok (.bool (decide (Shut base l))) [.im (.list (nI l)), .im (.int base)] := by
  have e0 := neD_nI_nil l
  by_cases hne : l = []
  · subst hne
    simp [F_is_closed_of, runF, m_is_closed_of, e0, Shut]
  · have e2 := check_of_ok (base := base) (l := l.dropLast) (by omega) (by simp; omega)
    have e3 := atI_last hne
    have e4 := cutL_init (nI l)
    rw [nI_dropLast] at e4
    have e5 : l.isEmpty = false := by cases l with | nil => exact absurd rfl hne | cons a l => rfl
    rw [e5] at e0
    have hr := h _ (lastI_mem hne)
    have e7 := mod_eq_iff (w := wsum 0 l.dropLast) hr.1 hr.2
    simp [F_is_closed_of, runF, m_is_closed_of, e0, e3, e4, e2, hne, e7, lack, Shut]
theorem closed_ok {base : Int} {l : List Int} (hb : 2 ≤ base ∧ base ≤ 200) (h : Row base l) (hl : l.length ≤ 300) : F_is_closed [.im (.list (nI l)), .im (.int base)] = .ok (.bool (decide (Shut base l))) [.im (.list (nI l)), .im (.int base)] := by
  have e1 := look_ok hb h hl
  have e2 := closed_of_ok hb h hl
  simp [F_is_closed, runF, m_is_closed, e1, e2]
/-- the law's own word on it -/
theorem law_closed_ok {base : Int} {l : List Int} (hb : 2 ≤ base ∧ base ≤ 200) (h : Row base l) (hl : l.length ≤ 300) : F_law_closed [.im (.list (nI l)), .im (.int base)] = .ok (.bool (decide (Shut base l))) [.im (.list (nI l)), .im (.int base)] := by
  have e0 := neD_nI_nil l
  have e4 := cutL_init (nI l)
  rw [nI_dropLast] at e4
  simp [F_law_closed, runF, m_law_closed, e4]
  obtain ⟨ρ', e, i⟩ := forM_fold (f := unT 2 (stC (DS.st 3) (stC (DS.st 4) stN))) (b := b_law_closed_1) (fun s ρ => ∃ a b, ρ = [.im (.list (nI l)), .im (.int base), .im (.int s), a, b]) (fun s d => s + (iO (p0 d) + 1) * iO (p1 d)) (enD (nI l.dropLast)) 0 [.im (.list (nI l)), .im (.int base), .im (.int 0), .un, .un] ⟨_, _, rfl⟩ (by
    rintro d s ρ hd ⟨a, b, rfl⟩
    rw [enD_nI] at hd
    obtain ⟨⟨x, i⟩, hx, rfl⟩ := List.mem_map.mp hd
    have hi : i < l.length := by have := List.mem_zipIdx hx; simp at this; omega
    have hm : mulOk ((i : Int) + 1) x = true := mulOk_l (by omega) (by omega)
    refine ⟨_, ?_, .im (.int i), .im (.int x), rfl⟩
    rw [forStep_ok rfl]
    simp [b_law_closed_1, hm])
  obtain ⟨a, b, rfl⟩ := i
  have hs : ∀ (k : Nat) (s : Int) (m : List Int), ((m.zipIdx k).map fun p => PyData.tuple [.int ((p.2 : Nat) : Int), .int p.1]).foldl (fun s d => s + (iO (p0 d) + 1) * iO (p1 d)) s = s + wsum k m := by
    intro k s m
    induction m generalizing k s with
    | nil => simp [wsum]
    | cons y m ih => simp [List.zipIdx_cons, wsum, ih, Int.add_assoc]
  rw [enD_nI, hs, Int.zero_add] at e
  rw [← enD_nI] at e
  simp [e]
  by_cases hne : l = []
  · subst hne
    simp [e0, Shut]
  · have e3 := atI_last hne
    have e5 : l.isEmpty = false := by cases l with | nil => exact absurd rfl hne | cons a l => rfl
    rw [e5] at e0
    have hr := h _ (lastI_mem hne)
    have e7 := mod_eq_iff (w := wsum 0 l.dropLast) hr.1 hr.2
    have e8 : (0 : Int) < base := by omega
    rw [eq_comm] at e7
    simp [e0, e3, e8, hne, e7, lack, Shut]
/-- rows as data -/
def rows (ls : List (List Int)) : List D := ls.map fun l => .list (nI l)
@[simp] theorem rows_length (ls : List (List Int)) : (rows ls).length = ls.length := by simp [rows]
theorem rows_append (a b : List (List Int)) : rows (a ++ b) = rows a ++ rows b := by simp [rows]
def inner (l : List Int) (k : Nat) (P : Nat → Bool) (j : Nat) : List (List Int) := ((List.range j).filter P).map fun (o : Nat) => l.set k (o : Int)
theorem inner_succ (l : List Int) (k : Nat) (P : Nat → Bool) (j : Nat) : inner l k P (j + 1) = inner l k P j ++ if P j then [l.set k (j : Int)] else [] := by
  unfold inner
  rw [List.range_succ, List.filter_append, List.map_append]
  congr 1
  cases h : P j <;> simp [h]
theorem inner_len (l : List Int) (k : Nat) (P : Nat → Bool) (j : Nat) : (inner l k P j).length ≤ j := by
  unfold inner
  rw [List.length_map]
  exact Nat.le_trans (List.length_filter_le _ _) (by simp)
def outer (l : List Int) (P : Nat → Nat → Bool) (b k : Nat) : List (List Int) := (List.range k).flatMap fun i => inner l i (P i) b
theorem outer_succ (l : List Int) (P : Nat → Nat → Bool) (b k : Nat) : outer l P b (k + 1) = outer l P b k ++ inner l k (P k) b := by
  unfold outer
  rw [List.range_succ, List.flatMap_append]
  simp
theorem outer_len (l : List Int) (P : Nat → Nat → Bool) (b k : Nat) : (outer l P b k).length ≤ k * b := by
  induction k with
  | zero => simp [outer]
  | succ k ih =>
    rw [outer_succ, List.length_append]
    have := inner_len l k (P k) b
    rw [Nat.succ_mul]
    omega
theorem set_cut (l : List Int) (k : Nat) (o : Int) (h : k < l.length) : nI (l.take k) ++ [PyData.int o] ++ nI (l.drop (k + 1)) = nI (l.set k o) := by
  rw [List.set_eq_take_append_cons_drop, if_pos h]
  simp [nI]
theorem rg_get' {b j : Nat} {d : D} (h : (rgD 0 b 1)[j]? = some d) : j < b ∧ d = .int (j : Int) := by
  obtain ⟨h1, h2⟩ := rg_get h
  exact ⟨h1, by rw [h2]; simp⟩
@[simp] theorem rg_len (lo c : Int) (k : Nat) : (rgD lo k c).length = k := by simp [rgD]
theorem inR_nat {k : Nat} (h : k ≤ 1000000) : inR (k : Int) = true := big_ok (by omega)
theorem cut_to (l : List Int) (k : Nat) : cutL (nI l) none (some (k : Int)) = nI (l.take k) := by rw [cutL_to, nI_take]
theorem cut_from (l : List Int) (k : Nat) : cutL (nI l) (some ((k : Int) + 1)) none = nI (l.drop (k + 1)) := by
  rw [show (k : Int) + 1 = ((k + 1 : Nat) : Int) by omega, cutL_from, nI_drop]
section
variable {l : List Int} {b : Nat}
def far (l : List Int) (b : Nat) : Int := lack l % (b : Int)
def times (l : List Int) (k : Nat) : Int := if k + 1 < l.length then (k : Int) + 1 else -1
def cond (l : List Int) (b : Nat) (k o : Nat) : Bool := decide ((o : Int) ≠ l[k]?.getD 0) && decide ((far l b + times l k * ((o : Int) - l[k]?.getD 0)) % (b : Int) = 0)
theorem mended_in {k : Nat} {z7 : Sl} (hk : k < l.length) (hl : l.length ≤ 300) (hb : 2 ≤ b ∧ b ≤ 200) (hr : Row b l) (acc : List (List Int)) (ha : acc.length ≤ 300 * 200) :
    ∃ z, DS.forM (DS.st 7) b_mended_1 (rgD 0 b 1)
      [.im (.list (nI l)), .im (.int b), .ml (rows acc), .im (.int (far l b)), .im (.int k), .im (.int l[k]), .im (.int (times l k)), z7]
      = .ok .nx [.im (.list (nI l)), .im (.int b), .ml (rows (acc ++ inner l k (cond l b k) b)), .im (.int (far l b)), .im (.int k), .im (.int l[k]), .im (.int (times l k)), z] := by
  obtain ⟨ρ', e, i⟩ := forM_inv (f := DS.st 7) (b := b_mended_1)
    (fun j ρ => ∃ z, ρ = [.im (.list (nI l)), .im (.int b), .ml (rows (acc ++ inner l k (cond l b k) j)), .im (.int (far l b)), .im (.int k), .im (.int l[k]), .im (.int (times l k)), z]) (rgD 0 b 1)
      [.im (.list (nI l)), .im (.int b), .ml (rows acc), .im (.int (far l b)), .im (.int k), .im (.int l[k]), .im (.int (times l k)), z7] ⟨z7, by simp [inner]⟩ (by
      rintro j d ρ hd ⟨z, rfl⟩
      obtain ⟨hj, rfl⟩ := rg_get' hd
      refine ⟨_, ?_, .im (.int j), rfl⟩
      rw [forStep_ok (by rfl)]
      have hx := hr _ (List.getElem_mem hk)
      have m1 : mulOk (times l k) ((j : Int) - l[k]) = true := by
        refine mulOk_l ?_ ?_ <;> (unfold times; split <;> omega)
      have b0 : (0 : Int) < b := by omega
      have b1 : 0 < b := by omega
      have hn := inner_len l k (cond l b k) j
      have s1 : (rows (acc ++ inner l k (cond l b k) j)).length < sizeLine := by
        rw [rows_length, List.length_append]
        simp only [sizeLine]
        omega
      have s1' : (acc.length + (inner l k (cond l b k) j).length) < sizeLine := by simpa using s1
      have s2 : (l.take k).length + 1 ≤ sizeLine := by simp only [sizeLine]; simp; omega
      have s3 : (l.take k).length + 1 + (l.drop (k + 1)).length ≤ sizeLine := by simp only [sizeLine]; simp; omega
      have s4 : 1 ≤ sizeLine := by simp only [sizeLine]; omega
      have sc := set_cut l k (j : Int) hk
      rw [inner_succ]
      by_cases c1 : (j : Int) = l[k]
      · have : cond l b k j = false := by simp [cond, hk, c1]
        simp [b_mended_1, this, c1]
      · by_cases c2 : (far l b + times l k * ((j : Int) - l[k])) % (b : Int) = 0
        · have : cond l b k j = true := by simp [cond, hk, c1, c2]
          simp [b_mended_1, this, c1, c2, m1, b0, b1, cut_to, cut_from, -List.length_take, -List.length_drop, s1', s2, s3, s4, rows_append]
          simp [rows, ← sc]
        · have : cond l b k j = false := by simp [cond, hk, c1, c2]
          simp [b_mended_1, this, c1, c2, m1, b0, b1])
  obtain ⟨z, rfl⟩ := i
  rw [rg_len] at e
  exact ⟨z, e⟩
theorem mended_out (hl : l.length ≤ 300) (hb : 2 ≤ b ∧ b ≤ 200) (hr : Row b l) : ∃ z4 z5 z6 z7, DS.forM (unT 2 (stC (DS.st 4) (stC (DS.st 5) stN))) b_mended_2 (enD (nI l)) [.im (.list (nI l)), .im (.int b), .ml [], .im (.int (far l b)), .un, .un, .un, .un]
    = .ok .nx [.im (.list (nI l)), .im (.int b), .ml (rows (outer l (cond l b) b l.length)), .im (.int (far l b)), z4, z5, z6, z7] := by
  obtain ⟨ρ', e, i⟩ := forM_inv (f := (unT 2 (stC (DS.st 4) (stC (DS.st 5) stN)))) (b := b_mended_2) (fun k ρ => ∃ z4 z5 z6 z7, ρ = [.im (.list (nI l)), .im (.int b), .ml (rows (outer l (cond l b) b k)), .im (.int (far l b)), z4, z5, z6, z7]) (enD (nI l)) [.im (.list (nI l)), .im (.int b), .ml [], .im (.int (far l b)), .un, .un, .un, .un] ⟨_, _, _, _, rfl⟩ (by
      rintro k d ρ hd ⟨z4, z5, z6, z7, rfl⟩
      obtain ⟨x, hx, rfl⟩ := en_get hd
      have hk : k < l.length := by have := lt_of_get hx; simpa using this
      rw [nI_get hk] at hx
      cases hx
      have ho := outer_len l (cond l b) b k
      have hkb : k * b ≤ 300 * 200 := Nat.mul_le_mul (by omega) hb.2
      obtain ⟨z, e⟩ := mended_in (z7 := z7) hk hl hb hr (outer l (cond l b) b k) (by omega)
      refine ⟨_, ?_, .im (.int k), .im (.int l[k]), .im (.int (times l k)), z, rfl⟩
      rw [forStep_ok rfl, outer_succ]
      have r1 : inR (b : Int) = true := inR_nat (by omega)
      by_cases c : (k : Int) + 1 < l.length
      · have c' : k + 1 < l.length := by omega
        have ht : times l k = (k : Int) + 1 := by simp [times, c']
        rw [ht] at e ⊢
        simp [b_mended_2, c, r1, e]
      · have c' : ¬ k + 1 < l.length := by omega
        have ht : times l k = -1 := by simp [times, c']
        rw [ht] at e ⊢
        simp [b_mended_2, c, r1, e])
  obtain ⟨z4, z5, z6, z7, rfl⟩ := i
  have hn : (enD (nI l)).length = l.length := by simp [enD]
  rw [hn] at e
  exact ⟨z4, z5, z6, z7, e⟩
end
theorem alike_nI : ∀ a b : List Int, PySem.W.alikeAll (nI a) (nI b) = true
  | [], b => by cases b <;> rfl
  | _ :: _, [] => rfl
  | x :: a, y :: b => by rw [nI_cons, nI_cons, PySem.W.alikeAll, alike_nI a b]; rfl
theorem depthAll_nI : ∀ a : List Int, PyData.depthAll (nI a) = 0
  | [] => rfl
  | x :: a => by rw [nI_cons, PyData.depthAll, depthAll_nI a]; rfl
theorem noObj_rows (ls : List (List Int)) : noObjA (rows ls) = true := by
  induction ls with
  | nil => rfl
  | cons l ls ih =>
    show (noObj (.list (nI l)) && noObjA (rows ls)) = true
    rw [ih, noObj, noObj_nI]
    rfl
theorem sortOk_rows (ls : List (List Int)) (h : ls.length ≤ sizeLine) : sortOk (rows ls) = true := by
  unfold sortOk
  simp only [Bool.and_eq_true, Bool.or_eq_true, List.all_eq_true, decide_eq_true_eq, rows_length, noObj_rows, and_true, h]
  refine ⟨⟨fun d hd e he => ?_, fun d hd => ?_⟩, .inr fun d hd => ?_⟩
  · obtain ⟨l, _, rfl⟩ := List.mem_map.mp hd
    obtain ⟨m, _, rfl⟩ := List.mem_map.mp he
    exact alike_nI l m
  · obtain ⟨l, _, rfl⟩ := List.mem_map.mp hd
    simp only [PyData.depth, depthAll_nI]
    omega
  · obtain ⟨l, _, rfl⟩ := List.mem_map.mp hd
    rfl
theorem nI_inj {a b : List Int} (h : nI a = nI b) : a = b := by
  have := congrArg (List.map iO) h
  simpa [nI, Function.comp_def] using this
theorem sort_rows (ls : List (List Int)) : ∃ ls', sortL (rows ls) = rows ls' ∧ ∀ m, m ∈ ls' ↔ m ∈ ls := by
  have hp : (sortL (rows ls)).Perm (rows ls) := List.mergeSort_perm _ _
  have hb : ∀ ds : List D, (∀ d ∈ ds, ∃ l, d = .list (nI l)) → ∃ ls', ds = rows ls' := by
    intro ds
    induction ds with
    | nil => exact fun _ => ⟨[], rfl⟩
    | cons d ds ih =>
      intro h
      obtain ⟨l, rfl⟩ := h d List.mem_cons_self
      obtain ⟨ls', rfl⟩ := ih fun e he => h e (List.mem_cons_of_mem _ he)
      exact ⟨l :: ls', rfl⟩
  obtain ⟨ls', e⟩ := hb (sortL (rows ls)) fun d hd => by
    obtain ⟨l, _, rfl⟩ := List.mem_map.mp (hp.mem_iff.mp hd)
    exact ⟨l, rfl⟩
  have mr : ∀ (m : List Int) (ks : List (List Int)), PyData.list (nI m) ∈ rows ks ↔ m ∈ ks := fun m ks =>
    ⟨fun h => by obtain ⟨l, hl, e⟩ := List.mem_map.mp h; cases nI_inj (by simpa using e); exact hl, fun h => List.mem_map.mpr ⟨m, h, rfl⟩⟩
  exact ⟨ls', e, fun m => by rw [← mr m ls', ← e, hp.mem_iff, mr]⟩
section
variable {l : List Int} {b : Nat}
theorem outer_le (P : Nat → Nat → Bool) (hl : l.length ≤ 300) (hb : 2 ≤ b ∧ b ≤ 200) : (outer l P b l.length).length ≤ sizeLine := by
  have ho := outer_len l P b l.length
  have hkb : l.length * b ≤ 300 * 200 := Nat.mul_le_mul hl hb.2
  simp only [sizeLine]
  omega
theorem mended_ok (hl : l.length ≤ 300) (hb : 2 ≤ b ∧ b ≤ 200) (hr : Row b l) : F_mended [.im (.list (nI l)), .im (.int b)] = .ok (.list (sortL (rows (outer l (cond l b) b l.length)))) [.im (.list (nI l)), .im (.int b)] := by
  have e0 := neD_nI_nil l
  have e1 := look_ok (base := b) (l := l) (by omega) hr hl
  have so := sortOk_rows (outer l (cond l b) b l.length) (outer_le _ hl hb)
  have s0 : 0 ≤ sizeLine := Nat.zero_le _
  by_cases hne : l = []
  · subst hne
    have so : sortOk [] = true := so
    have e0 : neD (PyData.list (nI [])) (PyData.list []) = some (.bool false) := e0
    simp [F_mended, runF, m_mended, e1, e0, s0, sortD, so, outer, rows]
  · have e2 := check_of_ok (base := b) (l := l.dropLast) (by omega) (by simp; omega)
    have e3 := atI_last hne
    have e4 := cutL_init (nI l)
    rw [nI_dropLast] at e4
    have e5 : l.isEmpty = false := by cases l with | nil => exact absurd rfl hne | cons a l => rfl
    rw [e5] at e0
    have e0 : neD (PyData.list (nI l)) (PyData.list []) = some (.bool true) := e0
    obtain ⟨z4, z5, z6, z7, e6⟩ := mended_out hl hb hr
    have e7 : (wsum 0 l.dropLast % (b : Int) - lastI l) % (b : Int) = far l b := by
      unfold far lack
      rw [Int.emod_sub_emod]
    have b1 : 0 < b := by omega
    simp [F_mended, runF, m_mended, e1, e0, s0, e2, e3, e4, e7, b1, e6, sortD, so]
/-- the law's own word -/
def cond' (l : List Int) (b : Nat) (k o : Nat) : Bool := decide ((o : Int) ≠ l[k]?.getD 0) && decide (Shut b (l.set k o))
theorem row_set {l : List Int} {b k o : Nat} (hr : Row b l) (ho : o < b) : Row b (l.set k o) := fun x hx => by
  rcases List.mem_or_eq_of_mem_set hx with h | h
  · exact hr x h
  · subst h; omega
theorem others_in {k : Nat} {z4 z5 : Sl} (hk : k < l.length) (hl : l.length ≤ 300) (hb : 2 ≤ b ∧ b ≤ 200) (hr : Row b l) (acc : List (List Int)) (ha : acc.length ≤ 300 * 200) :
    ∃ z z', DS.forM (DS.st 4) b_law_others_1 (rgD 0 b 1) [.im (.list (nI l)), .im (.int b), .ml (rows acc), .im (.int k), z4, z5]
      = .ok .nx [.im (.list (nI l)), .im (.int b), .ml (rows (acc ++ inner l k (cond' l b k) b)), .im (.int k), z, z'] := by
  obtain ⟨ρ', e, i⟩ := forM_inv (f := DS.st 4) (b := b_law_others_1)
    (fun j ρ => ∃ z z', ρ = [.im (.list (nI l)), .im (.int b), .ml (rows (acc ++ inner l k (cond' l b k) j)), .im (.int k), z, z']) (rgD 0 b 1)
      [.im (.list (nI l)), .im (.int b), .ml (rows acc), .im (.int k), z4, z5] ⟨z4, z5, by simp [inner]⟩ (by
      rintro j d ρ hd ⟨z, z', rfl⟩
      obtain ⟨hj, rfl⟩ := rg_get' hd
      refine ⟨_, ?_, .im (.int j), .im (.list (nI (l.set k j))), rfl⟩
      rw [forStep_ok (by rfl)]
      have hn := inner_len l k (cond' l b k) j
      have s1 : (rows (acc ++ inner l k (cond' l b k) j)).length < sizeLine := by
        rw [rows_length, List.length_append]
        simp only [sizeLine]
        omega
      have s1' : (acc.length + (inner l k (cond' l b k) j).length) < sizeLine := by simpa using s1
      have s2 : (l.take k).length + 1 ≤ sizeLine := by simp only [sizeLine]; simp; omega
      have s3 : (l.take k).length + 1 + (l.drop (k + 1)).length ≤ sizeLine := by simp only [sizeLine]; simp; omega
      have s4 : 1 ≤ sizeLine := by simp only [sizeLine]; omega
      have sc := set_cut l k (j : Int) hk
      have sc' : nI (l.take k) ++ PyData.int (j : Int) :: nI (l.drop (k + 1)) = nI (l.set k j) := by rw [← sc]; simp
      have ai := atI_int hk
      have lc := law_closed_ok (base := b) (l := l.set k j) (by omega) (row_set hr hj) (by simpa using hl)
      rw [inner_succ]
      by_cases c1 : (j : Int) = l[k]
      · have : cond' l b k j = false := by simp [cond', hk, c1]
        simp [b_law_others_1, this, c1, cut_to, cut_from, -List.length_take, -List.length_drop, s2, s3, s4, ai]
        simp [← c1, sc']
        rw [c1, List.set_getElem_self]
      · by_cases c2 : Shut b (l.set k j)
        · have : cond' l b k j = true := by simp [cond', hk, c1, c2]
          simp [b_law_others_1, this, c1, c2, lc, cut_to, cut_from, -List.length_take, -List.length_drop, s1', s2, s3, s4, ai, sc', rows_append]
          rfl
        · have : cond' l b k j = false := by simp [cond', hk, c1, c2]
          simp [b_law_others_1, this, c1, c2, lc, cut_to, cut_from, -List.length_take, -List.length_drop, s1', s2, s3, s4, ai, sc'])
  obtain ⟨z, z', rfl⟩ := i
  rw [rg_len] at e
  exact ⟨z, z', e⟩
theorem others_ok (hl : l.length ≤ 300) (hb : 2 ≤ b ∧ b ≤ 200) (hr : Row b l) : F_law_others [.im (.list (nI l)), .im (.int b)] = .ok (.list (sortL (rows (outer l (cond' l b) b l.length)))) [.im (.list (nI l)), .im (.int b)] := by
  have so := sortOk_rows (outer l (cond' l b) b l.length) (outer_le _ hl hb)
  have s0 : 0 ≤ sizeLine := Nat.zero_le _
  obtain ⟨ρ', e, i⟩ := forM_inv (f := DS.st 3) (b := b_law_others_2) (fun k ρ => ∃ z3 z4 z5, ρ = [.im (.list (nI l)), .im (.int b), .ml (rows (outer l (cond' l b) b k)), z3, z4, z5]) (rgD 0 l.length 1) [.im (.list (nI l)), .im (.int b), .ml [], .un, .un, .un] ⟨_, _, _, rfl⟩ (by
      rintro k d ρ hd ⟨z3, z4, z5, rfl⟩
      obtain ⟨hk, rfl⟩ := rg_get' hd
      have ho := outer_len l (cond' l b) b k
      have hkb : k * b ≤ 300 * 200 := Nat.mul_le_mul (by omega) hb.2
      obtain ⟨z, z', e⟩ := others_in (z4 := z4) (z5 := z5) hk hl hb hr (outer l (cond' l b) b k) (by omega)
      have r1 : inR (b : Int) = true := inR_nat (by omega)
      refine ⟨_, ?_, .im (.int k), z, z', rfl⟩
      rw [forStep_ok rfl, outer_succ]
      simp [b_law_others_2, r1, e])
  obtain ⟨z3, z4, z5, rfl⟩ := i
  rw [rg_len] at e
  have r2 : inR (l.length : Int) = true := inR_nat (by omega)
  simp [F_law_others, runF, m_law_others, s0, r2, e, sortD, so]
end
theorem wsum_set (a k : Nat) (o : Int) : ∀ (l : List Int) (h : k < l.length), wsum a (l.set k o) = wsum a l + ((a : Int) + k + 1) * (o - l[k]) := by
  induction k generalizing a with
  | zero =>
    intro l h
    cases l with
    | nil => cases h
    | cons x l => simp [wsum, Int.mul_sub]; omega
  | succ k ih =>
    intro l h
    cases l with
    | nil => cases h
    | cons x l =>
      have := ih (a + 1) l (by simpa using h)
      simp [wsum, this, Int.add_assoc]
      congr 1
      omega
theorem lack_snoc (i : List Int) (z : Int) : lack (i ++ [z]) = wsum 0 i - z := by simp [lack, lastI]
theorem lack_set {l : List Int} {k : Nat} (o : Int) (h : k < l.length) : lack (l.set k o) = lack l + times l k * (o - l[k]) := by
  have hne : l ≠ [] := by intro e; subst e; cases h
  obtain ⟨i, z, rfl⟩ : ∃ i z, l = i ++ [z] := ⟨l.dropLast, l.getLast hne, (List.dropLast_concat_getLast hne).symm⟩
  simp at h
  by_cases hk : k < i.length
  · have e : (i ++ [z]).set k o = i.set k o ++ [z] := by rw [List.set_append_left _ _ hk]
    have c : k + 1 < (i ++ [z]).length := by simp; omega
    simp only [e, lack_snoc, wsum_set 0 k o i hk, times, if_pos c]
    rw [List.getElem_append_left hk]
    simp
    omega
  · have hk' : k = i.length := by omega
    subst hk'
    have e : (i ++ [z]).set i.length o = i ++ [o] := by simp
    have c : ¬ i.length + 1 < (i ++ [z]).length := by simp
    simp only [e, lack_snoc, times, if_neg c]
    simp
    omega
section
variable {l : List Int} {b : Nat}
theorem shut_set {k o : Nat} (hk : k < l.length) : Shut b (l.set k o) ↔ (far l b + times l k * ((o : Int) - l[k])) % (b : Int) = 0 := by
  unfold Shut far
  rw [lack_set _ hk, Int.emod_add_emod]
  refine ⟨fun h => h.2, fun h => ⟨fun e => ?_, h⟩⟩
  rw [List.set_eq_nil_iff] at e
  subst e
  cases hk
theorem cond_eq {k o : Nat} (hk : k < l.length) : cond l b k o = cond' l b k o := by
  unfold cond cond'
  congr 1
  rw [decide_eq_decide, shut_set hk]
  simp [hk]
theorem outer_eq : outer l (cond l b) b l.length = outer l (cond' l b) b l.length := by
  unfold outer
  rw [List.flatMap_def, List.flatMap_def]
  congr 1
  apply List.map_congr_left
  intro k hk
  have hk : k < l.length := by simpa using hk
  unfold inner
  congr 1
  apply List.filter_congr
  intro o ho
  exact cond_eq hk
theorem mem_outer {m : List Int} {P : Nat → Nat → Bool} {n : Nat} : m ∈ outer l P b n ↔ ∃ k o, k < n ∧ o < b ∧ P k o = true ∧ m = l.set k (o : Int) := by
  simp only [outer, inner, List.mem_flatMap, List.mem_map, List.mem_filter, List.mem_range]
  constructor
  · rintro ⟨k, hk, o, ⟨ho, hp⟩, rfl⟩
    exact ⟨k, o, hk, ho, hp, rfl⟩
  · rintro ⟨k, o, hk, ho, hp, rfl⟩
    exact ⟨k, hk, o, ⟨ho, hp⟩, rfl⟩
end
theorem divisor_wh : ∀ (fuel a c : Nat), c < fuel → whM t_divisor_1 b_divisor_2 fuel [.im (.int a), .im (.int c)] = .ok .nx [.im (.int (Nat.gcd c a)), .im (.int 0)]
  | 0, _, _, h => by omega
  | fuel + 1, a, c, h => by
    unfold whM
    by_cases hc : 0 < c
    · have ih := divisor_wh fuel c (a % c) (by have := Nat.mod_lt a hc; omega)
      have hi : (0 : Int) < c := by omega
      rw [show Nat.gcd (a % c) c = Nat.gcd c a from (Nat.gcd_rec c a).symm] at ih
      simp [t_divisor_1, b_divisor_2, hc]
      rw [show ((a : Int) % (c : Int)) = ((a % c : Nat) : Int) by omega]
      exact ih
    · have : c = 0 := by omega
      subst this
      simp [t_divisor_1]
theorem divisor_ok {a c : Nat} (h : c < 1000) : F_divisor [.im (.int a), .im (.int c)] = .ok (.int (Nat.gcd c a)) [.im (.int (Nat.gcd c a)), .im (.int 0)] := by
  have := divisor_wh 100000 a c (by omega)
  simp [F_divisor, runF, m_divisor, this]
/-- the places where a mistake may go unseen -/
def uns (b m : Nat) : List Nat := (List.range m).filter fun i => decide (1 < Nat.gcd (i + 1) b)
def nN (l : List Nat) : List Int := l.map fun (i : Nat) => (i : Int)
theorem unseen_ok {b m : Nat} (hb : 2 ≤ b ∧ b ≤ 200) (hm : m ≤ 300) : F_unseen [.im (.int b), .im (.int m)] = .ok (.list (nI (nN (uns b m)))) [.im (.int b), .im (.int m)] := by
  have e1 := look_ok (base := b) (l := []) (by omega) (fun x hx => by cases hx) (by simp)
  rw [nI_nil] at e1
  have r1 : inR (m : Int) = true := inR_nat (by omega)
  have s0 : 0 ≤ sizeLine := Nat.zero_le _
  have e2 : (rgD 0 m 1).filterMap (fun d => if 1 < Nat.gcd ((iO d).toNat + 1) b then some d else none) = nI (nN (uns b m)) := by
    unfold nI nN uns
    rw [rg_nat, List.filterMap_map, List.map_map]
    induction List.range m with
    | nil => rfl
    | cons i is ih => by_cases c : 1 < Nat.gcd (i + 1) b <;> simp [c, ih]
  have e3 : ¬ (300 : Int) < m := by omega
  have e4 : (m : Int) ≤ 300 := by omega
  simp [F_unseen, runF, m_unseen, s0, e1, is_number_int, e4, r1]
  rw [lcA_pure (fun d => if 1 < Nat.gcd ((iO d).toNat + 1) b then some d else none) (by simp only [sizeLine]; simp; omega) fun d hd ρ1 h1 => ?_]
  · simp [e2]
  · obtain ⟨i, hi⟩ := List.mem_iff_getElem?.mp hd
    obtain ⟨hi, rfl⟩ := rg_get' hi
    have dv := divisor_ok (a := b) (c := i + 1) (by omega)
    rw [show ((i + 1 : Nat) : Int) = (i : Int) + 1 by omega] at dv
    by_cases c : 1 < Nat.gcd (i + 1) b
    · have c' : (1 : Int) < ((Nat.gcd (i + 1) b : Nat) : Int) := by omega
      exact lcP_t (y := .int i) h1 rfl rfl (by simp [c]) (by simp [t_unseen_1, dv, c']) (by simp [e_unseen_2])
    · have c' : ¬ (1 : Int) < ((Nat.gcd (i + 1) b : Nat) : Int) := by omega
      exact lcP_f h1 rfl rfl (by simp [c]) (by simp [t_unseen_1, dv]; omega)
theorem whole_ok (i : Int) : F_law_whole [.im (.int i)] = .ok (.bool true) [.im (.int i)] := by simp [F_law_whole, runF, m_law_whole]
theorem wholes_ok {l : List Int} (hl : l.length ≤ 1000) : F_law_wholes [.im (.list (nI l))] = .ok (.bool true) [.im (.list (nI l))] := by
  simp [F_law_wholes, runF, m_law_wholes]
  have s0 : 0 ≤ sizeLine := Nat.zero_le _
  have e0 : eqD (.list []) (.list []) = some (.bool true) := rfl
  rw [lcA_pure (fun d => none) (by simp only [sizeLine]; simp; omega) fun d hd ρ1 h1 => ?_]
  · simp [s0, e0]
  · obtain ⟨i, hi, rfl⟩ := nI_mem hd
    exact lcP_f h1 rfl rfl rfl (by simp [t_law_wholes_1, whole_ok])
theorem symbols_ok {ns : List Int} {B : Nat} {t : List D} {many long : Nat} (ht : Tw ns B t) (hB : B + long < 2 ^ 59) (hm : 0 < many ∧ many < 2 ^ 28) (hl : long ≤ 1000) :
    ∃ (l : List Int) (t' : List D), l.length ≤ long ∧ Row many l ∧ Tw ns (B + 1 + long) t' ∧ F_law_symbols [.im (.list (nI ns)), .ml t, .im (.int many), .im (.int long)] = .ok (.list (nI l)) [.im (.list (nI ns)), .ml t', .im (.int many), .im (.int long)] := by
  obtain ⟨d, t1, d0, d1, ht1, e1⟩ := draw_ok (many := (long : Int) + 1) ht (by omega) (by omega) (by omega)
  obtain ⟨k, rfl⟩ : ∃ k : Nat, d = (k : Int) := ⟨d.toNat, by omega⟩
  obtain ⟨acc, ρ', e2, l, t2, rfl, hρ, hk, hr, ht2⟩ := lcA_inv (vs := [4]) (f := DS.st 4) (t := ret true) (el := e_law_symbols_1) (fun acc j ρ => ∃ l t2, acc = nI l ∧ wpR ρ [4] = [.im (.list (nI ns)), .ml t2, .im (.int many), .im (.int long), .un] ∧ l.length = j ∧ Row many l ∧ Tw ns (B + 1 + min j k) t2) (rgD 0 k 1) [.im (.list (nI ns)), .ml t1, .im (.int many), .im (.int long), .un] (by simp only [sizeLine]; simp; omega) ⟨[], t1, rfl, rfl, rfl, fun x hx => (by cases hx), ht1.mono (by omega)⟩ (by
      rintro j d acc ρ hd ⟨l, t2, rfl, hρ, hj, hr, ht2⟩
      obtain ⟨hjk, rfl⟩ := rg_get' hd
      obtain ⟨x, t3, x0, x1, ht3, e3⟩ := draw_ok (many := (many : Int)) ht2 (by omega) (by omega) (by omega)
      refine ⟨some (.int x), [.im (.list (nI ns)), .ml t3, .im (.int many), .im (.int long), .im (.int j)], lcStep_t hρ rfl rfl (by simp [e_law_symbols_1, e3]), l ++ [x], t3, by rw [nI_append]; rfl, rfl, by simp [hj], fun y hy => ?_, ht3.mono (by omega)⟩
      rcases List.mem_append.mp hy with h | h
      · exact hr y h
      · rw [List.mem_singleton.mp h]; exact ⟨x0, x1⟩)
  rw [hρ] at e2
  have r1 : inR (k : Int) = true := inR_nat (by omega)
  refine ⟨l, t2, by rw [hk, rg_len]; omega, hr, ht2.mono (by omega), ?_⟩
  simp [F_law_symbols, runF, m_law_symbols, e1, r1, e2]
/-- number theory -/
theorem nt_no {b k : Nat} {x o : Int} (hb : 0 < b) (hx : 0 ≤ x ∧ x < b) (ho : 0 ≤ o ∧ o < b) (g : Nat.gcd (k + 1) b ≤ 1) (h : (((k : Int) + 1) * (o - x)) % (b : Int) = 0) : o = x := by
  have g1 : Nat.gcd b (k + 1) = 1 := by
    rw [Nat.gcd_comm]
    have := Nat.gcd_pos_of_pos_right (k + 1) hb
    omega
  have d : (b : Int) ∣ ((k : Int) + 1) * (o - x) := Int.dvd_of_emod_eq_zero h
  have d2 : b ∣ (k + 1) * (o - x).natAbs := by
    have := Int.natAbs_dvd_natAbs.mpr d
    rw [Int.natAbs_mul] at this
    simpa [show ((k : Int) + 1).natAbs = k + 1 by omega] using this
  have d3 : b ∣ (o - x).natAbs := Nat.Coprime.dvd_of_dvd_mul_left g1 d2
  have l : (o - x).natAbs < b := by omega
  have z := Nat.eq_zero_of_dvd_of_lt d3 l
  omega
theorem nt_last {b : Nat} {x o : Int} (hb : 0 < b) (hx : 0 ≤ x ∧ x < b) (ho : 0 ≤ o ∧ o < b) (h : (-1 * (o - x)) % (b : Int) = 0) : o = x := by
  have d : (b : Int) ∣ -1 * (o - x) := Int.dvd_of_emod_eq_zero h
  have d3 : b ∣ (o - x).natAbs := by
    have := Int.natAbs_dvd_natAbs.mpr d
    rw [Int.natAbs_mul] at this
    simpa using this
  have l : (o - x).natAbs < b := by omega
  have z := Nat.eq_zero_of_dvd_of_lt d3 l
  omega
theorem nt_yes {b k : Nat} {x : Int} (hb : 0 < b) (hx : 0 ≤ x ∧ x < b) (g : 1 < Nat.gcd (k + 1) b) : ∃ o : Nat, o < b ∧ (o : Int) ≠ x ∧ (((k : Int) + 1) * ((o : Int) - x)) % (b : Int) = 0 := by
  obtain ⟨c, hc⟩ := Nat.gcd_dvd_right (k + 1) b
  obtain ⟨e, he⟩ := Nat.gcd_dvd_left (k + 1) b
  generalize Nat.gcd (k + 1) b = y at *
  have c0 : 0 < c := by
    rcases Nat.eq_zero_or_pos c with h | h
    · subst h; omega
    · exact h
  have cb : c < b := by
    have : 2 * c ≤ y * c := Nat.mul_le_mul_right c g
    omega
  have key : ((k : Int) + 1) * (c : Int) = (b : Int) * (e : Int) := by
    have : (k + 1) * c = b * e := by rw [he, hc, Nat.mul_assoc, Nat.mul_assoc, Nat.mul_comm e c]
    exact_mod_cast this
  by_cases hw : x + c < b
  · refine ⟨(x + c).toNat, by omega, by omega, ?_⟩
    rw [show (((x + c).toNat : Nat) : Int) - x = c by omega, key]
    exact Int.mul_emod_right _ _
  · refine ⟨(x + c - b).toNat, by omega, by omega, ?_⟩
    rw [show (((x + c - b).toNat : Nat) : Int) - x = c - b by omega, Int.mul_sub, key, Int.mul_comm ((k : Int) + 1) (b : Int), ← Int.mul_sub]
    exact Int.mul_emod_right _ _
def seen (l m : List Int) (k : Nat) : Bool := decide (m[k]?.getD 0 ≠ l[k]?.getD 0)
section
variable {l : List Int} {b : Nat} {ls : List (List Int)}
theorem told_len (hm : ∀ m, m ∈ ls ↔ m ∈ outer l (cond' l b) b l.length) : ∀ m ∈ ls, m.length = l.length := fun m h => by
  obtain ⟨k, o, hk, ho, hp, rfl⟩ := mem_outer.mp ((hm m).mp h)
  simp
theorem told_row (hr : Row b l) (hm : ∀ m, m ∈ ls ↔ m ∈ outer l (cond' l b) b l.length) : ∀ m ∈ ls, Row b m ∧ Shut b m := fun m h => by
  obtain ⟨k, o, hk, ho, hp, rfl⟩ := mem_outer.mp ((hm m).mp h)
  refine ⟨row_set hr ho, ?_⟩
  simp only [cond', Bool.and_eq_true, decide_eq_true_eq] at hp
  exact hp.2
theorem told_seen (hb : 0 < b) (hr : Row b l) (hs : Shut b l) (hm : ∀ m, m ∈ ls ↔ m ∈ outer l (cond' l b) b l.length) {k : Nat} (hk : k + 1 < l.length) : (ls.filter fun m => seen l m k) ≠ [] ↔ 1 < Nat.gcd (k + 1) b := by
  have hk' : k < l.length := by omega
  have hf : far l b = 0 := hs.2
  have ht : times l k = (k : Int) + 1 := by simp [times, hk]
  have hx := hr _ (List.getElem_mem hk')
  constructor
  · intro h
    obtain ⟨m, h⟩ := List.exists_mem_of_ne_nil _ h
    rw [List.mem_filter] at h
    obtain ⟨j, o, hj, ho, hp, rfl⟩ := mem_outer.mp ((hm m).mp h.1)
    have h2 := h.2
    simp only [seen, decide_eq_true_eq] at h2
    have hjk : j = k := by
      apply Classical.byContradiction
      intro hne
      exact h2 (by rw [List.getElem?_set_ne hne])
    subst hjk
    simp only [cond', Bool.and_eq_true, decide_eq_true_eq] at hp
    have h3 := (shut_set hk').mp hp.2
    rw [hf, ht, Int.zero_add] at h3
    apply Classical.byContradiction
    intro g
    have := nt_no hb hx (by omega) (by omega) h3
    apply hp.1
    simp [hk', this]
  · intro g
    obtain ⟨o, ho, hne, h⟩ := nt_yes hb hx g
    have h3 : Shut b (l.set k o) := (shut_set hk').mpr (by rw [hf, ht, Int.zero_add]; exact h)
    refine List.ne_nil_of_mem (a := l.set k o) (List.mem_filter.mpr ⟨(hm _).mpr (mem_outer.mpr ⟨k, o, hk', ho, ?_, rfl⟩), ?_⟩)
    · simp [cond', h3, hk', hne]
    · simp [seen, hk', hne]
theorem told_last (hb : 0 < b) (hr : Row b l) (hs : Shut b l) (hm : ∀ m, m ∈ ls ↔ m ∈ outer l (cond' l b) b l.length) : ∀ m ∈ ls, lastI m = lastI l := fun m h => by
  obtain ⟨j, o, hj, ho, hp, rfl⟩ := mem_outer.mp ((hm m).mp h)
  have hf : far l b = 0 := hs.2
  have hx := hr _ (List.getElem_mem hj)
  unfold lastI
  rw [List.getLast?_eq_getElem?, List.getLast?_eq_getElem?, List.length_set]
  by_cases hk : j + 1 < l.length
  · rw [List.getElem?_set_ne (by omega)]
  · exfalso
    simp only [cond', Bool.and_eq_true, decide_eq_true_eq] at hp
    have h3 := (shut_set hj).mp hp.2
    have ht : times l j = -1 := by simp [times, hk]
    rw [hf, ht, Int.zero_add] at h3
    have := nt_last hb hx (by omega) h3
    apply hp.1
    simp [hj, this]
end
def primes : List Nat := [2, 3, 5, 7, 11, 13, 17, 19, 23, 29, 31, 37, 101, 199]
theorem primes_ok : ∀ p ∈ primes, 2 ≤ p ∧ p ≤ 200 ∧ uns p (p - 1) = [] ∧ uns p p = [p - 1] := by decide +kernel
theorem uns_cut {b m : Nat} (h : m ≤ 60) : (uns b 60).filter (fun i => decide (i < m)) = uns b m := by
  unfold uns
  rw [show (60 : Nat) = m + (60 - m) by omega, List.range_add, List.filter_append, List.filter_append]
  have e1 : List.filter (fun i => decide (i < m)) (List.filter (fun i => decide (1 < Nat.gcd (i + 1) b)) (List.range m)) = List.filter (fun i => decide (1 < Nat.gcd (i + 1) b)) (List.range m) := by
    apply List.filter_eq_self.mpr
    intro i hi
    have := (List.mem_filter.mp hi).1
    simpa using this
  rw [e1]
  have e2 : List.filter (fun i => decide (i < m)) (List.filter (fun i => decide (1 < Nat.gcd (i + 1) b)) (List.map (fun x => m + x) (List.range (60 - m)))) = [] := by
    apply List.filter_eq_nil_iff.mpr
    intro i hi
    have := (List.mem_filter.mp hi).1
    obtain ⟨x, _, rfl⟩ := List.mem_map.mp this
    simp
  rw [e2, List.append_nil]
theorem neD_rows (a b : List (List Int)) : neD (.list (rows a)) (.list (rows b)) = some (.bool (!decide (a = b))) := neD_tD a b
theorem neD_rows_nil (a : List (List Int)) : neD (.list (rows a)) (.list []) = some (.bool (!a.isEmpty)) := by
  rw [neD_nil _ (noObj_rows a)]
  cases a <;> rfl
theorem rows_get {ls : List (List Int)} {k : Nat} {d : D} (h : (rows ls)[k]? = some d) : ∃ m ∈ ls, d = .list (nI m) := by
  unfold rows at h
  rw [List.getElem?_map] at h
  obtain ⟨m, hm, rfl⟩ := Option.map_eq_some_iff.mp h
  exact ⟨m, List.mem_of_getElem? hm, rfl⟩
def asRow : D → List Int
  | .list ds => ds.map iO
  | _ => []
@[simp] theorem asRow_nI (m : List Int) : asRow (.list (nI m)) = m := by simp [asRow, nI, Function.comp_def]
theorem rows_fm (P : List Int → Bool) (ls : List (List Int)) : (rows ls).filterMap (fun d => if P (asRow d) = true then some d else none) = rows (ls.filter P) := by
  induction ls with
  | nil => rfl
  | cons m ls ih =>
    show (PyData.list (nI m) :: rows ls).filterMap _ = _
    rw [List.filterMap_cons, asRow_nI, ih]
    by_cases c : P m = true <;> simp [c, rows]
section
variable {ns l : List Int} {b : Nat} {ls : List (List Int)} {t : List D} {z4 z6 z7 z8 z9 z10 : Sl}
theorem told_fil {k : Nat} (hn : ls.length ≤ sizeLine) (hk : k < l.length) (hl : ∀ m ∈ ls, m.length = l.length) : lcA [6] (DS.st 6) t_law_2 e_law_3 [] (rows ls) [.im (.list (nI ns)), .ml t, .im (.int b), .im (.list (nI l)), z4, .im (.list (rows ls)), z6, z7, z8, z9, .im (.int k)]
    = .ok (rows (ls.filter fun m => seen l m k)) [.im (.list (nI ns)), .ml t, .im (.int b), .im (.list (nI l)), z4, .im (.list (rows ls)), .un, z7, z8, z9, .im (.int k)] := by
  rw [lcA_pure (fun d => if seen l (asRow d) k = true then some d else none) (by simpa using hn) fun d hd ρ1 h1 => ?_]
  · rw [rows_fm (fun m => seen l m k)]
    rfl
  · obtain ⟨i, hi⟩ := List.mem_iff_getElem?.mp hd
    obtain ⟨m, hm, rfl⟩ := rows_get hi
    have e1 := atI_int hk
    have hk2 : k < m.length := by rw [hl m hm]; exact hk
    have e2 := atI_int hk2
    by_cases c : m[k] = l[k]
    · exact lcP_f h1 rfl rfl (by simp [seen, hk, hk2, c]) (by simp [t_law_2, e1, e2, c])
    · exact lcP_t (y := .list (nI m)) h1 rfl rfl (by simp [seen, hk, hk2, c]) (by simp [t_law_2, e1, e2, c]) (by simp [e_law_3])
theorem told_fil_last (hn : ls.length ≤ sizeLine) (hne : l ≠ []) (hl : ∀ m ∈ ls, m.length = l.length) (hs : ∀ m ∈ ls, lastI m = lastI l) : lcA [6] (DS.st 6) t_law_6 e_law_3 [] (rows ls) [.im (.list (nI ns)), .ml t, .im (.int b), .im (.list (nI l)), z4, .im (.list (rows ls)), z6, z7, z8, z9, z10]
    = .ok [] [.im (.list (nI ns)), .ml t, .im (.int b), .im (.list (nI l)), z4, .im (.list (rows ls)), .un, z7, z8, z9, z10] := by
  rw [lcA_pure (fun d => none) (by simpa using hn) fun d hd ρ1 h1 => ?_]
  · simp
  · obtain ⟨i, hi⟩ := List.mem_iff_getElem?.mp hd
    obtain ⟨m, hm, rfl⟩ := rows_get hi
    have hne2 : m ≠ [] := by
      intro e
      subst e
      have := hl _ hm
      exact hne (List.length_eq_zero_iff.mp this.symm)
    exact lcP_f h1 rfl rfl rfl (by simp [t_law_6, atI_last hne, atI_last hne2, hs m hm])
theorem uns_succ (b k : Nat) : uns b (k + 1) = uns b k ++ if 1 < Nat.gcd (k + 1) b then [k] else [] := by
  unfold uns
  rw [List.range_succ, List.filter_append]
  congr 1
  by_cases c : 1 < Nat.gcd (k + 1) b <;> simp [c]
theorem some_fil (hn : ls.length ≤ sizeLine) (hb : 0 < b) (hl : l.length ≤ 300) (hr : Row b l) (hs : Shut b l) (hm : ∀ m, m ∈ ls ↔ m ∈ outer l (cond' l b) b l.length) : ∃ z, lcA [10] (DS.st 10) t_law_4 e_law_5 [] (rgD 0 (l.length - 1) 1) [.im (.list (nI ns)), .ml t, .im (.int b), .im (.list (nI l)), z4, .im (.list (rows ls)), z6, z7, z8, z9, z10]
    = .ok (nI (nN (uns b (l.length - 1)))) [.im (.list (nI ns)), .ml t, .im (.int b), .im (.list (nI l)), z4, .im (.list (rows ls)), z, z7, z8, z9, .un] := by
  have s0 : 0 ≤ sizeLine := Nat.zero_le _
  obtain ⟨acc, ρ', e, rfl, z, hz⟩ := lcA_inv (vs := [10]) (f := DS.st 10) (t := t_law_4) (el := e_law_5) (fun acc k ρ => acc = nI (nN (uns b k)) ∧ ∃ z, wpR ρ [10] = [.im (.list (nI ns)), .ml t, .im (.int b), .im (.list (nI l)), z4, .im (.list (rows ls)), z, z7, z8, z9, .un]) (rgD 0 (l.length - 1) 1) [.im (.list (nI ns)), .ml t, .im (.int b), .im (.list (nI l)), z4, .im (.list (rows ls)), z6, z7, z8, z9, z10] (by simp only [sizeLine]; simp; omega) ⟨rfl, z6, rfl⟩ (by
      rintro i d acc ρ hi ⟨rfl, z, h1⟩
      obtain ⟨hi, rfl⟩ := rg_get' hi
      have hk : i + 1 < l.length := by omega
      have e1 := told_fil (ns := ns) (b := b) (t := t) (z4 := z4) (z6 := z) (z7 := z7) (z8 := z8) (z9 := z9) hn (by omega : i < l.length) (told_len hm)
      have e3 := told_seen hb hr hs hm hk
      have e4 := neD_rows_nil (ls.filter fun m => seen l m i)
      by_cases c : 1 < Nat.gcd (i + 1) b
      · have e5 : (ls.filter fun m => seen l m i).isEmpty = false := by simpa using e3.mpr c
        rw [e5] at e4
        refine ⟨some (.int i), [.im (.list (nI ns)), .ml t, .im (.int b), .im (.list (nI l)), z4, .im (.list (rows ls)), .un, z7, z8, z9, .im (.int i)], lcStep_t (ρ2 := [.im (.list (nI ns)), .ml t, .im (.int b), .im (.list (nI l)), z4, .im (.list (rows ls)), .un, z7, z8, z9, .im (.int i)]) h1 rfl (by simp [t_law_4, e1, e4, s0]) (by simp [e_law_5]), ?_, .un, rfl⟩
        rw [uns_succ, if_pos c]
        simp [nI, nN]
      · have e5 : (ls.filter fun m => seen l m i).isEmpty = true := by
          cases hh : (ls.filter fun m => seen l m i) with
          | nil => rfl
          | cons _ _ => exact absurd (e3.mp (by rw [hh]; simp)) c
        rw [e5] at e4
        refine ⟨none, [.im (.list (nI ns)), .ml t, .im (.int b), .im (.list (nI l)), z4, .im (.list (rows ls)), .un, z7, z8, z9, .im (.int i)], lcStep_f h1 rfl (by simp [t_law_4, e1, e4, s0]), ?_, .un, rfl⟩
        rw [uns_succ, if_neg c]
        simp [nI, nN])
  rw [rg_len, hz] at e
  exact ⟨z, e⟩
theorem cut_fil (hl : l.length ≤ 61) : lcA [10] (DS.st 10) t_law_7 e_law_5 [] (nI (nN (uns b 60))) [.im (.list (nI ns)), .ml t, .im (.int b), .im (.list (nI l)), z4, .im (.list (rows ls)), z6, z7, z8, z9, z10]
    = .ok (nI (nN (uns b (l.length - 1)))) [.im (.list (nI ns)), .ml t, .im (.int b), .im (.list (nI l)), z4, .im (.list (rows ls)), z6, z7, z8, z9, .un] := by
  have e2 : ∀ is : List Nat, (nI (nN is)).filterMap (fun d => if (iO d).toNat < l.length - 1 then some d else none) = nI (nN (is.filter fun i => decide (i < l.length - 1))) := by
    intro is
    unfold nI nN
    induction is with
    | nil => rfl
    | cons i is ih => by_cases c : i < l.length - 1 <;> simp [c] <;> simpa using ih
  have hlen : (uns b 60).length ≤ 60 := by unfold uns; exact Nat.le_trans (List.length_filter_le _ _) (by simp)
  rw [lcA_pure (fun d => if (iO d).toNat < l.length - 1 then some d else none) (by simp only [sizeLine]; simp [nN]; omega) fun d hd ρ1 h1 => ?_]
  · rw [e2, uns_cut (by omega)]; rfl
  · obtain ⟨x, hx, rfl⟩ := nI_mem hd
    obtain ⟨i, hi, rfl⟩ := List.mem_map.mp hx
    by_cases c : i < l.length - 1
    · exact lcP_t (y := .int i) h1 rfl rfl (by simp [c]) (by simp [t_law_7]; omega) (by simp [e_law_5])
    · exact lcP_f h1 rfl rfl (by simp [c]) (by simp [t_law_7]; omega)
end
section
variable {ns l : List Int} {b B : Nat} {ls : List (List Int)} {t : List D} {z4 z6 : Sl}
theorem uns_len (b m : Nat) : (uns b m).length ≤ m := by unfold uns; exact Nat.le_trans (List.length_filter_le _ _) (by simp)
theorem last_ok (ht : Tw ns B t) (hB : B < 2 ^ 50) (hn : ls.length ≤ sizeLine) (hb : 2 ≤ b ∧ b ≤ 41) (hl : l.length ≤ 13) (hr : Row b l) (hm : ∀ m, m ∈ ls ↔ m ∈ outer l (cond' l b) b l.length) :
    ∃ r, r_law_8 [.im (.list (nI ns)), .ml t, .im (.int b), .im (.list (nI l)), z4, .im (.list (rows ls)), z6, .un, .un, .un, .un] = .ok (.rt (.bool true)) r := by
  have e1 := unseen_ok (b := b) (m := l.length - 1) (by omega) (by omega)
  have e2 : max2D (.int 0) (.int ((l.length : Int) - 1)) = some (.int ((l.length - 1 : Nat) : Int)) := by
    rw [max2D_int]
    congr 2
    split <;> omega
  have hu := uns_len b (l.length - 1)
  have e3 := wholes_ok (l := nN (uns b (l.length - 1))) (by simp [nN]; omega)
  have e4 := law_closed_ok (base := b) (l := l) (by omega) hr (by omega)
  obtain ⟨x, t', hx, ht', e5⟩ := pick_ok (ds := nI (nN primes)) ht (by omega) (by decide) (by decide)
  obtain ⟨y, hy, rfl⟩ := nI_mem hx
  obtain ⟨p, hp, rfl⟩ := List.mem_map.mp hy
  obtain ⟨p2, p200, p3, p4⟩ := primes_ok p hp
  have e7 := unseen_ok (b := p) (m := p - 1) (by omega) (by omega)
  have e8 := unseen_ok (b := p) (m := p) (by omega) (by omega)
  have e9 : F_unseen [.im (.int b), .im (.int 0)] = .ok (.list (nI (nN (uns b 0)))) [.im (.int b), .im (.int 0)] := unseen_ok (b := b) (m := 0) (by omega) (by omega)
  have e10 : F_unseen [.im (.int b), .im (.int 60)] = .ok (.list (nI (nN (uns b 60)))) [.im (.int b), .im (.int 60)] := unseen_ok (b := b) (m := 60) (by omega) (by omega)
  rw [p3] at e7
  rw [p4] at e8
  rw [show ((p - 1 : Nat) : Int) = (p : Int) - 1 by omega] at e7
  have n1 : neD (.list (nI (nN []))) (.list []) = some (.bool false) := rfl
  have n2 : eqD (.list (nI (nN (uns b 0)))) (.list []) = some (.bool true) := rfl
  have n3 : neD (.list (nI (nN [p - 1]))) (.list [.int ((p : Int) - 1)]) = some (.bool false) := by
    rw [show [PyData.int ((p : Int) - 1)] = nI (nN [p - 1]) by simp [nI, nN]; omega, neD_nI]
    simp
  have n4 := eqD_nI (nN (uns b (l.length - 1))) (nN (uns b (l.length - 1)))
  have n5 := neD_nI (nN (uns b (l.length - 1))) (nN (uns b (l.length - 1)))
  have n6 : neD (.list []) (.list []) = some (.bool false) := rfl
  rw [decide_eq_true rfl] at n4 n5
  have s0 : 0 ≤ sizeLine := Nat.zero_le _
  have s1 : 1 ≤ sizeLine := by simp only [sizeLine]; omega
  have s14 : 14 ≤ sizeLine := by simp only [sizeLine]; omega
  have hp : (nI (nN primes)) = [.int 2, .int 3, .int 5, .int 7, .int 11, .int 13, .int 17, .int 19, .int 23, .int 29, .int 31, .int 37, .int 101, .int 199] := rfl
  rw [hp] at e5
  have c7 : ∀ (t : List D) (z4 z6 z7 z8 z9 z10 : Sl), _ := fun t z4 z6 z7 z8 z9 z10 => cut_fil (ns := ns) (l := l) (b := b) (ls := ls) (t := t) (z4 := z4) (z6 := z6) (z7 := z7) (z8 := z8) (z9 := z9) (z10 := z10) (by omega)
  by_cases hs : Shut b l
  · have hne := hs.1
    have hpos : 0 < l.length := List.length_pos_iff.mpr hne
    have hc : ((l.length : Int) - 1) = ((l.length - 1 : Nat) : Int) := by omega
    have r1 : inR ((l.length : Int) - 1) = true := by rw [hc]; exact inR_nat (by omega)
    have ct : ((l.length : Int) - 1).toNat = l.length - 1 := by omega
    obtain ⟨z, f1⟩ := some_fil (ns := ns) (t := t) (z4 := z4) (z6 := z6) (z7 := .im (.list (nI (nN (uns b (l.length - 1)))))) (z8 := .un) (z9 := .un) (z10 := .un) hn (by omega) (by omega) hr hs hm
    have f2 : ∀ (t : List D) (z4 z6 z7 z8 z9 z10 : Sl), _ := fun t z4 z6 z7 z8 z9 z10 => told_fil_last (ns := ns) (b := b) (t := t) (z4 := z4) (z6 := z6) (z7 := z7) (z8 := z8) (z9 := z9) (z10 := z10) hn hne (told_len hm) (told_last (by omega) hr hs hm)
    refine ⟨[.im (.list (nI ns)), .ml t', .im (.int b), .im (.list (nI l)), z4, .im (.list (rows ls)), .un, .im (.list (nI (nN (uns b (l.length - 1))))), .im (.list (nI (nN (uns b (l.length - 1))))), .im (.int p), .un], ?_⟩
    · simp [r_law_8, -max2D_int, e2, e1, e3, e4, hs, r1, ct, f1, f2, e5, e7, e8, e9, e10, n1, n2, n3, n4, n5, n6, s0, s1, s14, c7]
  · refine ⟨[.im (.list (nI ns)), .ml t', .im (.int b), .im (.list (nI l)), z4, .im (.list (rows ls)), z6, .im (.list (nI (nN (uns b (l.length - 1))))), .un, .im (.int p), .un], ?_⟩
    · simp [r_law_8, -max2D_int, e2, e1, e3, e4, hs, e5, e7, e8, e9, e10, n1, n2, n3, n4, n5, n6, s0, s1, s14, c7]
end
section
variable {ns l : List Int} {b B : Nat} {t : List D}
theorem rest_ok (ht : Tw ns B t) (hB : B < 2 ^ 50) (hb : 2 ≤ b ∧ b ≤ 41) (hl : l.length ≤ 13) (hr : Row b l) :
    ∃ r, r_law_9 [.im (.list (nI ns)), .ml t, .im (.int b), .im (.list (nI l)), .un, .un, .un, .un, .un, .un, .un] = .ok (.rt (.bool true)) r := by
  have e1 := mended_ok (l := l) (b := b) (by omega) (by omega) hr
  have e2 := others_ok (l := l) (b := b) (by omega) (by omega) hr
  rw [outer_eq] at e1
  obtain ⟨ls, e3, hm⟩ := sort_rows (outer l (cond' l b) b l.length)
  rw [e3] at e1 e2
  have hn : ls.length ≤ sizeLine := by
    have h1 : (sortL (rows (outer l (cond' l b) b l.length))).length = (rows ls).length := by rw [e3]
    have h2 : (sortL (rows (outer l (cond' l b) b l.length))).length = (rows (outer l (cond' l b) b l.length)).length := (List.mergeSort_perm _ _).length_eq
    rw [h2, rows_length, rows_length] at h1
    rw [← h1]
    exact outer_le _ (by omega) (by omega)
  have n1 := neD_rows ls ls
  have n2 := neD_nI l l
  rw [decide_eq_true rfl] at n1 n2
  obtain ⟨ρ', e4, z6, rfl⟩ := forM_inv (f := DS.st 6) (b := b_law_1) (fun k ρ => ∃ z6, ρ = [.im (.list (nI ns)), .ml t, .im (.int b), .im (.list (nI l)), .im (.list (nI l)), .im (.list (rows ls)), z6, .un, .un, .un, .un]) (rows ls) [.im (.list (nI ns)), .ml t, .im (.int b), .im (.list (nI l)), .im (.list (nI l)), .im (.list (rows ls)), .un, .un, .un, .un, .un] ⟨_, rfl⟩ (by
      rintro k d ρ hd ⟨z6, rfl⟩
      obtain ⟨m, hmem, rfl⟩ := rows_get hd
      have hlen := told_len hm m hmem
      obtain ⟨hrow, hshut⟩ := told_row hr hm m hmem
      have w1 := wholes_ok (l := m) (by omega)
      have w2 := closed_ok (base := b) (l := m) (by omega) hrow (by omega)
      refine ⟨_, ?_, .im (.list (nI m)), rfl⟩
      rw [forStep_ok rfl]
      simp [b_law_1, w1, w2, hshut])
  obtain ⟨r, e5⟩ := last_ok (z4 := .im (.list (nI l))) (z6 := z6) ht hB hn hb hl hr hm
  exact ⟨r, by simp [r_law_9, e1, e2, n1, n2, e4, e5]⟩
end
theorem law_true : ∀ ns : List Int, ns.length ≤ 63 → ∃ r, F_law [.im (.list (ns.map .int))] = .ok (.bool true) r := by
  intro ns hl
  show ∃ r, F_law [.im (.list (nI ns))] = .ok (.bool true) r
  have e1 := town_ok ns hl
  obtain ⟨d, t1, d0, d1, ht1, e2⟩ := draw_ok (many := 39) (town_tw ns) (by omega) (by omega) (by omega)
  obtain ⟨c, rfl⟩ : ∃ c : Nat, d = (c : Int) := ⟨d.toNat, by omega⟩
  have hb : (2 : Int) + (c : Int) = ((2 + c : Nat) : Int) := by omega
  obtain ⟨l, t2, hll, hr, ht2, e3⟩ := symbols_ok (many := 2 + c) (long := 12) ht1 (by omega) (by omega) (by omega)
  obtain ⟨x, t3, x0, x1, ht3, e4⟩ := draw_ok (many := 2) ht2 (by omega) (by omega) (by omega)
  have e3 : F_law_symbols [.im (.list (nI ns)), .ml t1, .im (.int ((2 + c : Nat) : Int)), .im (.int 12)] = .ok (.list (nI l)) [.im (.list (nI ns)), .ml t2, .im (.int ((2 + c : Nat) : Int)), .im (.int 12)] := e3
  generalize 2 + c = b at *
  by_cases hx : x = 0
  · subst hx
    have e5 := check_ok (base := b) (l := l) (by omega) hr (by omega)
    have s1 : 1 ≤ sizeLine := by simp only [sizeLine]; omega
    have s2 : l.length + 1 ≤ sizeLine := by simp only [sizeLine]; omega
    have hw : Row b (l ++ [wsum 0 l % (b : Int)]) := fun y hy => by
      rcases List.mem_append.mp hy with h | h
      · exact hr y h
      · rw [List.mem_singleton.mp h]
        exact ⟨Int.emod_nonneg _ (by omega), Int.emod_lt_of_pos _ (by omega)⟩
    obtain ⟨r, e6⟩ := rest_ok (l := l ++ [wsum 0 l % (b : Int)]) ht3 (by omega) (by omega) (by simp; omega) hw
    rw [nI_append, nI_cons, nI_nil] at e6
    exact ⟨r.take 1, by simp [F_law, runF, m_law, e1, e2, hb, e3, e4, e5, s1, s2, e6]⟩
  · obtain ⟨r, e6⟩ := rest_ok (l := l) ht3 (by omega) (by omega) (by omega) hr
    exact ⟨r.take 1, by simp [F_law, runF, m_law, e1, e2, hb, e3, e4, hx, e6]⟩
end
theorem all_mk {l : PySem.W.OpenLaw} {w : World} {K : PySem.W.Frag} {h : Heap} {mg : Str → Option Value} {fa f1 f2 f3 f4 f5 f6 f7 f8 f9 f10 f11 f12 f13 f14 f15 f16 f17 f18 f19 : Addr} (X : K.In h) (G : h.Ns mainGlobals mg) (hfa : mg "law" = some (.ref fa))
    {od1 an1 od2 an2 od3 an3 od4 an4 od5 an5 od6 an6 od7 an7 od8 an8 od9 an9 od10 an10 od11 an11 od12 an12 od13 an13 od14 an14 od15 an15 od16 an16 od17 an17 od18 an18 od19 an19 : Option Addr} {sl1 sl2 sl3 sl4 sl5 sl6 sl7 sl8 sl9 sl10 sl11 sl12 sl13 sl14 sl15 sl16 sl17 sl18 sl19 : Array (Option Value)} {oc1 kV1 dc1 pm1 cd1 ct1 oc2 kV2 dc2 pm2 cd2 ct2 oc3 kV3 dc3 pm3 cd3 ct3 oc4 kV4 dc4 pm4 cd4 ct4 oc5 kV5 dc5 pm5 cd5 ct5 oc6 kV6 dc6 pm6 cd6 ct6 oc7 kV7 dc7 pm7 cd7 ct7 oc8 kV8 dc8 pm8 cd8 ct8 oc9 kV9 dc9 pm9 cd9 ct9 oc10 kV10 dc10 pm10 cd10 ct10 oc11 kV11 dc11 pm11 cd11 ct11 oc12 kV12 dc12 pm12 cd12 ct12 oc13 kV13 dc13 pm13 cd13 ct13 oc14 kV14 dc14 pm14 cd14 ct14 oc15 kV15 dc15 pm15 cd15 ct15 oc16 kV16 dc16 pm16 cd16 ct16 oc17 kV17 dc17 pm17 cd17 ct17 oc18 kV18 dc18 pm18 cd18 ct18 oc19 kV19 dc19 pm19 cd19 ct19 : Value}
    {t0 : Tok}
    (a1 : PySem.W.nsIn K mainGlobals "is_number" = some (some (.ref f1))) (l1 : K.lookup f1 = some ⟨oc1, od1, .func (PySem.W.fnOf "is_number" "is_number" (defArgs s_is_number) (defBody s_is_number) (defScope s_is_number) .none kV1 dc1 pm1 an1 cd1 ct1), sl1⟩) (c1 : PySem.W.codeIn K cd1 "is_number" = true) (k1 : PySem.W.keepIn K (.ref f1) = true)
    (a2 : PySem.W.nsIn K mainGlobals "is_row" = some (some (.ref f2))) (l2 : K.lookup f2 = some ⟨oc2, od2, .func (PySem.W.fnOf "is_row" "is_row" (defArgs s_is_row) (defBody s_is_row) (defScope s_is_row) .none kV2 dc2 pm2 an2 cd2 ct2), sl2⟩) (c2 : PySem.W.codeIn K cd2 "is_row" = true) (k2 : PySem.W.keepIn K (.ref f2) = true)
    (a3 : PySem.W.nsIn K mainGlobals "look_numbers" = some (some (.ref f3))) (l3 : K.lookup f3 = some ⟨oc3, od3, .func (PySem.W.fnOf "look_numbers" "look_numbers" (defArgs s_look_numbers) (defBody s_look_numbers) (defScope s_look_numbers) .none kV3 dc3 pm3 an3 cd3 ct3), sl3⟩) (c3 : PySem.W.codeIn K cd3 "look_numbers" = true) (k3 : PySem.W.keepIn K (.ref f3) = true)
    (a4 : PySem.W.nsIn K mainGlobals "check_of" = some (some (.ref f4))) (l4 : K.lookup f4 = some ⟨oc4, od4, .func (PySem.W.fnOf "check_of" "check_of" (defArgs s_check_of) (defBody s_check_of) (defScope s_check_of) .none kV4 dc4 pm4 an4 cd4 ct4), sl4⟩) (c4 : PySem.W.codeIn K cd4 "check_of" = true) (k4 : PySem.W.keepIn K (.ref f4) = true)
    (a5 : PySem.W.nsIn K mainGlobals "is_closed_of" = some (some (.ref f5))) (l5 : K.lookup f5 = some ⟨oc5, od5, .func (PySem.W.fnOf "is_closed_of" "is_closed_of" (defArgs s_is_closed_of) (defBody s_is_closed_of) (defScope s_is_closed_of) .none kV5 dc5 pm5 an5 cd5 ct5), sl5⟩) (c5 : PySem.W.codeIn K cd5 "is_closed_of" = true) (k5 : PySem.W.keepIn K (.ref f5) = true)
    (a6 : PySem.W.nsIn K mainGlobals "check" = some (some (.ref f6))) (l6 : K.lookup f6 = some ⟨oc6, od6, .func (PySem.W.fnOf "check" "check" (defArgs s_check) (defBody s_check) (defScope s_check) .none kV6 dc6 pm6 an6 cd6 ct6), sl6⟩) (c6 : PySem.W.codeIn K cd6 "check" = true) (k6 : PySem.W.keepIn K (.ref f6) = true)
    (a7 : PySem.W.nsIn K mainGlobals "is_closed" = some (some (.ref f7))) (l7 : K.lookup f7 = some ⟨oc7, od7, .func (PySem.W.fnOf "is_closed" "is_closed" (defArgs s_is_closed) (defBody s_is_closed) (defScope s_is_closed) .none kV7 dc7 pm7 an7 cd7 ct7), sl7⟩) (c7 : PySem.W.codeIn K cd7 "is_closed" = true) (k7 : PySem.W.keepIn K (.ref f7) = true)
    (a8 : PySem.W.nsIn K mainGlobals "mended" = some (some (.ref f8))) (l8 : K.lookup f8 = some ⟨oc8, od8, .func (PySem.W.fnOf "mended" "mended" (defArgs s_mended) (defBody s_mended) (defScope s_mended) .none kV8 dc8 pm8 an8 cd8 ct8), sl8⟩) (c8 : PySem.W.codeIn K cd8 "mended" = true) (k8 : PySem.W.keepIn K (.ref f8) = true)
    (a9 : PySem.W.nsIn K mainGlobals "divisor" = some (some (.ref f9))) (l9 : K.lookup f9 = some ⟨oc9, od9, .func (PySem.W.fnOf "divisor" "divisor" (defArgs s_divisor) (defBody s_divisor) (defScope s_divisor) .none kV9 dc9 pm9 an9 cd9 ct9), sl9⟩) (c9 : PySem.W.codeIn K cd9 "divisor" = true) (k9 : PySem.W.keepIn K (.ref f9) = true)
    (a10 : PySem.W.nsIn K mainGlobals "unseen" = some (some (.ref f10))) (l10 : K.lookup f10 = some ⟨oc10, od10, .func (PySem.W.fnOf "unseen" "unseen" (defArgs s_unseen) (defBody s_unseen) (defScope s_unseen) .none kV10 dc10 pm10 an10 cd10 ct10), sl10⟩) (c10 : PySem.W.codeIn K cd10 "unseen" = true) (k10 : PySem.W.keepIn K (.ref f10) = true)
    (a11 : PySem.W.nsIn K mainGlobals "_law_town" = some (some (.ref f11))) (l11 : K.lookup f11 = some ⟨oc11, od11, .func (PySem.W.fnOf "_law_town" "_law_town" (defArgs s_law_town) (defBody s_law_town) (defScope s_law_town) .none kV11 dc11 pm11 an11 cd11 ct11), sl11⟩) (c11 : PySem.W.codeIn K cd11 "_law_town" = true) (k11 : PySem.W.keepIn K (.ref f11) = true)
    (a12 : PySem.W.nsIn K mainGlobals "_law_draw" = some (some (.ref f12))) (l12 : K.lookup f12 = some ⟨oc12, od12, .func (PySem.W.fnOf "_law_draw" "_law_draw" (defArgs s_law_draw) (defBody s_law_draw) (defScope s_law_draw) .none kV12 dc12 pm12 an12 cd12 ct12), sl12⟩) (c12 : PySem.W.codeIn K cd12 "_law_draw" = true) (k12 : PySem.W.keepIn K (.ref f12) = true)
    (a13 : PySem.W.nsIn K mainGlobals "_law_pick" = some (some (.ref f13))) (l13 : K.lookup f13 = some ⟨oc13, od13, .func (PySem.W.fnOf "_law_pick" "_law_pick" (defArgs s_law_pick) (defBody s_law_pick) (defScope s_law_pick) .none kV13 dc13 pm13 an13 cd13 ct13), sl13⟩) (c13 : PySem.W.codeIn K cd13 "_law_pick" = true) (k13 : PySem.W.keepIn K (.ref f13) = true)
    (a14 : PySem.W.nsIn K mainGlobals "_law_whole" = some (some (.ref f14))) (l14 : K.lookup f14 = some ⟨oc14, od14, .func (PySem.W.fnOf "_law_whole" "_law_whole" (defArgs s_law_whole) (defBody s_law_whole) (defScope s_law_whole) .none kV14 dc14 pm14 an14 cd14 ct14), sl14⟩) (c14 : PySem.W.codeIn K cd14 "_law_whole" = true) (k14 : PySem.W.keepIn K (.ref f14) = true)
    (a15 : PySem.W.nsIn K mainGlobals "_law_wholes" = some (some (.ref f15))) (l15 : K.lookup f15 = some ⟨oc15, od15, .func (PySem.W.fnOf "_law_wholes" "_law_wholes" (defArgs s_law_wholes) (defBody s_law_wholes) (defScope s_law_wholes) .none kV15 dc15 pm15 an15 cd15 ct15), sl15⟩) (c15 : PySem.W.codeIn K cd15 "_law_wholes" = true) (k15 : PySem.W.keepIn K (.ref f15) = true)
    (a16 : PySem.W.nsIn K mainGlobals "_law_symbols" = some (some (.ref f16))) (l16 : K.lookup f16 = some ⟨oc16, od16, .func (PySem.W.fnOf "_law_symbols" "_law_symbols" (defArgs s_law_symbols) (defBody s_law_symbols) (defScope s_law_symbols) .none kV16 dc16 pm16 an16 cd16 ct16), sl16⟩) (c16 : PySem.W.codeIn K cd16 "_law_symbols" = true) (k16 : PySem.W.keepIn K (.ref f16) = true)
    (a17 : PySem.W.nsIn K mainGlobals "_law_closed" = some (some (.ref f17))) (l17 : K.lookup f17 = some ⟨oc17, od17, .func (PySem.W.fnOf "_law_closed" "_law_closed" (defArgs s_law_closed) (defBody s_law_closed) (defScope s_law_closed) .none kV17 dc17 pm17 an17 cd17 ct17), sl17⟩) (c17 : PySem.W.codeIn K cd17 "_law_closed" = true) (k17 : PySem.W.keepIn K (.ref f17) = true)
    (a18 : PySem.W.nsIn K mainGlobals "_law_others" = some (some (.ref f18))) (l18 : K.lookup f18 = some ⟨oc18, od18, .func (PySem.W.fnOf "_law_others" "_law_others" (defArgs s_law_others) (defBody s_law_others) (defScope s_law_others) .none kV18 dc18 pm18 an18 cd18 ct18), sl18⟩) (c18 : PySem.W.codeIn K cd18 "_law_others" = true) (k18 : PySem.W.keepIn K (.ref f18) = true)
    (a19 : PySem.W.nsIn K mainGlobals "law" = some (some (.ref f19))) (l19 : K.lookup f19 = some ⟨oc19, od19, .func (PySem.W.fnOf "law" "law" (defArgs s_law) (defBody s_law) (defScope s_law) .none kV19 dc19 pm19 an19 cd19 ct19), sl19⟩) (c19 : PySem.W.codeIn K cd19 "law" = true) (k19 : PySem.W.keepIn K (.ref f19) = true)
    (n0 : PySem.W.nsIn K mainGlobals "MOST_ROW" = some (some (.int 300 t0)))
    (z0 : PySem.W.nsIn K mainGlobals "isinstance" = some none)
    (z1 : PySem.W.nsIn K mainGlobals "int" = some none)
    (z2 : PySem.W.nsIn K mainGlobals "bool" = some none)
    (z3 : PySem.W.nsIn K mainGlobals "list" = some none)
    (z4 : PySem.W.nsIn K mainGlobals "len" = some none)
    (z5 : PySem.W.nsIn K mainGlobals "all" = some none)
    (z6 : PySem.W.nsIn K mainGlobals "enumerate" = some none)
    (z7 : PySem.W.nsIn K mainGlobals "sum" = some none)
    (z8 : PySem.W.nsIn K mainGlobals "range" = some none)
    (z9 : PySem.W.nsIn K mainGlobals "sorted" = some none)
    (z10 : PySem.W.nsIn K mainGlobals "max" = some none)
    (ht : ∀ ns : List Int, ns.length ≤ 63 → ∃ r, F_law [.im (.list (ns.map .int))] = .ok (.bool true) r) :
    ∃ fd : FuncData, (∀ (s : Shared) (v : Value), BindsTo s fd ⟨[v], []⟩ [("script", v)]) ∧ ∀ base : Heap, K.In base → base.Ns mainGlobals mg → FnOk l.prog w K mg base CX0 5 fa fd ["script"] (spL K) := by
  have e := hfa.symm.trans (PySem.W.mg_of X G a19)
  cases e
  have y0 := PySem.W.mg_none_of X G z0
  have y1 := PySem.W.mg_none_of X G z1
  have y2 := PySem.W.mg_none_of X G z2
  have y3 := PySem.W.mg_none_of X G z3
  have y4 := PySem.W.mg_none_of X G z4
  have y5 := PySem.W.mg_none_of X G z5
  have y6 := PySem.W.mg_none_of X G z6
  have y7 := PySem.W.mg_none_of X G z7
  have y8 := PySem.W.mg_none_of X G z8
  have y9 := PySem.W.mg_none_of X G z9
  have y10 := PySem.W.mg_none_of X G z10
  have F1 := fun_mk (st := s_is_number) l1 c1 k1
  have b1 := F1.binds (ps := ["thing", "least", "most"]) fun _ _ _ _ _ _ us hl => match us, hl with | [_, _, _], _ => rfl
  have F2 := fun_mk (st := s_is_row) l2 c2 k2
  have b2 := F2.binds (ps := ["thing", "many"]) fun _ _ _ _ _ _ us hl => match us, hl with | [_, _], _ => rfl
  have F3 := fun_mk (st := s_look_numbers) l3 c3 k3
  have b3 := F3.binds (ps := ["numbers", "base"]) fun _ _ _ _ _ _ us hl => match us, hl with | [_, _], _ => rfl
  have F4 := fun_mk (st := s_check_of) l4 c4 k4
  have b4 := F4.binds (ps := ["numbers", "base"]) fun _ _ _ _ _ _ us hl => match us, hl with | [_, _], _ => rfl
  have F5 := fun_mk (st := s_is_closed_of) l5 c5 k5
  have b5 := F5.binds (ps := ["numbers", "base"]) fun _ _ _ _ _ _ us hl => match us, hl with | [_, _], _ => rfl
  have F6 := fun_mk (st := s_check) l6 c6 k6
  have b6 := F6.binds (ps := ["numbers", "base"]) fun _ _ _ _ _ _ us hl => match us, hl with | [_, _], _ => rfl
  have F7 := fun_mk (st := s_is_closed) l7 c7 k7
  have b7 := F7.binds (ps := ["numbers", "base"]) fun _ _ _ _ _ _ us hl => match us, hl with | [_, _], _ => rfl
  have F8 := fun_mk (st := s_mended) l8 c8 k8
  have b8 := F8.binds (ps := ["numbers", "base"]) fun _ _ _ _ _ _ us hl => match us, hl with | [_, _], _ => rfl
  have F9 := fun_mk (st := s_divisor) l9 c9 k9
  have b9 := F9.binds (ps := ["one", "other"]) fun _ _ _ _ _ _ us hl => match us, hl with | [_, _], _ => rfl
  have F10 := fun_mk (st := s_unseen) l10 c10 k10
  have b10 := F10.binds (ps := ["base", "many"]) fun _ _ _ _ _ _ us hl => match us, hl with | [_, _], _ => rfl
  have F11 := fun_mk (st := s_law_town) l11 c11 k11
  have b11 := F11.binds (ps := ["script"]) fun _ _ _ _ _ _ us hl => match us, hl with | [_], _ => rfl
  have F12 := fun_mk (st := s_law_draw) l12 c12 k12
  have b12 := F12.binds (ps := ["script", "town", "many"]) fun _ _ _ _ _ _ us hl => match us, hl with | [_, _, _], _ => rfl
  have F13 := fun_mk (st := s_law_pick) l13 c13 k13
  have b13 := F13.binds (ps := ["script", "town", "some"]) fun _ _ _ _ _ _ us hl => match us, hl with | [_, _, _], _ => rfl
  have F14 := fun_mk (st := s_law_whole) l14 c14 k14
  have b14 := F14.binds (ps := ["thing"]) fun _ _ _ _ _ _ us hl => match us, hl with | [_], _ => rfl
  have F15 := fun_mk (st := s_law_wholes) l15 c15 k15
  have b15 := F15.binds (ps := ["thing"]) fun _ _ _ _ _ _ us hl => match us, hl with | [_], _ => rfl
  have F16 := fun_mk (st := s_law_symbols) l16 c16 k16
  have b16 := F16.binds (ps := ["script", "town", "many", "long"]) fun _ _ _ _ _ _ us hl => match us, hl with | [_, _, _, _], _ => rfl
  have F17 := fun_mk (st := s_law_closed) l17 c17 k17
  have b17 := F17.binds (ps := ["numbers", "base"]) fun _ _ _ _ _ _ us hl => match us, hl with | [_, _], _ => rfl
  have F18 := fun_mk (st := s_law_others) l18 c18 k18
  have b18 := F18.binds (ps := ["numbers", "base"]) fun _ _ _ _ _ _ us hl => match us, hl with | [_, _], _ => rfl
  have F19 := fun_mk (st := s_law) l19 c19 k19
  have b19 := F19.binds (ps := ["script"]) fun _ _ _ _ _ _ us hl => match us, hl with | [_], _ => rfl
  refine ⟨PySem.W.fnOf "law" "law" (defArgs s_law) (defBody s_law) (defScope s_law) .none kV19 dc19 pm19 an19 cd19 ct19, fun s v => .of_eq rfl, fun base _ _ => ?_⟩
  have H1 : Has ⟨l.prog, w, K, mg, base⟩ "is_number" 1 F_is_number := has_mk (n := n_is_number) F1 (PySem.W.mg_of X G a1) b1 sc_is_number (by decide) ck_is_number (fun x hx => by
    simp only [n_is_number, List.mem_cons, List.not_mem_nil, or_false] at hx
    rcases hx with rfl | rfl | rfl
    · exact y0
    · exact y1
    · exact y2) trivial d_is_number
  have H2 : Has ⟨l.prog, w, K, mg, base⟩ "is_row" 2 F_is_row := has_mk (n := n_is_row) F2 (PySem.W.mg_of X G a2) b2 sc_is_row (by decide) ck_is_row (fun x hx => by
    simp only [n_is_row, List.mem_cons, List.not_mem_nil, or_false] at hx
    rcases hx with rfl | rfl | rfl | rfl
    · exact y0
    · exact y3
    · exact y4
    · exact y5) ⟨mg_const (PySem.W.mg_of X G n0), H1⟩ d_is_row
  have H3 : Has ⟨l.prog, w, K, mg, base⟩ "look_numbers" 3 F_look_numbers := has_mk (n := n_look_numbers) F3 (PySem.W.mg_of X G a3) b3 sc_look_numbers (by decide) ck_look_numbers (fun x hx => by cases hx) ⟨H1, H2⟩ d_look_numbers
  have H4 : Has ⟨l.prog, w, K, mg, base⟩ "check_of" 1 F_check_of := has_mk (n := n_check_of) F4 (PySem.W.mg_of X G a4) b4 sc_check_of (by decide) ck_check_of (fun x hx => by
    simp only [n_check_of, List.mem_cons, List.not_mem_nil, or_false] at hx
    rcases hx with rfl | rfl
    · exact y6
    · exact y7) trivial d_check_of
  have H5 : Has ⟨l.prog, w, K, mg, base⟩ "is_closed_of" 2 F_is_closed_of := has_mk (n := n_is_closed_of) F5 (PySem.W.mg_of X G a5) b5 sc_is_closed_of (by decide) ck_is_closed_of (fun x hx => by cases hx) H4 d_is_closed_of
  have H6 : Has ⟨l.prog, w, K, mg, base⟩ "check" 4 F_check := has_mk (n := n_check) F6 (PySem.W.mg_of X G a6) b6 sc_check (by decide) ck_check (fun x hx => by cases hx) ⟨H3, H4⟩ d_check
  have H7 : Has ⟨l.prog, w, K, mg, base⟩ "is_closed" 4 F_is_closed := has_mk (n := n_is_closed) F7 (PySem.W.mg_of X G a7) b7 sc_is_closed (by decide) ck_is_closed (fun x hx => by cases hx) ⟨H3, H5⟩ d_is_closed
  have H8 : Has ⟨l.prog, w, K, mg, base⟩ "mended" 4 F_mended := has_mk (n := n_mended) F8 (PySem.W.mg_of X G a8) b8 sc_mended (by decide) ck_mended (fun x hx => by
    simp only [n_mended, List.mem_cons, List.not_mem_nil, or_false] at hx
    rcases hx with rfl | rfl | rfl | rfl
    · exact y6
    · exact y4
    · exact y8
    · exact y9) ⟨H3, H4⟩ d_mended
  have H9 : Has ⟨l.prog, w, K, mg, base⟩ "divisor" 1 F_divisor := has_mk (n := n_divisor) F9 (PySem.W.mg_of X G a9) b9 sc_divisor (by decide) ck_divisor (fun x hx => by cases hx) trivial d_divisor
  have H10 : Has ⟨l.prog, w, K, mg, base⟩ "unseen" 4 F_unseen := has_mk (n := n_unseen) F10 (PySem.W.mg_of X G a10) b10 sc_unseen (by decide) ck_unseen (fun x hx => by
    simp only [n_unseen, List.mem_cons, List.not_mem_nil, or_false] at hx
    rcases hx with rfl
    · exact y8) ⟨H3, mg_const (PySem.W.mg_of X G n0), H1, H9⟩ d_unseen
  have H11 : HasO ⟨l.prog, w, K, mg, base⟩ "_law_town" 1 F_law_town := hasO_mk (n := n_law_town) F11 (PySem.W.mg_of X G a11) b11 sc_law_town (by decide) ck_law_town (fun x hx => by
    simp only [n_law_town, List.mem_cons, List.not_mem_nil, or_false] at hx
    rcases hx with rfl
    · exact y3) trivial d_law_town
  have H12 : Has ⟨l.prog, w, K, mg, base⟩ "_law_draw" 1 F_law_draw := has_mk (n := n_law_draw) F12 (PySem.W.mg_of X G a12) b12 sc_law_draw (by decide) ck_law_draw (fun x hx => by
    simp only [n_law_draw, List.mem_cons, List.not_mem_nil, or_false] at hx
    rcases hx with rfl
    · exact y4) trivial d_law_draw
  have H13 : Has ⟨l.prog, w, K, mg, base⟩ "_law_pick" 2 F_law_pick := has_mk (n := n_law_pick) F13 (PySem.W.mg_of X G a13) b13 sc_law_pick (by decide) ck_law_pick (fun x hx => by
    simp only [n_law_pick, List.mem_cons, List.not_mem_nil, or_false] at hx
    rcases hx with rfl
    · exact y4) H12 d_law_pick
  have H14 : Has ⟨l.prog, w, K, mg, base⟩ "_law_whole" 1 F_law_whole := has_mk (n := n_law_whole) F14 (PySem.W.mg_of X G a14) b14 sc_law_whole (by decide) ck_law_whole (fun x hx => by
    simp only [n_law_whole, List.mem_cons, List.not_mem_nil, or_false] at hx
    rcases hx with rfl | rfl | rfl
    · exact y0
    · exact y1
    · exact y2) trivial d_law_whole
  have H15 : Has ⟨l.prog, w, K, mg, base⟩ "_law_wholes" 2 F_law_wholes := has_mk (n := n_law_wholes) F15 (PySem.W.mg_of X G a15) b15 sc_law_wholes (by decide) ck_law_wholes (fun x hx => by
    simp only [n_law_wholes, List.mem_cons, List.not_mem_nil, or_false] at hx
    rcases hx with rfl | rfl
    · exact y0
    · exact y3) H14 d_law_wholes
  have H16 : Has ⟨l.prog, w, K, mg, base⟩ "_law_symbols" 2 F_law_symbols := has_mk (n := n_law_symbols) F16 (PySem.W.mg_of X G a16) b16 sc_law_symbols (by decide) ck_law_symbols (fun x hx => by
    simp only [n_law_symbols, List.mem_cons, List.not_mem_nil, or_false] at hx
    rcases hx with rfl
    · exact y8) H12 d_law_symbols
  have H17 : Has ⟨l.prog, w, K, mg, base⟩ "_law_closed" 1 F_law_closed := has_mk (n := n_law_closed) F17 (PySem.W.mg_of X G a17) b17 sc_law_closed (by decide) ck_law_closed (fun x hx => by
    simp only [n_law_closed, List.mem_cons, List.not_mem_nil, or_false] at hx
    rcases hx with rfl
    · exact y6) trivial d_law_closed
  have H18 : Has ⟨l.prog, w, K, mg, base⟩ "_law_others" 2 F_law_others := has_mk (n := n_law_others) F18 (PySem.W.mg_of X G a18) b18 sc_law_others (by decide) ck_law_others (fun x hx => by
    simp only [n_law_others, List.mem_cons, List.not_mem_nil, or_false] at hx
    rcases hx with rfl | rfl | rfl
    · exact y4
    · exact y8
    · exact y9) H17 d_law_others
  exact law_fn (F := F_law) (fn_ok (n := n_law) F19 sc_law (by decide) ck_law (fun x hx => by
    simp only [n_law, List.mem_cons, List.not_mem_nil, or_false] at hx
    rcases hx with rfl | rfl | rfl | rfl | rfl
    · exact y3
    · exact y0
    · exact y4
    · exact y10
    · exact y8) ⟨H11, H12, H16, H6, H8, H18, H15, H7, H10, H17, H13⟩ d_law) ht
end K31
open PySem PySem.W PyProof.Rows
set_option maxRecDepth 100000 in
set_option maxHeartbeats 0 in
theorem PySem.Challenge.cw_barsets_k31_whole_mended_holds : PySem.Challenge.rw_barsets_k31_whole_mended.Holds := by
  w_on; o_law; k_head; (case hw => w_witness2)
  k_fill
  refine DS.walk_L (l := PySem.Challenge.rw_barsets_k31_whole_mended) (k := 5) ⟨rfl, by decide, by decide⟩ rfl rfl (fun w h Y => PySem.W.kIn_of Y) ?F
  case F =>
    intro w mg fa h KX G hmg
    refine' K31.all_mk KX G hmg ?a1 ?l1 ?c1 ?k1 ?a2 ?l2 ?c2 ?k2 ?a3 ?l3 ?c3 ?k3 ?a4 ?l4 ?c4 ?k4 ?a5 ?l5 ?c5 ?k5 ?a6 ?l6 ?c6 ?k6 ?a7 ?l7 ?c7 ?k7 ?a8 ?l8 ?c8 ?k8 ?a9 ?l9 ?c9 ?k9 ?a10 ?l10 ?c10 ?k10 ?a11 ?l11 ?c11 ?k11 ?a12 ?l12 ?c12 ?k12 ?a13 ?l13 ?c13 ?k13 ?a14 ?l14 ?c14 ?k14 ?a15 ?l15 ?c15 ?k15 ?a16 ?l16 ?c16 ?k16 ?a17 ?l17 ?c17 ?k17 ?a18 ?l18 ?c18 ?k18 ?a19 ?l19 ?c19 ?k19 ?n0 ?z0 ?z1 ?z2 ?z3 ?z4 ?z5 ?z6 ?z7 ?z8 ?z9 ?z10 K31.law_true
    (case a1 => k_is)
    (case l1 => k_is)
    (case c1 => k_is)
    (case k1 => k_is)
    (case a2 => k_is)
    (case l2 => k_is)
    (case c2 => k_is)
    (case k2 => k_is)
    (case a3 => k_is)
    (case l3 => k_is)
    (case c3 => k_is)
    (case k3 => k_is)
    (case a4 => k_is)
    (case l4 => k_is)
    (case c4 => k_is)
    (case k4 => k_is)
    (case a5 => k_is)
    (case l5 => k_is)
    (case c5 => k_is)
    (case k5 => k_is)
    (case a6 => k_is)
    (case l6 => k_is)
    (case c6 => k_is)
    (case k6 => k_is)
    (case a7 => k_is)
    (case l7 => k_is)
    (case c7 => k_is)
    (case k7 => k_is)
    (case a8 => k_is)
    (case l8 => k_is)
    (case c8 => k_is)
    (case k8 => k_is)
    (case a9 => k_is)
    (case l9 => k_is)
    (case c9 => k_is)
    (case k9 => k_is)
    (case a10 => k_is)
    (case l10 => k_is)
    (case c10 => k_is)
    (case k10 => k_is)
    (case a11 => k_is)
    (case l11 => k_is)
    (case c11 => k_is)
    (case k11 => k_is)
    (case a12 => k_is)
    (case l12 => k_is)
    (case c12 => k_is)
    (case k12 => k_is)
    (case a13 => k_is)
    (case l13 => k_is)
    (case c13 => k_is)
    (case k13 => k_is)
    (case a14 => k_is)
    (case l14 => k_is)
    (case c14 => k_is)
    (case k14 => k_is)
    (case a15 => k_is)
    (case l15 => k_is)
    (case c15 => k_is)
    (case k15 => k_is)
    (case a16 => k_is)
    (case l16 => k_is)
    (case c16 => k_is)
    (case k16 => k_is)
    (case a17 => k_is)
    (case l17 => k_is)
    (case c17 => k_is)
    (case k17 => k_is)
    (case a18 => k_is)
    (case l18 => k_is)
    (case c18 => k_is)
    (case k18 => k_is)
    (case a19 => k_is)
    (case l19 => k_is)
    (case c19 => k_is)
    (case k19 => k_is)
    (case n0 => k_is)
    (case z0 => k_is)
    (case z1 => k_is)
    (case z2 => k_is)
    (case z3 => k_is)
    (case z4 => k_is)
    (case z5 => k_is)
    (case z6 => k_is)
    (case z7 => k_is)
    (case z8 => k_is)
    (case z9 => k_is)
    (case z10 => k_is)
