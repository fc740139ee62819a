import PyProof.Rows.All
import Wide.All
import OpenK.AllK
import Wide.FinOn
import HandS.ForMost
import HandS.ForExc
import HandS.Walk
import HandS.CallSlots
import HandS.IsInst
import HandS.TryMany
import HandS.ExcIs
import KE.KDictKeyed
import KE.KeyNested
import HandS.Lambda
import HandS.TupAny
import HandS.Style
import HandS.TupLe
import PyProof.P3In
import PyProof.P3Eq
import PyProof.NeData
import HandS.Text
import KE.SortData
import KE.Datum
import HandS.Zip
import KE.DataMinMax
import PyProof.ExcBaseAll.ArithmeticError
import KE.KIsAll
import KE.KExcIs
import KE.DataFind
import KE.DatumIndex
import HandS.SetFor
import HandS.ExcInit
import HandS.ExcField
import KE.KExcInit
import KE.KExcLine
import KE.KDictDisplayH
import KE.DataMinKey
import HandS.SortKw
import HandS.EndTab
import KE.KNest
import HandS.TupMul
import KE.DataCmp
import HandS.TryOnly
import PyProof.StrBlock2
import HandS.Set
import HandS.Strs
import KE.OsSortAny
import HandS.Defaults
import KE.KDictWalk
import KE.KDictList
import HandS.HotCalls
import HandS.OwnEq
import HandS.FStr
import KE.KCallOwn
import PySem.Challenge.RW_barsets_k01_refused_codes
set_option Elab.async false
set_option linter.all false
set_option maxRecDepth 100000
/-! Data in place of the heap: a def's body read as a function over data. -/
namespace DS
open PySem L2

abbrev D := PyData
/-- what a slot holds: nothing, data, a list of the def's own that may change, a dict, an instance under way -/
inductive Sl where
  | un | im (d : D) | ml (ds : List D) | md (kvs : List (D × D)) | mi (c : Str) (fs : List (D × D))
abbrev Rho := List Sl
structure Exn where
  cls : Str
  fs : List (D × D)
inductive Res (α : Type) where
  | ok (a : α) (r : Rho) | ex (e : Exn) (r : Rho) | no
abbrev M (α : Type) := Rho → Res α
inductive Flow where
  | nx | rt (d : D) | ro (ds : List D) | bk | ct
@[reducible] def ret {α : Type} (a : α) : M α := fun r => .ok a r
@[reducible] def stop {α : Type} : M α := fun _ => .no
def bnd {α β : Type} (m : M α) (f : α → M β) : M β := fun r => match m r with
  | .ok a r1 => f a r1
  | .ex e r1 => .ex e r1
  | .no => .no
@[reducible] def opt {α : Type} : Option α → M α
  | some a => fun r => .ok a r
  | none => fun _ => .no

/-- the world of a text -/
structure Wd where
  P : Program
  w : World
  K : PySem.W.Frag
  mg : Str → Option Value
  base : Heap
  tb : List (Addr × Str)

/-- a caught exception that is kept: its class, its dict -/
def XO (a C : Addr) (d : Option Addr) : HO := .ext fun h => ∃ oe vs, h.get? a = some oe ∧ oe.cls = .ref C ∧ oe.dict = d ∧ oe.data = .fields vs
mutual
def nk : D → Option NestedKey
  | .none => some .none
  | .bool b => some (.num (if b = true then 1 else 0))
  | .int i => some (.num i)
  | .str x => some (.text x)
  | .tuple ds => (nkA ds).map .tup
  | _ => none
def nkA : List D → Option (List NestedKey)
  | [] => some []
  | d :: ds => match nk d, nkA ds with
    | some k, some ks => some (k :: ks)
    | _, _ => none
end
/-- a dict's entries, at p -/
def dHO (T : Wd) (xs : List (NestedKey × Addr × Value)) (ep : Nat) (p : Addr) : HO := .ext fun h => ∃ o es, h.get? p = some o ∧ o.ExactDict ∧ o.data = .dict es ep ∧ es.toList = xs.map (entryOfKey (nestedKind T.P T.w))
mutual
/-- the data d stands at v; a dict's data: an instance (its class, its fields), a kept exception, an empty dict -/
def Rp (T : Wd) (H : Hp) : D → V → Prop
  | .none, v => v = .non
  | .bool b, v => v = .bl b
  | .int i, v => v = .int i
  | .str x, v => v = .str x ∧ PyData.strOk x = true
  | .list ds, v => ∃ a xs, v = .ref a ∧ SqL T.K H a xs ∧ RpA T H ds xs
  | .tuple ds, v => ∃ a xs, v = .ref a ∧ SqT T.K H a xs ∧ RpA T H ds xs
  | .dict kvs, v => ∃ a, v = .ref a ∧ ((∃ C dx fs c r, kvs = (.str c, .none) :: r ∧ H a = some (.ins C dx fs) ∧ T.mg c = some (.ref C) ∧ RpF T H kvs ((c, .non) :: fs)) ∨
      (∃ c C d, kvs = [(.str c, .bool d.isNone)] ∧ H a = some (XO a C d) ∧ T.mg c = some (.ref C) ∧ ∀ dd, d = some dd → ∃ fs, H dd = some (.xd fs)) ∨ (kvs = [] ∧ H a = some (.dK [])) ∨
      (∃ r xs ep, kvs = (.none, .none) :: r ∧ (∀ p ∈ r, p.1 ≠ .none) ∧ (a == sysModules) = false ∧ H a = some (dHO T xs ep a) ∧ (xs.map (·.1)).Nodup ∧ RpE T H kvs ((.none, a, .none) :: xs)))
def RpA (T : Wd) (H : Hp) : List D → List V → Prop
  | [], vs => vs = []
  | d :: ds, vs => ∃ v r, vs = v :: r ∧ Rp T H d v ∧ RpA T H ds r
def RpF (T : Wd) (H : Hp) : List (D × D) → List (Str × V) → Prop
  | [], fs => fs = []
  | p :: r, fs => ∃ f v q, fs = (f, v) :: q ∧ RpP T H p f v ∧ RpF T H r q
def RpP (T : Wd) (H : Hp) : D × D → Str → V → Prop
  | (k, d), f, v => k = .str f ∧ Rp T H d v
/-- a frozen dict's entries; the first one is none -/
def RpE (T : Wd) (H : Hp) : List (D × D) → List (NestedKey × Addr × Value) → Prop
  | [], xs => xs = []
  | p :: r, xs => ∃ e q, xs = e :: q ∧ RpQ T H p e ∧ RpE T H r q
def RpQ (T : Wd) (H : Hp) : D × D → NestedKey × Addr × Value → Prop
  | (k, d), e => k = .none ∨ (nk k = some e.1 ∧ e.1.depth ≤ 8 ∧ Rp T H k (.ref e.2.1) ∧ ∃ v, Rp T H d v ∧ RelV v e.2.2)
end

theorem Same.sqT {K : PySem.W.Frag} {H H' : Hp} {a : Addr} {xs : List V} (e : Same H H') (h : SqT K H a xs) : SqT K H' a xs := by
  rcases h with (h | ⟨o, h⟩) | h
  · exact .inl (.inl (e _ _ h))
  · exact .inl (.inr ⟨o, e _ _ h⟩)
  · exact .inr h

section
variable {T : Wd} {H H' : Hp}
mutual
theorem Rp.mono (s : Same H H') : ∀ (d : D) (v : V), Rp T H d v → Rp T H' d v
  | .none, v, h => by simpa only [Rp] using h
  | .bool b, v, h => by simpa only [Rp] using h
  | .int i, v, h => by simpa only [Rp] using h
  | .str x, v, h => by simpa only [Rp] using h
  | .list ds, v, h => by
    simp only [Rp] at h ⊢
    obtain ⟨a, xs, e, q, r⟩ := h
    exact ⟨a, xs, e, s.seq q, RpA.mono s ds xs r⟩
  | .tuple ds, v, h => by
    simp only [Rp] at h ⊢
    obtain ⟨a, xs, e, q, r⟩ := h
    exact ⟨a, xs, e, Same.sqT s q, RpA.mono s ds xs r⟩
  | .dict kvs, v, h => by
    simp only [Rp] at h ⊢
    obtain ⟨a, e, h⟩ := h
    refine ⟨a, e, ?_⟩
    rcases h with ⟨C, dx, fs, c, r, e2, q, m, z⟩ | ⟨c, C, d, e2, q, m, z⟩ | ⟨e2, q⟩ | ⟨r, xs, ep, e2, nn, hs, q, nd, z⟩
    · exact .inl ⟨C, dx, fs, c, r, e2, s _ _ q, m, RpF.mono s kvs _ z⟩
    · exact .inr (.inl ⟨c, C, d, e2, s _ _ q, m, fun dd hd => by obtain ⟨fs, q⟩ := z dd hd; exact ⟨fs, s _ _ q⟩⟩)
    · exact .inr (.inr (.inl ⟨e2, s _ _ q⟩))
    · exact .inr (.inr (.inr ⟨r, xs, ep, e2, nn, hs, s _ _ q, nd, RpE.mono s kvs _ z⟩))
theorem RpA.mono (s : Same H H') : ∀ (ds : List D) (vs : List V), RpA T H ds vs → RpA T H' ds vs
  | [], vs, h => by simpa only [RpA] using h
  | d :: ds, vs, h => by
    simp only [RpA] at h ⊢
    obtain ⟨v, r, e, q, z⟩ := h
    exact ⟨v, r, e, Rp.mono s d v q, RpA.mono s ds r z⟩
theorem RpF.mono (s : Same H H') : ∀ (ds : List (D × D)) (vs : List (Str × V)), RpF T H ds vs → RpF T H' ds vs
  | [], vs, h => by simpa only [RpF] using h
  | d :: ds, vs, h => by
    simp only [RpF] at h ⊢
    obtain ⟨f, v, r, e, q, z⟩ := h
    exact ⟨f, v, r, e, RpP.mono s d f v q, RpF.mono s ds r z⟩
theorem RpP.mono (s : Same H H') : ∀ (p : D × D) (f : Str) (v : V), RpP T H p f v → RpP T H' p f v
  | (k, d), f, v, h => by
    simp only [RpP] at h ⊢
    exact ⟨h.1, Rp.mono s d v h.2⟩
theorem RpE.mono (s : Same H H') : ∀ (ds : List (D × D)) (xs : List (NestedKey × Addr × Value)), RpE T H ds xs → RpE T H' ds xs
  | [], xs, h => by simpa only [RpE] using h
  | d :: ds, xs, h => by
    simp only [RpE] at h ⊢
    obtain ⟨e, q, e1, h1, h2⟩ := h
    exact ⟨e, q, e1, RpQ.mono s d e h1, RpE.mono s ds q h2⟩
theorem RpQ.mono (s : Same H H') : ∀ (p : D × D) (e : NestedKey × Addr × Value), RpQ T H p e → RpQ T H' p e
  | (k, d), e, h => by
    simp only [RpQ] at h ⊢
    rcases h with h | ⟨h1, h2, h3, v, h4, h5⟩
    · exact .inl h
    · exact .inr ⟨h1, h2, Rp.mono s k _ h3, v, Rp.mono s d v h4, h5⟩
end
end
section
variable {T : Wd} {H : Hp}
theorem RpA.length : ∀ {ds : List D} {vs : List V}, RpA T H ds vs → vs.length = ds.length
  | [], vs, h => by simp only [RpA] at h; subst h; rfl
  | d :: ds, vs, h => by
    simp only [RpA] at h
    obtain ⟨v, r, e, _, z⟩ := h
    subst e
    simp only [List.length_cons, RpA.length z]
theorem RpA.nil : RpA T H [] [] := by simp only [RpA]
theorem RpA.cons {d : D} {v : V} {ds : List D} {vs : List V} (a : Rp T H d v) (b : RpA T H ds vs) : RpA T H (d :: ds) (v :: vs) := by
  simp only [RpA]
  exact ⟨v, vs, rfl, a, b⟩
theorem RpA.uncons {d : D} {ds : List D} {vs : List V} (h : RpA T H (d :: ds) vs) : ∃ v r, vs = v :: r ∧ Rp T H d v ∧ RpA T H ds r := by
  simpa only [RpA] using h
theorem RpA.unnil {vs : List V} (h : RpA T H [] vs) : vs = [] := by simpa only [RpA] using h
theorem RpA.append : ∀ {as bs : List D} {us vs : List V}, RpA T H as us → RpA T H bs vs → RpA T H (as ++ bs) (us ++ vs)
  | [], _, us, _, a, b => by rw [RpA.unnil a]; exact b
  | d :: as, _, us, _, a, b => by
    obtain ⟨v, r, e, q, z⟩ := RpA.uncons a
    subst e
    exact RpA.cons q (RpA.append z b)
theorem RpA.get : ∀ {ds : List D} {vs : List V} {i : Nat} {d : D}, RpA T H ds vs → ds[i]? = some d → ∃ v, vs[i]? = some v ∧ Rp T H d v
  | [], _, _, _, _, e => by simp at e
  | x :: ds, vs, 0, d, a, e => by
    obtain ⟨v, r, q, p, _⟩ := RpA.uncons a
    subst q
    simp at e
    subst e
    exact ⟨v, rfl, p⟩
  | x :: ds, vs, i + 1, d, a, e => by
    obtain ⟨v, r, q, _, z⟩ := RpA.uncons a
    subst q
    simpa using RpA.get (i := i) z (by simpa using e)
theorem RpA.getV : ∀ {ds : List D} {vs : List V} {i : Nat} {v : V}, RpA T H ds vs → vs[i]? = some v → ∃ d, ds[i]? = some d ∧ Rp T H d v
  | [], _, _, _, a, e => by rw [RpA.unnil a] at e; simp at e
  | x :: ds, vs, 0, d, a, e => by
    obtain ⟨v, r, q, p, _⟩ := RpA.uncons a
    subst q
    simp at e
    subst e
    exact ⟨x, rfl, p⟩
  | x :: ds, vs, i + 1, d, a, e => by
    obtain ⟨v, r, q, _, z⟩ := RpA.uncons a
    subst q
    simpa using RpA.getV (i := i) z (by simpa using e)
theorem RpA.take : ∀ {ds : List D} {vs : List V} (n : Nat), RpA T H ds vs → RpA T H (ds.take n) (vs.take n)
  | _, _, 0, _ => by simp only [List.take_zero]; exact RpA.nil
  | [], _, n + 1, a => by rw [RpA.unnil a]; exact RpA.nil
  | d :: ds, _, n + 1, a => by
    obtain ⟨v, r, q, p, z⟩ := RpA.uncons a
    subst q
    exact RpA.cons p (RpA.take n z)
theorem RpA.drop : ∀ {ds : List D} {vs : List V} (n : Nat), RpA T H ds vs → RpA T H (ds.drop n) (vs.drop n)
  | _, _, 0, a => a
  | [], _, n + 1, a => by rw [RpA.unnil a]; exact RpA.nil
  | d :: ds, _, n + 1, a => by
    obtain ⟨v, r, q, p, z⟩ := RpA.uncons a
    subst q
    exact RpA.drop n z
theorem RpA.set : ∀ {ds : List D} {vs : List V} {d : D} {v : V} (i : Nat), RpA T H ds vs → Rp T H d v → RpA T H (ds.set i d) (vs.set i v)
  | [], _, _, _, i, a, _ => by rw [RpA.unnil a]; exact RpA.nil
  | x :: ds, _, _, _, 0, a, b => by
    obtain ⟨v, r, q, p, z⟩ := RpA.uncons a
    subst q
    exact RpA.cons b z
  | x :: ds, _, _, _, i + 1, a, b => by
    obtain ⟨v, r, q, p, z⟩ := RpA.uncons a
    subst q
    exact RpA.cons p (RpA.set i z b)
theorem RpA.rev : ∀ {ds : List D} {vs : List V}, RpA T H ds vs → RpA T H ds.reverse vs.reverse
  | [], _, a => by rw [RpA.unnil a]; exact RpA.nil
  | d :: ds, _, a => by
    obtain ⟨v, r, q, p, z⟩ := RpA.uncons a
    subst q
    rw [List.reverse_cons, List.reverse_cons]
    exact RpA.append (RpA.rev z) (RpA.cons p RpA.nil)
theorem RpA.dropLast {ds : List D} {vs : List V} (a : RpA T H ds vs) : RpA T H ds.dropLast vs.dropLast := by
  rw [List.dropLast_eq_take, List.dropLast_eq_take, RpA.length a]
  exact RpA.take _ a
theorem RpA.rep {ds : List D} {vs : List V} (a : RpA T H ds vs) : ∀ k : Nat, RpA T H (List.replicate k ds).flatten (List.replicate k vs).flatten
  | 0 => RpA.nil
  | k + 1 => by
    rw [List.replicate_succ, List.replicate_succ, List.flatten_cons, List.flatten_cons]
    exact RpA.append a (RpA.rep a k)
end

/-! ### the state -/
def owns : Sl → Bool
  | .ml _ => true | .md _ => true | .mi _ _ => true | _ => false

def EntOk (T : Wd) (Hf : Hp) : List (D × D) → List (NestedKey × Addr × Value) → Prop
  | [], xs => xs = []
  | p :: r, xs => ∃ key a val v q, xs = (key, a, val) :: q ∧ nk p.1 = some key ∧ key.depth ≤ 8 ∧ Rp T Hf p.1 (.ref a) ∧ Rp T Hf p.2 v ∧ RelV v val ∧ EntOk T Hf r q
theorem EntOk.mono {T : Wd} {H H' : Hp} (s : Same H H') : ∀ {kvs : List (D × D)} {xs : List (NestedKey × Addr × Value)}, EntOk T H kvs xs → EntOk T H' kvs xs
  | [], _, h => h
  | p :: r, _, ⟨key, a, val, v, q, e, n, hd, r1, r2, rv, t⟩ => ⟨key, a, val, v, q, e, n, hd, Rp.mono s _ _ r1, Rp.mono s _ _ r2, rv, EntOk.mono s t⟩
/-- a dict at p: its keys and values stand in Hf -/
def DictAt (T : Wd) (Hf H : Hp) (p : Addr) (kvs : List (D × D)) : Prop := (p == sysModules) = false ∧ ∃ xs ep, H p = some (dHO T xs ep p) ∧ (xs.map (·.1)).Nodup ∧ EntOk T Hf kvs xs
def SlOk (T : Wd) (Hf G H : Hp) (o : Option (Option V)) : Sl → Prop
  | .un => True
  | .im d => ∃ v, o = some (some v) ∧ Rp T Hf d v
  | .ml ds => ∃ p vs, o = some (some (.ref p)) ∧ Hf p = none ∧ G p = none ∧ H p = some (.lst vs) ∧ RpA T Hf ds vs
  | .md kvs => ∃ p, o = some (some (.ref p)) ∧ Hf p = none ∧ G p = none ∧ DictAt T Hf H p kvs
  | .mi c fs => ∃ p C dx vs, o = some (some (.ref p)) ∧ Hf p = none ∧ G p = none ∧ H p = some (.ins C dx vs) ∧ T.mg c = some (.ref C) ∧ RpF T Hf fs vs
/-- the frame's fixed part: the world, the slots that callers share, the slots at the start -/
structure Fx where
  T : Wd
  mp : List Nat
  s0 : St
/-- the tables of code objects -/
def TabF (T : Wd) (Hf G H : Hp) : Prop := ∀ p ∈ T.tb, Hf p.1 = none ∧ G p.1 = none ∧ ∃ ps : Array Value, H p.1 = some (.tbl ps) ∧ TriplesOk ps.toList ∧ ∀ (pos : Pos) (cv : Value), codeAmong pos ps.toList = some cv → ∃ c, cv = .ref c ∧ Hf c = some (LamX.CodeO c p.2)
section
variable {T : Wd} {Hf G H H' : Hp}
theorem TabF.neN (t : TabF T Hf G H) {p : Addr} (h : H p = none) : ∀ q ∈ T.tb, q.1 ≠ p := fun q hq e => by
  obtain ⟨_, _, ps, z, _⟩ := t q hq
  rw [e, h] at z; cases z
theorem TabF.ne (t : TabF T Hf G H) {p : Addr} {o : HO} (h : H p = some o) (n : ∀ ps, o ≠ .tbl ps) : ∀ q ∈ T.tb, q.1 ≠ p := fun q hq e => by
  obtain ⟨_, _, ps, z, _⟩ := t q hq
  rw [e, h] at z
  exact n ps (Option.some.inj z)
theorem TabF.grow (t : TabF T Hf G H) (s : Same H H') : TabF T Hf G H' := fun q hq => by
  obtain ⟨a, b, ps, c, d⟩ := t q hq
  exact ⟨a, b, ps, s _ _ c, d⟩
theorem TabF.fup (t : TabF T Hf G H) {p : Addr} {o : HO} (n : Hf p = none) (h : ∀ q ∈ T.tb, q.1 ≠ p) : TabF T (upd Hf p o) G H := fun q hq => by
  obtain ⟨a, b, ps, c, d, e⟩ := t q hq
  refine ⟨by rw [upd_ne (h q hq)]; exact a, b, ps, c, d, fun pos cv hc => ?_⟩
  obtain ⟨x, e1, e2⟩ := e pos cv hc
  exact ⟨x, e1, by rw [upd_ne (ne_of_none e2 n)]; exact e2⟩
theorem TabF.hup (t : TabF T Hf G H) {p : Addr} {o : HO} (h : ∀ q ∈ T.tb, q.1 ≠ p) : TabF T Hf G (upd H p o) := fun q hq => by
  obtain ⟨a, b, ps, c, d⟩ := t q hq
  exact ⟨a, b, ps, by rw [upd_ne (h q hq)]; exact c, d⟩
theorem TabF.gup (t : TabF T Hf G H) {p : Addr} {o : HO} (h : ∀ q ∈ T.tb, q.1 ≠ p) : TabF T Hf (upd G p o) H := fun q hq => by
  obtain ⟨a, b, ps, c, d⟩ := t q hq
  exact ⟨a, by rw [upd_ne (h q hq)]; exact b, ps, c, d⟩
theorem TabF.gdn {p : Addr} {o : HO} (t : TabF T Hf (upd G p o) H) : TabF T Hf G H ∧ ∀ q ∈ T.tb, q.1 ≠ p := by
  have ne : ∀ q ∈ T.tb, q.1 ≠ p := fun q hq e => by
    have := (t q hq).2.1
    rw [e, upd_same] at this; cases this
  refine ⟨fun q hq => ?_, ne⟩
  obtain ⟨a, b, ps, c, d⟩ := t q hq
  exact ⟨a, by rw [upd_ne (ne q hq)] at b; exact b, ps, c, d⟩
end
structure RR (F : Fx) (Hf G : Hp) (σ : St) (H : Hp) (ρ : Rho) : Prop where
  fz : Same Hf H
  fg : Same G H
  dj : ∀ b o, G b = some o → Hf b = none
  len : ρ.length = σ.length
  sl : ∀ (i : Nat) x, ρ[i]? = some x → SlOk F.T Hf G H σ[i]? x
  ds : ∀ (i j : Nat) x y p, i ≠ j → ρ[i]? = some x → ρ[j]? = some y → owns x = true → owns y = true → σ[i]? = some (some (.ref p)) → σ[j]? = some (some (.ref p)) → False
  kp : ∀ i ∈ F.mp, σ[i]? = F.s0[i]?
  tb : TabF F.T Hf G H

theorem SlOk.at {T : Wd} {Hf G H H' : Hp} {o : Option (Option V)} : ∀ {x : Sl}, SlOk T Hf G H o x → (∀ p u, owns x = true → o = some (some (.ref p)) → H p = some u → H' p = some u) → SlOk T Hf G H' o x
  | .un, h, _ => trivial
  | .im d, h, _ => h
  | .ml ds, ⟨p, vs, a, b, c, d, e⟩, k => ⟨p, vs, a, b, c, k p _ rfl a d, e⟩
  | .md kvs, ⟨p, a, b, c, d1, xs, ep, d2, d3⟩, k => ⟨p, a, b, c, d1, xs, ep, k p _ rfl a d2, d3⟩
  | .mi c fs, ⟨p, C, dx, vs, a, b, c1, d, e⟩, k => ⟨p, C, dx, vs, a, b, c1, k p _ rfl a d, e⟩
theorem SlOk.fz {T : Wd} {Hf Hf' G H : Hp} {o : Option (Option V)} (s : Same Hf Hf') : ∀ {x : Sl}, SlOk T Hf G H o x → (∀ p, owns x = true → o = some (some (.ref p)) → Hf' p = none) → SlOk T Hf' G H o x
  | .un, h, _ => trivial
  | .im d, ⟨v, e, h⟩, _ => ⟨v, e, Rp.mono s d v h⟩
  | .ml ds, ⟨p, vs, a, b, c, d, e⟩, k => ⟨p, vs, a, k p rfl a, c, d, RpA.mono s _ _ e⟩
  | .md kvs, ⟨p, a, b, c, d1, xs, ep, d2, d3, d4⟩, k => ⟨p, a, k p rfl a, c, d1, xs, ep, d2, d3, d4.mono s⟩
  | .mi c fs, ⟨p, C, dx, vs, a, b, c1, d, m, e⟩, k => ⟨p, C, dx, vs, a, k p rfl a, c1, d, m, RpF.mono s _ _ e⟩

theorem Same.updN {H : Hp} {p : Addr} {o : HO} (n : H p = none) : Same H (upd H p o) := fun b u e => by
  rw [upd_ne (ne_of_none e n)]
  exact e

section
variable {F : Fx} {Hf G H : Hp} {σ : St} {ρ : Rho}
/-- an owned slot's address is not in the frozen heap and stands -/
theorem RR.own (R : RR F Hf G σ H ρ) {i : Nat} {x : Sl} {p : Addr} (e : ρ[i]? = some x) (ho : owns x = true) (hp : σ[i]? = some (some (.ref p))) : Hf p = none ∧ G p = none ∧ ∃ u, H p = some u := by
  have h := R.sl i x e
  rw [hp] at h
  cases x with
  | un => cases ho
  | im d => cases ho
  | ml ds => obtain ⟨q, vs, a, b, c, d, _⟩ := h; cases a; exact ⟨b, c, _, d⟩
  | md kvs => obtain ⟨q, a, b, c, _, xs, ep, d, _⟩ := h; cases a; exact ⟨b, c, _, d⟩
  | mi c fs => obtain ⟨q, C, dx, vs, a, b, c1, d, _⟩ := h; cases a; exact ⟨b, c1, _, d⟩
theorem RR.ownT (R : RR F Hf G σ H ρ) {i : Nat} {x : Sl} {p : Addr} (e : ρ[i]? = some x) (ho : owns x = true) (hp : σ[i]? = some (some (.ref p))) : ∀ q ∈ F.T.tb, q.1 ≠ p := by
  have h := R.sl i x e
  rw [hp] at h
  cases x with
  | un => cases ho
  | im d => cases ho
  | ml ds => obtain ⟨q, vs, a, b, c, d, _⟩ := h; cases a; exact R.tb.ne d fun ps z => by cases z
  | md kvs => obtain ⟨q, a, b, c, _, xs, ep, d, _⟩ := h; cases a; exact R.tb.ne d fun ps z => by unfold dHO at z; cases z
  | mi c fs => obtain ⟨q, C, dx, vs, a, b, c1, d, _⟩ := h; cases a; exact R.tb.ne d fun ps z => by cases z
/-- the heap grows -/
theorem RR.grow {H' : Hp} (R : RR F Hf G σ H ρ) (s : Same H H') : RR F Hf G σ H' ρ :=
  ⟨R.fz.trans s, R.fg.trans s, R.dj, R.len, fun i x e => (R.sl i x e).at fun p u _ _ q => s _ _ q, R.ds, R.kp, R.tb.grow s⟩
/-- what stands apart is frozen -/
theorem RR.freeze {p : Addr} {o : HO} (R : RR F Hf G σ H ρ) (h : H p = some o) (n : Hf p = none) (g : G p = none) (k : ∀ (i : Nat) x, ρ[i]? = some x → owns x = true → σ[i]? ≠ some (some (.ref p))) (nt : ∀ q ∈ F.T.tb, q.1 ≠ p) : RR F (upd Hf p o) G σ H ρ := by
  refine ⟨fun b u e => ?_, R.fg, fun b u e => ?_, R.len, fun i x e => (R.sl i x e).fz (Same.updN n) fun q ho hq => ?_, R.ds, R.kp, R.tb.fup n nt⟩
  · by_cases hb : b = p
    · subst hb; rw [upd_same] at e; rw [h]; exact e
    · rw [upd_ne hb] at e; exact R.fz b u e
  · have hb : b ≠ p := fun z => by subst z; rw [g] at e; cases e
    rw [upd_ne hb]; exact R.dj b u e
  · have hb : q ≠ p := fun z => by subst z; exact k i x e ho hq
    rw [upd_ne hb]; exact (R.own e ho hq).1
/-- a new object, frozen at once -/
theorem RR.new {p : Addr} {o : HO} (R : RR F Hf G σ H ρ) (n : H p = none) : RR F (upd Hf p o) G σ (upd H p o) ρ := by
  refine (R.grow (Same.updN n)).freeze upd_same (R.fz.free n) (R.fg.free n) (fun i x e ho q => ?_) (R.tb.neN n)
  obtain ⟨_, _, u, z⟩ := R.own e ho q
  rw [n] at z; cases z
theorem RR.sameN {p : Addr} {o : HO} (R : RR F Hf G σ H ρ) (n : H p = none) : Same Hf (upd Hf p o) := Same.updN (R.fz.free n)
/-- a fresh owned object -/
def Fresh (Hf G : Hp) (σ : St) (ρ : Rho) (p : Addr) : Prop := Hf p = none ∧ G p = none ∧ ∀ (i : Nat) x, ρ[i]? = some x → owns x = true → σ[i]? ≠ some (some (.ref p))
theorem RR.fresh {p : Addr} (R : RR F Hf G σ H ρ) (n : H p = none) : Fresh Hf G σ ρ p :=
  ⟨R.fz.free n, R.fg.free n, fun i x e ho q => by obtain ⟨_, _, u, z⟩ := R.own e ho q; rw [n] at z; cases z⟩
theorem lt_of_get {α : Type} {l : List α} {i : Nat} {x : α} (h : l[i]? = some x) : i < l.length := (List.getElem?_eq_some_iff.mp h).1
theorem get_set_cases {α : Type} {l : List α} {i j : Nat} {x y : α} (h : (l.set i x)[j]? = some y) : (j = i ∧ y = x ∧ i < l.length) ∨ (j ≠ i ∧ l[j]? = some y) := by
  by_cases e : j = i
  · subst e
    have hl : j < l.length := by simpa using lt_of_get h
    rw [List.getElem?_set_self hl] at h
    exact .inl ⟨rfl, (Option.some.inj h).symm, hl⟩
  · rw [List.getElem?_set_ne (Ne.symm e)] at h
    exact .inr ⟨e, h⟩
/-- a slot takes data -/
theorem RR.set {i : Nat} {d : D} {v : V} (R : RR F Hf G σ H ρ) (hm : i ∉ F.mp) (r : Rp F.T Hf d v) : RR F Hf G (σ.set i (some v)) H (ρ.set i (.im d)) := by
  refine ⟨R.fz, R.fg, R.dj, by simpa using R.len, fun j x e => ?_, fun j k x y p hjk ex ey ox oy hx hy => ?_, fun j hj => ?_, R.tb⟩
  · rcases get_set_cases e with ⟨rfl, rfl, hl⟩ | ⟨hj, e⟩
    · rw [List.getElem?_set_self (by rw [← R.len]; exact hl)]
      exact ⟨v, rfl, r⟩
    · rw [List.getElem?_set_ne (Ne.symm hj)]
      exact R.sl j x e
  · rcases get_set_cases ex with ⟨rfl, rfl, _⟩ | ⟨hj, ex⟩
    · cases ox
    · rcases get_set_cases ey with ⟨rfl, rfl, _⟩ | ⟨hk, ey⟩
      · cases oy
      · rw [List.getElem?_set_ne (Ne.symm hj)] at hx
        rw [List.getElem?_set_ne (Ne.symm hk)] at hy
        exact R.ds j k x y p hjk ex ey ox oy hx hy
  · have : j ≠ i := fun z => hm (z ▸ hj)
    rw [List.getElem?_set_ne (Ne.symm this)]
    exact R.kp j hj
/-- a slot is forgotten -/
theorem RR.drop {i : Nat} (R : RR F Hf G σ H ρ) (hm : i ∉ F.mp) (o : Option V) : RR F Hf G (σ.set i o) H (ρ.set i .un) := by
  refine ⟨R.fz, R.fg, R.dj, by simpa using R.len, fun j x e => ?_, fun j k x y p hjk ex ey ox oy hx hy => ?_, fun j hj => ?_, R.tb⟩
  · rcases get_set_cases e with ⟨rfl, rfl, hl⟩ | ⟨hj, e⟩
    · trivial
    · rw [List.getElem?_set_ne (Ne.symm hj)]
      exact R.sl j x e
  · rcases get_set_cases ex with ⟨rfl, rfl, _⟩ | ⟨hj, ex⟩
    · cases ox
    · rcases get_set_cases ey with ⟨rfl, rfl, _⟩ | ⟨hk, ey⟩
      · cases oy
      · rw [List.getElem?_set_ne (Ne.symm hj)] at hx
        rw [List.getElem?_set_ne (Ne.symm hk)] at hy
        exact R.ds j k x y p hjk ex ey ox oy hx hy
  · have : j ≠ i := fun z => hm (z ▸ hj)
    rw [List.getElem?_set_ne (Ne.symm this)]
    exact R.kp j hj
/-- a slot takes a fresh list -/
theorem RR.setO {i : Nat} {x : Sl} {p : Addr} (R : RR F Hf G σ H ρ) (hm : i ∉ F.mp) (f : Fresh Hf G σ ρ p) (hx : SlOk F.T Hf G H (some (some (.ref p))) x) : RR F Hf G (σ.set i (some (.ref p))) H (ρ.set i x) := by
  refine ⟨R.fz, R.fg, R.dj, by simpa using R.len, fun j y e => ?_, fun j k y z q hjk ey ez oy oz hy hz => ?_, fun j hj => ?_, R.tb⟩
  · rcases get_set_cases e with ⟨rfl, rfl, hl⟩ | ⟨hj, e⟩
    · rw [List.getElem?_set_self (by rw [← R.len]; exact hl)]
      exact hx
    · rw [List.getElem?_set_ne (Ne.symm hj)]
      exact R.sl j y e
  · rcases get_set_cases ey with ⟨rfl, rfl, hl⟩ | ⟨hj, ey⟩
    · rw [List.getElem?_set_self (by rw [← R.len]; exact hl)] at hy
      cases hy
      rcases get_set_cases ez with ⟨rfl, _, _⟩ | ⟨hk, ez⟩
      · exact hjk rfl
      · rw [List.getElem?_set_ne (Ne.symm hk)] at hz
        exact f.2.2 k z ez oz hz
    · rw [List.getElem?_set_ne (Ne.symm hj)] at hy
      have ey2 := ey
      rcases get_set_cases ez with ⟨e1, e2, hl⟩ | ⟨hk, ez⟩
      · subst e1
        rw [List.getElem?_set_self (by rw [← R.len]; exact hl)] at hz
        cases hz
        exact f.2.2 j y ey2 oy hy
      · rw [List.getElem?_set_ne (Ne.symm hk)] at hz
        exact R.ds j k y z q hjk ey ez oy oz hy hz
  · have : j ≠ i := fun z => hm (z ▸ hj)
    rw [List.getElem?_set_ne (Ne.symm this)]
    exact R.kp j hj
/-- an owned object is changed in place -/
theorem RR.wr {i : Nat} {x y : Sl} {p : Addr} {o : HO} (R : RR F Hf G σ H ρ) (e : ρ[i]? = some x) (ho : owns x = true) (hp : σ[i]? = some (some (.ref p))) (hy : SlOk F.T Hf G (upd H p o) (some (some (.ref p))) y) : RR F Hf G σ (upd H p o) (ρ.set i y) := by
  obtain ⟨n, g, u, hu⟩ := R.own e ho hp
  have kH : ∀ b v, b ≠ p → H b = some v → upd H p o b = some v := fun b v hb q => by rw [upd_ne hb]; exact q
  refine ⟨fun b v q => kH b v (fun z => by subst z; rw [n] at q; cases q) (R.fz b v q), fun b v q => kH b v (fun z => by subst z; rw [g] at q; cases q) (R.fg b v q), R.dj, by simpa using R.len, fun j z ez => ?_, fun j k z z' q hjk ez ez' oz oz' hz hz' => ?_, R.kp, R.tb.hup (R.ownT e ho hp)⟩
  · rcases get_set_cases ez with ⟨rfl, rfl, _⟩ | ⟨hj, ez⟩
    · rw [hp]; exact hy
    · refine (R.sl j z ez).at fun q v hoz hq hv => kH q v (fun w => ?_) hv
      subst w
      exact R.ds j i z x q hj ez e hoz ho hq hp
  · have back : ∀ {j : Nat} {z : Sl}, (ρ.set i y)[j]? = some z → owns z = true → ∃ z', ρ[j]? = some z' ∧ owns z' = true := fun {j z} ez oz => by
      rcases get_set_cases ez with ⟨rfl, _, _⟩ | ⟨_, ez⟩
      · exact ⟨x, e, ho⟩
      · exact ⟨z, ez, oz⟩
    obtain ⟨a, ea, oa⟩ := back ez oz
    obtain ⟨b, eb, ob⟩ := back ez' oz'
    exact R.ds j k a b q hjk ea eb oa ob hz hz'
end
end DS
namespace DS
open PySem L2

/-- an expression that is read as it stands -/
def okE : Expr → Bool
  | .Starred .. => false | .Set .. => false | .SetComp .. => false | .DictComp .. => false | .Slice .. => false
  | _ => true
def noLc : Expr → Bool
  | .ListComp .. => false
  | _ => true
theorem star_ok {e : Expr} (h : okE e = true) (es : List Expr) (env : Env) : starEach (e :: es) env = (false, eval e env) :: starEach es env := by
  cases e <;> first | rfl | cases h
theorem sw_ok {e : Expr} (h : okE e = true) (h2 : noLc e = true) (t : Option Expr) (l : Nat) (env : Env) : swapsWith e t l env = pure false := by
  cases e <;> first | rfl | exact Bool.noConfusion h | exact Bool.noConfusion h2
theorem sws_ok {e : Expr} (h : okE e = true) (h2 : noLc e = true) (t : Expr) (l : Nat) (env : Env) : swapsWithSole [t] e l env = pure false := sw_ok h h2 (some t) l env
theorem fold_ok {e : Expr} (h : okE e = true) (env : Env) (x : Value) : foldedSetIterable e env x = pure x := by
  cases e <;> first | rfl | cases h
theorem ix_ok {e : Expr} (h : okE e = true) : PlainIx e := fun o i => by
  cases e <;> first | rfl | cases h
theorem mark_ok {e : Expr} {op : CmpOp} (h : okE e = true) : behindInMarks op e = false := by
  cases e <;> first | rfl | cases h

structure DC where
  X : Cx
  W : WX
  mp : List Nat
  s0 : St
  tb : List (Addr × Str)
@[reducible] def DC.T (C : DC) : Wd := ⟨C.X.prog, C.X.w, C.X.K, C.X.mg, C.X.base, C.tb⟩
@[reducible] def DC.F (C : DC) : Fx := ⟨C.T, C.mp, C.s0⟩
def XR (T : Wd) (Hf : Hp) (e : Exn) (cls : Value) (dd : Option Addr) : Prop :=
  T.mg e.cls = some cls ∧ ((e.fs = [] ∧ dd = none) ∨ e.fs ≠ [] ∧ ∃ d vs, dd = some d ∧ Hf d = some (.xd vs) ∧ RpF T Hf e.fs vs)

abbrev Rel (β α : Type) := Hp → Hp → St → Hp → Rho → β → α → Prop
def Post (C : DC) {α β : Type} (rel : Rel β α) (Hf G : Hp) (σ : St) (Q : β → Hp → Prop) : Res α → Prop
  | .ok a ρ => ∀ b H Hf', Same Hf Hf' → RR C.F Hf' G σ H ρ → rel Hf' G σ H ρ b a → Q b H
  | .ex e ρ => ∀ cls dd H Hf', Same Hf Hf' → RR C.F Hf' G σ H ρ → XR C.T Hf' e cls dd → C.W cls dd σ H
  | .no => False
def Lft (C : DC) {α β : Type} (rel : Rel β α) (m : M α) : St → Hp → (β → Hp → Prop) → Prop := fun σ H Q => ∃ Hf G ρ, RR C.F Hf G σ H ρ ∧ Post C rel Hf G σ Q (m ρ)
theorem Post.up {C : DC} {α β : Type} {rel : Rel β α} {Hf Hf1 G : Hp} {σ : St} {Q : β → Hp → Prop} (s : Same Hf Hf1) : ∀ {r : Res α}, Post C rel Hf G σ Q r → Post C rel Hf1 G σ Q r
  | .ok a ρ, h => fun b H Hf' s' => h b H Hf' (s.trans s')
  | .ex e ρ, h => fun cls dd H Hf' s' => h cls dd H Hf' (s.trans s')
  | .no, h => h
/-- one part, then the rest -/
theorem post_bind {C : DC} {α β γ δ : Type} {rel : Rel β α} {rel2 : Rel δ γ} {ma : M α} {f : α → M γ} {Hf G : Hp} {σ : St} {H : Hp} {ρ : Rho} {Q : δ → Hp → Prop} {R : β → Hp → Prop} (rr : RR C.F Hf G σ H ρ) (h : Post C rel2 Hf G σ Q (bnd ma f ρ))
    (k : ∀ b a H1 Hf1 ρ1, Same Hf Hf1 → RR C.F Hf1 G σ H1 ρ1 → rel Hf1 G σ H1 ρ1 b a → Post C rel2 Hf1 G σ Q (f a ρ1) → R b H1) : Lft C rel ma σ H R := by
  refine ⟨Hf, G, ρ, rr, ?_⟩
  unfold bnd at h
  cases e : ma ρ with
  | ok a ρ1 =>
    rw [e] at h
    exact fun b H1 Hf1 s r1 r => k b a H1 Hf1 ρ1 s r1 r (h.up s)
  | ex x ρ1 => rw [e] at h; exact h
  | no => rw [e] at h; exact h
theorem opt_post {C : DC} {α β : Type} {rel : Rel β α} {Hf G : Hp} {σ : St} {ρ : Rho} {Q : β → Hp → Prop} {o : Option α} (h : Post C rel Hf G σ Q (opt o ρ)) : ∃ a, o = some a ∧ ∀ b H Hf', Same Hf Hf' → RR C.F Hf' G σ H ρ → rel Hf' G σ H ρ b a → Q b H := by
  cases o with
  | none => exact h.elim
  | some a => exact ⟨a, rfl, h⟩

/-- data whose outermost list stands in the whole heap -/
def RpT (T : Wd) (Hf H : Hp) : D → V → Prop
  | .list ds, v => ∃ a xs, v = .ref a ∧ SqL T.K H a xs ∧ RpA T Hf ds xs
  | d, v => Rp T Hf d v
theorem Rp.top {T : Wd} {Hf H : Hp} (s : Same Hf H) {d : D} {v : V} (h : Rp T Hf d v) : RpT T Hf H d v := by
  cases d with
  | list ds =>
    simp only [Rp] at h
    obtain ⟨a, xs, e, q, r⟩ := h
    exact ⟨a, xs, e, s.seq q, r⟩
  | none => exact h
  | bool b => exact h
  | int i => exact h
  | str x => exact h
  | tuple ds => exact h
  | dict kvs => exact h
theorem RpT.low {T : Wd} {Hf H : Hp} (s : Same Hf H) {d : D} {v : V} (h : RpT T Hf H d v) : Rp T H d v := by
  cases d with
  | list ds =>
    obtain ⟨a, xs, e, q, r⟩ := h
    simp only [Rp]
    exact ⟨a, xs, e, q, RpA.mono s _ _ r⟩
  | none => exact Rp.mono s _ _ h
  | bool b => exact Rp.mono s _ _ h
  | int i => exact Rp.mono s _ _ h
  | str x => exact Rp.mono s _ _ h
  | tuple ds => exact Rp.mono s _ _ h
  | dict kvs => exact Rp.mono s _ _ h

abbrev relE (T : Wd) : Rel V D := fun Hf _ _ _ _ v d => Rp T Hf d v
abbrev relK (T : Wd) : Rel V D := fun Hf _ _ H _ v d => RpT T Hf H d v
abbrev relB : Rel Bool Bool := fun _ _ _ _ _ b a => b = a
abbrev relF (T : Wd) : Rel V (List D) := fun Hf G σ H ρ v ds => ∃ p vs, v = .ref p ∧ Fresh Hf G σ ρ p ∧ H p = some (.lst vs) ∧ RpA T Hf ds vs

structure DE (C : DC) (e : Expr) (m : M D) : Prop where
  pe : PE C.X e (Lft C (relE C.T) m)
  ok : okE e = true
/-- read on the spot: nothing is kept of it -/
structure DK (C : DC) (e : Expr) (m : M D) : Prop where
  pe : PE C.X e (Lft C (relK C.T) m)
  ok : okE e = true
/-- a new list -/
structure DF (C : DC) (e : Expr) (m : M (List D)) : Prop where
  pe : PE C.X e (Lft C (relF C.T) m)
  ok : okE e = true
structure DT (C : DC) (e : Expr) (m : M Bool) : Prop where
  pt : PT C.X e (Lft C relB m)

theorem PE.imp {X : Cx} {e : Expr} {t t' : TE} (h : PE X e t) (k : ∀ σ H Q, t' σ H Q → t σ H Q) : PE X e t' := ⟨fun pins s σ H Q I hw => h.run pins s σ H Q I (k _ _ _ hw)⟩
theorem PT.imp {X : Cx} {e : Expr} {t t' : TT} (h : PT X e t) (k : ∀ σ H Q, t' σ H Q → t σ H Q) : PT X e t' := ⟨fun pins s σ H Q I hw => h.run pins s σ H Q I (k _ _ _ hw)⟩
theorem PS.imp {X : Cx} {e : Stmt} {t t' : TS} (h : PS X e t) (k : ∀ D σ H, t' D σ H → t D σ H) : PS X e t' := ⟨fun pins s σ H Q I hw => h.run pins s σ H Q I (k _ _ _ hw)⟩
theorem PSs.imp {X : Cx} {e : List Stmt} {t t' : TS} (h : PSs X e t) (k : ∀ D σ H, t' D σ H → t D σ H) : PSs X e t' := ⟨fun pins s σ H Q I hw => h.run pins s σ H Q I (k _ _ _ hw)⟩

theorem Lft.rel {C : DC} {α β : Type} {rel rel' : Rel β α} {m : M α} (k : ∀ Hf G σ H ρ b a, RR C.F Hf G σ H ρ → rel Hf G σ H ρ b a → rel' Hf G σ H ρ b a) : ∀ σ H Q, Lft C rel' m σ H Q → Lft C rel m σ H Q := fun σ H Q ⟨Hf, G, ρ, rr, h⟩ => by
  refine ⟨Hf, G, ρ, rr, ?_⟩
  cases e : m ρ with
  | ok a ρ1 => rw [e] at h; exact fun b H1 Hf1 s r1 r => h b H1 Hf1 s r1 (k _ _ _ _ _ _ _ r1 r)
  | ex x ρ1 => rw [e] at h; exact h
  | no => rw [e] at h; exact h
theorem DE.k {C : DC} {e : Expr} {m : M D} (h : DE C e m) : DK C e m := ⟨PE.imp h.pe (Lft.rel fun _ _ _ _ _ _ _ r1 r => Rp.top r1.fz r), h.ok⟩
/-- a new list, frozen -/
def frzM (m : M (List D)) : M D := bnd m fun ds => ret (.list ds)
theorem DF.e {C : DC} {e : Expr} {m : M (List D)} (h : DF C e m) : DE C e (frzM m) := by
  refine ⟨PE.imp h.pe fun σ H Q ⟨Hf, G, ρ, rr, hh⟩ => ?_, h.ok⟩
  refine post_bind rr hh fun v ds H1 Hf1 ρ1 s r1 r p => ?_
  obtain ⟨q, vs, e, f, hq, ra⟩ := r
  subst e
  refine p (.ref q) H1 (upd Hf1 q (.lst vs)) (Same.updN f.1) (r1.freeze hq f.1 f.2.1 f.2.2 (r1.tb.ne hq fun ps z => by cases z)) ?_
  simp only [Rp]
  exact ⟨q, vs, rfl, SqL.of upd_same, RpA.mono (Same.updN f.1) _ _ ra⟩

/-! ### names -/
/-- a slot is read; a list of one's own is frozen -/
def rd (i : Nat) : M D := fun ρ => match ρ[i]? with
  | some (.im d) => .ok d ρ
  | some (.ml ds) => .ok (.list ds) (ρ.set i (.im (.list ds)))
  | _ => .no
/-- .. on the spot -/
def pk (i : Nat) : M D := fun ρ => match ρ[i]? with
  | some (.im d) => .ok d ρ
  | some (.ml ds) => .ok (.list ds) ρ
  | _ => .no
theorem RR.frz {F : Fx} {Hf G H : Hp} {σ : St} {ρ : Rho} {i : Nat} {ds : List D} {p : Addr} {vs : List V} (R : RR F Hf G σ H ρ) (e : ρ[i]? = some (.ml ds)) (hp : σ[i]? = some (some (.ref p))) (n : Hf p = none) (g : G p = none) (hH : H p = some (.lst vs)) (ra : RpA F.T Hf ds vs) :
    RR F (upd Hf p (.lst vs)) G σ H (ρ.set i (.im (.list ds))) := by
  have sm : Same Hf (upd Hf p (.lst vs)) := Same.updN n
  refine ⟨fun b u q => ?_, R.fg, fun b u q => ?_, by simpa using R.len, fun j x ex => ?_, fun j k x y q hjk ex ey ox oy hx hy => ?_, R.kp, R.tb.fup n (R.ownT e rfl hp)⟩
  · by_cases hb : b = p
    · subst hb; rw [upd_same] at q; rw [hH]; exact q
    · rw [upd_ne hb] at q; exact R.fz b u q
  · have hb : b ≠ p := fun z => by subst z; rw [g] at q; cases q
    rw [upd_ne hb]; exact R.dj b u q
  · rcases get_set_cases ex with ⟨rfl, rfl, _⟩ | ⟨hj, ex⟩
    · refine ⟨.ref p, hp, ?_⟩
      simp only [Rp]
      exact ⟨p, vs, rfl, SqL.of upd_same, RpA.mono sm _ _ ra⟩
    · refine (R.sl j x ex).fz sm fun q ho hq => ?_
      have hb : q ≠ p := fun z => by subst z; exact R.ds j i x _ q hj ex e ho rfl hq hp
      rw [upd_ne hb]; exact (R.own ex ho hq).1
  · rcases get_set_cases ex with ⟨rfl, rfl, _⟩ | ⟨hj, ex⟩
    · cases ox
    · rcases get_set_cases ey with ⟨rfl, rfl, _⟩ | ⟨hk, ey⟩
      · cases oy
      · exact R.ds j k x y q hjk ex ey ox oy hx hy
theorem tv_rd {C : DC} {i : Nat} : ∀ σ H Q, Lft C (relE C.T) (rd i) σ H Q → tVar i σ H Q := fun σ H Q ⟨Hf, G, ρ, rr, h⟩ => by
  unfold rd at h
  cases e : ρ[i]? with
  | none => simp only [e] at h; exact h.elim
  | some x =>
    have hs := rr.sl i x e
    cases x with
    | un => simp only [e] at h; exact h.elim
    | im d =>
      simp only [e] at h
      obtain ⟨v, hv, r⟩ := hs
      exact ⟨v, hv, h v H Hf (Same.refl _) rr r⟩
    | ml ds =>
      simp only [e] at h
      obtain ⟨p, vs, hp, n, g, hH, ra⟩ := hs
      refine ⟨.ref p, hp, h (.ref p) H _ (Same.updN n) (rr.frz e hp n g hH ra) ?_⟩
      simp only [Rp]
      exact ⟨p, vs, rfl, SqL.of upd_same, RpA.mono (Same.updN n) _ _ ra⟩
    | md kvs => simp only [e] at h; exact h.elim
    | mi c fs => simp only [e] at h; exact h.elim
theorem tv_pk {C : DC} {i : Nat} : ∀ σ H Q, Lft C (relK C.T) (pk i) σ H Q → tVar i σ H Q := fun σ H Q ⟨Hf, G, ρ, rr, h⟩ => by
  unfold pk at h
  cases e : ρ[i]? with
  | none => simp only [e] at h; exact h.elim
  | some x =>
    have hs := rr.sl i x e
    cases x with
    | un => simp only [e] at h; exact h.elim
    | im d =>
      simp only [e] at h
      obtain ⟨v, hv, r⟩ := hs
      exact ⟨v, hv, h v H Hf (Same.refl _) rr (Rp.top rr.fz r)⟩
    | ml ds =>
      simp only [e] at h
      obtain ⟨p, vs, hp, n, g, hH, ra⟩ := hs
      exact ⟨.ref p, hp, h (.ref p) H Hf (Same.refl _) rr ⟨p, vs, rfl, SqL.of hH, ra⟩⟩
    | md kvs => simp only [e] at h; exact h.elim
    | mi c fs => simp only [e] at h; exact h.elim

/-- what holds of a context: the def's names by slot; the slots that are read, those that are stored; the module's names -/
structure Nm where
  N : List Str
  vs : List Nat
  ws : List Nat
  gs : List Str
  bs : List Str
  bn : List Str
  mp : List Nat
  ls : List Nat
  cs : List Nat
  lv : Nat
  fs : Wd → Prop
  top : Bool
def locB (sc : Scope) (x : Str) : Bool := sc.names.lookup x == some .local || sc.names.lookup x == some .cell
def visB (sc : Scope) (x : Str) : Bool := sc.names.lookup x == some .local || sc.names.lookup x == some .cell || sc.names.lookup x == some .free
def glB (sc : Scope) (x : Str) : Bool := sc.names.lookup x == some .globalImplicit
def plB (x : Str) : Bool := !(x == ("__debug__" : Str)) && !(x == ("__classdict__" : Str)) && !(x == ("__name__" : Str))
def scB (n : Nm) (sc : Scope) : Bool :=
  n.vs.all (fun i => match n.N[i]? with | some x => visB sc x && plB x | none => false) &&
  (n.ws.all (fun i => (match n.N[i]? with | some x => locB sc x | none => false) && !n.mp.contains i) && ((n.gs ++ n.bs).all (fun x => glB sc x && plB x) && n.bs.all (fun x => n.bn.contains x) && (n.ls.all (fun i => match n.N[i]? with | some x => sc.names.lookup x == some .local | none => false) && n.cs.all (fun i => match n.N[i]? with | some x => sc.names.lookup x == some .cell | none => false))))
structure Sc (C : DC) (n : Nm) : Prop where
  hN : C.X.N = n.N
  nd : n.N.Nodup
  ck : scB n C.X.env.scope = true
  kd : C.X.env.scope.kind = .function
  calm : C.X.calm = true
  fnc : ∀ i ∈ n.ws, ∀ x, n.N[i]? = some x → C.X.env.scope.names.lookup x = some .cell → C.X.fn x = true
  mpe : C.mp = n.mp
  po : PassesOwn (model C.X.prog C.X.w) C.X.A C.X.env C.X.xe
  room : Room n.lv C.X.A
  bno : ∀ x ∈ n.bn, C.X.mg x = none
  fs : n.fs C.T
  tk : Takes C.X C.W
  tp : n.top = true → C.X.stack = C.X.env :: C.X.outer ∧ C.X.env.frame = some C.X.env.locals ∧ C.X.ex = []
theorem eq_of_beq_kind {a b : Option NameKind} (h : (a == b) = true) : a = b := by
  cases a with
  | none => cases b with
    | none => rfl
    | some y => cases h
  | some x => cases b with
    | none => cases h
    | some y => cases x <;> cases y <;> first | rfl | cases h
section
variable {C : DC} {n : Nm}
theorem Sc.vis (S : Sc C n) {i : Nat} {x : Str} (hi : i ∈ n.vs) (hx : n.N[i]? = some x) : Vis C.X.env.scope x ∧ plB x = true := by
  have h := S.ck
  unfold scB at h
  simp only [Bool.and_eq_true] at h
  have h1 := List.all_eq_true.mp h.1 i hi
  rw [hx] at h1
  simp only [Bool.and_eq_true, visB, Bool.or_eq_true] at h1
  refine ⟨?_, h1.2⟩
  rcases h1.1 with (z | z) | z
  · exact .inl (eq_of_beq_kind z)
  · exact .inr (.inl (eq_of_beq_kind z))
  · exact .inr (.inr (eq_of_beq_kind z))
theorem Sc.loc (S : Sc C n) {i : Nat} {x : Str} (hi : i ∈ n.ws) (hx : n.N[i]? = some x) : Loc C.X.env.scope x ∧ (C.X.fn x = true ∨ C.X.env.scope.names.lookup x = some .local) := by
  have h := S.ck
  unfold scB at h
  simp only [Bool.and_eq_true] at h
  have h1 := List.all_eq_true.mp h.2.1 i hi
  rw [hx, Bool.and_eq_true] at h1
  have h1 := h1.1
  simp only [locB, Bool.or_eq_true] at h1
  rcases h1 with z | z
  · exact ⟨.inl (eq_of_beq_kind z), .inr (eq_of_beq_kind z)⟩
  · exact ⟨.inr (eq_of_beq_kind z), .inl (S.fnc i hi x hx (eq_of_beq_kind z))⟩
theorem Sc.mpo (S : Sc C n) : ∀ i ∈ n.ws, i ∉ C.mp := fun i hi hm => by
  have h := S.ck
  unfold scB at h
  simp only [Bool.and_eq_true] at h
  have h1 := List.all_eq_true.mp h.2.1 i hi
  rw [Bool.and_eq_true] at h1
  rw [S.mpe] at hm
  have h2 := h1.2
  rw [List.contains_iff_mem.mpr hm] at h2
  cases h2
theorem Sc.lcl (S : Sc C n) {i : Nat} {x : Str} (hi : i ∈ n.ls) (hx : n.N[i]? = some x) : C.X.env.scope.names.lookup x = some .local := by
  have h := S.ck
  unfold scB at h
  simp only [Bool.and_eq_true] at h
  have h1 := List.all_eq_true.mp h.2.2.2.1 i hi
  rw [hx] at h1
  exact eq_of_beq_kind h1
theorem Sc.cel (S : Sc C n) {i : Nat} {x : Str} (hi : i ∈ n.cs) (hx : n.N[i]? = some x) : C.X.env.scope.names.lookup x = some .cell := by
  have h := S.ck
  unfold scB at h
  simp only [Bool.and_eq_true] at h
  have h1 := List.all_eq_true.mp h.2.2.2.2 i hi
  rw [hx] at h1
  exact eq_of_beq_kind h1
theorem Sc.glx (S : Sc C n) {x : Str} (hx : x ∈ n.gs ++ n.bs) : Gl C.X x ∧ plB x = true := by
  have h := S.ck
  unfold scB at h
  simp only [Bool.and_eq_true] at h
  have h1 := List.all_eq_true.mp h.2.2.1.1 x hx
  simp only [Bool.and_eq_true] at h1
  exact ⟨eq_of_beq_kind h1.1, h1.2⟩
theorem Sc.bsn (S : Sc C n) : ∀ x ∈ n.bs, C.X.mg x = none := fun x hx => by
  have h := S.ck
  unfold scB at h
  simp only [Bool.and_eq_true] at h
  exact S.bno x (List.contains_iff_mem.mp (List.all_eq_true.mp h.2.2.1.2 x hx))
theorem Sc.gl (S : Sc C n) {x : Str} {j : Nat} (hx : n.gs[j]? = some x) : Gl C.X x ∧ plB x = true := S.glx (List.mem_append_left _ (List.mem_of_getElem? hx))
theorem Sc.bl (S : Sc C n) {x : Str} {j : Nat} (hx : n.bs[j]? = some x) : Gl C.X x ∧ C.X.mg x = none := ⟨(S.glx (List.mem_append_right _ (List.mem_of_getElem? hx))).1, S.bsn x (List.mem_of_getElem? hx)⟩
theorem plB_d {x : Str} (h : plB x = true) : (x == ("__debug__" : Str)) = false ∧ (x == ("__classdict__" : Str)) = false ∧ x ≠ ("__name__" : Str) := by
  unfold plB at h
  simp only [Bool.and_eq_true, Bool.not_eq_true'] at h
  refine ⟨h.1.1, h.1.2, fun e => ?_⟩
  have := h.2
  rw [e] at this
  simp at this
theorem pv_ok (S : Sc C n) (i : Nat) {x : Str} {pos : Pos} (hi : i ∈ n.vs) (hx : n.N[i]? = some x) : PE C.X (.Name x pos) (tVar i) :=
  pe_var (by rw [S.hN]; exact hx) (S.vis hi hx).1 (plB_d (S.vis hi hx).2).1 (plB_d (S.vis hi hx).2).2.1
theorem pg_ok (S : Sc C n) (i : Nat) {x : Str} {pos : Pos} (hi : i ∈ n.ws) (hx : n.N[i]? = some x) : PG C.X (.Name x pos) (gName i) :=
  pg_name (by rw [S.hN]; exact S.nd) (by rw [S.hN]; exact hx) (S.loc hi hx).1 (S.loc hi hx).2
theorem de_var (S : Sc C n) (i : Nat) {x : Str} {pos : Pos} (hi : i ∈ n.vs) (hx : n.N[i]? = some x) : DE C (.Name x pos) (rd i) := ⟨PE.imp (pv_ok S i hi hx) tv_rd, rfl⟩
theorem dk_var (S : Sc C n) (i : Nat) {x : Str} {pos : Pos} (hi : i ∈ n.vs) (hx : n.N[i]? = some x) : DK C (.Name x pos) (pk i) := ⟨PE.imp (pv_ok S i hi hx) tv_pk, rfl⟩
end

/-! ### constants -/
section
variable {C : DC}
theorem lft_ret {d : D} {v : V} (r : ∀ Hf, Rp C.T Hf d v) : ∀ σ H Q, Lft C (relE C.T) (ret d) σ H Q → tC v σ H Q := fun σ H Q ⟨Hf, G, ρ, rr, h⟩ => h v H Hf (Same.refl _) rr (r Hf)
theorem de_int {i : Int} {j : Nat} {pos : Pos} : DE C (.Constant (.int i) j pos) (ret (.int i)) := ⟨PE.imp pe_int (lft_ret fun _ => by simp only [Rp]), rfl⟩
theorem de_bl {b : Bool} {j : Nat} {pos : Pos} : DE C (.Constant (.bool b) j pos) (ret (.bool b)) := ⟨PE.imp pe_bl (lft_ret fun _ => by simp only [Rp]), rfl⟩
theorem de_non {j : Nat} {pos : Pos} : DE C (.Constant .none j pos) (ret .none) := ⟨PE.imp pe_non (lft_ret fun _ => by simp only [Rp]), rfl⟩
theorem de_str {x : Str} {j : Nat} {pos : Pos} (h : PyData.strOk x = true) : DE C (.Constant (.str x) j pos) (ret (.str x)) := ⟨PE.imp pe_str (lft_ret fun _ => by unfold Rp; exact ⟨rfl, h⟩), rfl⟩
end

/-! ### operators -/
def OpD (C : DC) (f : Value → Value → Sem Value) (g : D → D → Option D) : Prop :=
  ∃ r : R2, OpR C.X f r ∧ ∀ (Hf G : Hp) (σ : St) (H : Hp) (ρ : Rho) (x y : V) (a b d : D) (Q : VK), RR C.F Hf G σ H ρ → RpT C.T Hf H a x → RpT C.T Hf H b y → g a b = some d →
    (∀ v H' Hf', Same Hf Hf' → RR C.F Hf' G σ H' ρ → Rp C.T Hf' d v → Q v H') → r x y H Q
section
variable {C : DC} {a b : Expr} {ma mb : M D} {pos : Pos} {g : D → D → Option D}
def bin (g : D → D → Option D) (ma mb : M D) : M D := bnd ma fun x => bnd mb fun y => opt (g x y)
/-- the left side is a name: what it holds is read behind the right side -/
def binN (g : D → D → Option D) (i : Nat) (mb : M D) : M D := bnd (pk i) fun _ => bnd mb fun y => bnd (pk i) fun x => opt (g x y)
theorem lft_bin {f : Value → Value → Sem Value} {r : R2} (hr : ∀ (Hf G : Hp) (σ : St) (H : Hp) (ρ : Rho) (x y : V) (a b d : D) (Q : VK), RR C.F Hf G σ H ρ → RpT C.T Hf H a x → RpT C.T Hf H b y → g a b = some d →
    (∀ v H' Hf', Same Hf Hf' → RR C.F Hf' G σ H' ρ → Rp C.T Hf' d v → Q v H') → r x y H Q) : ∀ σ H Q, Lft C (relE C.T) (bin g ma mb) σ H Q → tOp r (Lft C (relE C.T) ma) (Lft C (relK C.T) mb) σ H Q := fun σ H Q ⟨Hf, G, ρ, rr, h⟩ => by
  refine post_bind rr h fun x a H1 Hf1 ρ1 s1 rr1 ra p1 => ?_
  refine post_bind rr1 p1 fun y b H2 Hf2 ρ2 s2 rr2 rb p2 => ?_
  obtain ⟨d, e, q⟩ := opt_post p2
  exact hr Hf2 G σ H2 ρ2 x y a b d Q rr2 (Rp.top rr2.fz (Rp.mono s2 _ _ ra)) rb e q
theorem pk_get {σ : St} {H Hf G : Hp} {ρ : Rho} {i : Nat} {d : D} {ρ' : Rho} (rr : RR C.F Hf G σ H ρ) (h : pk i ρ = .ok d ρ') {v : V} (hv : σ[i]? = some (some v)) : ρ' = ρ ∧ RpT C.T Hf H d v := by
  unfold pk at h
  cases e : ρ[i]? with
  | none => simp only [e] at h; cases h
  | some x =>
    have hs := rr.sl i x e
    cases x with
    | un => simp only [e] at h; cases h
    | im d' =>
      simp only [e] at h
      cases h
      obtain ⟨w, hw, r⟩ := hs
      rw [hv] at hw; cases hw
      exact ⟨rfl, Rp.top rr.fz r⟩
    | ml ds =>
      simp only [e] at h
      cases h
      obtain ⟨p, vs, hp, n, g, hH, ra⟩ := hs
      rw [hv] at hp; cases hp
      exact ⟨rfl, p, vs, rfl, SqL.of hH, ra⟩
    | md kvs => simp only [e] at h; cases h
    | mi c fs => simp only [e] at h; cases h
/-- a slot that is read behind holds something ahead -/
theorem slot_some {σ : St} {H Hf G : Hp} {ρ : Rho} {i : Nat} {x : Sl} (rr : RR C.F Hf G σ H ρ) (e : ρ[i]? = some x) (hu : x ≠ .un) : ∃ v, σ[i]? = some (some v) := by
  have hs := rr.sl i x e
  cases x with
  | un => exact absurd rfl hu
  | im d => obtain ⟨v, hv, _⟩ := hs; exact ⟨v, hv⟩
  | ml ds => obtain ⟨p, vs, hp, _⟩ := hs; exact ⟨_, hp⟩
  | md kvs => obtain ⟨p, hp, _⟩ := hs; exact ⟨_, hp⟩
  | mi c fs => obtain ⟨p, _, _, _, hp, _⟩ := hs; exact ⟨_, hp⟩
theorem pk_some {σ : St} {H Hf G : Hp} {ρ : Rho} {i : Nat} {d : D} {ρ' : Rho} (rr : RR C.F Hf G σ H ρ) (h : pk i ρ = .ok d ρ') : ρ' = ρ ∧ ∃ v, σ[i]? = some (some v) ∧ RpT C.T Hf H d v := by
  have : ∃ x, ρ[i]? = some x ∧ x ≠ .un := by
    unfold pk at h
    cases e : ρ[i]? with
    | none => simp only [e] at h; cases h
    | some x =>
      refine ⟨x, rfl, fun z => ?_⟩
      subst z
      simp only [e] at h; cases h
  obtain ⟨x, e, hu⟩ := this
  obtain ⟨v, hv⟩ := slot_some rr e hu
  obtain ⟨e2, r⟩ := pk_get rr h hv
  exact ⟨e2, v, hv, r⟩
/-- pk, then the rest -/
theorem pk_bind {α β : Type} {rel : Rel β α} {σ : St} {H Hf G : Hp} {ρ : Rho} {i : Nat} {f : D → M α} {Q : β → Hp → Prop} (rr : RR C.F Hf G σ H ρ) (h : Post C rel Hf G σ Q (bnd (pk i) f ρ)) : ∃ d v, σ[i]? = some (some v) ∧ RpT C.T Hf H d v ∧ Post C rel Hf G σ Q (f d ρ) := by
  unfold bnd at h
  cases e : pk i ρ with
  | ok d ρ' =>
    rw [e] at h
    obtain ⟨e2, v, hv, r⟩ := pk_some rr e
    subst e2
    exact ⟨d, v, hv, r, h⟩
  | ex x ρ' =>
    unfold pk at e
    split at e <;> cases e
  | no => rw [e] at h; exact h.elim
theorem lft_binN {r : R2} {i : Nat} (hr : ∀ (Hf G : Hp) (σ : St) (H : Hp) (ρ : Rho) (x y : V) (a b d : D) (Q : VK), RR C.F Hf G σ H ρ → RpT C.T Hf H a x → RpT C.T Hf H b y → g a b = some d →
    (∀ v H' Hf', Same Hf Hf' → RR C.F Hf' G σ H' ρ → Rp C.T Hf' d v → Q v H') → r x y H Q) : ∀ σ H Q, Lft C (relE C.T) (binN g i mb) σ H Q → tOp r (tVar i) (Lft C (relK C.T) mb) σ H Q := fun σ H Q ⟨Hf, G, ρ, rr, h⟩ => by
  obtain ⟨_, v, hv, _, h⟩ := pk_bind rr h
  refine ⟨v, hv, ?_⟩
  refine post_bind rr h fun y b H2 Hf2 ρ2 s2 rr2 rb p2 => ?_
  obtain ⟨d, v', hv', ra, p3⟩ := pk_bind rr2 p2
  rw [hv] at hv'; cases hv'
  obtain ⟨d', e, q⟩ := opt_post p3
  exact hr Hf2 G σ H2 ρ2 v y d b d' Q rr2 ra rb e q
theorem de_bin {op : Operator} (o : OpD C (binaryOp op) g) (ha : DE C a ma) (hb : DK C b mb) : DE C (.BinOp a op b pos) (bin g ma mb) :=
  let ⟨_, ho, hr⟩ := o; ⟨PE.imp (pe_op ho ha.pe hb.pe) (lft_bin (f := binaryOp op) hr), rfl⟩
theorem de_binN {n : Nm} {op : Operator} {x : Str} {p : Pos} (S : Sc C n) (o : OpD C (binaryOp op) g) (i : Nat) (hi : i ∈ n.vs) (hx : n.N[i]? = some x) (hb : DK C b mb) : DE C (.BinOp (.Name x p) op b pos) (binN g i mb) :=
  let ⟨_, ho, hr⟩ := o; ⟨PE.imp (pe_op ho (pv_ok S i hi hx) hb.pe) (lft_binN hr), rfl⟩
theorem de_cmp {op : CmpOp} (o : OpD C (compareOp op) g) (ha : DE C a ma) (hb : DK C b mb) : DE C (.Compare a [op] [b] pos) (bin g ma mb) :=
  let ⟨_, ho, hr⟩ := o; ⟨PE.imp (pe_cmpR ho ha.pe hb.pe (mark_ok hb.ok)) (lft_bin (f := compareOp op) hr), rfl⟩
theorem de_cmpN {n : Nm} {op : CmpOp} {x : Str} {p : Pos} (S : Sc C n) (o : OpD C (compareOp op) g) (i : Nat) (hi : i ∈ n.vs) (hx : n.N[i]? = some x) (hb : DK C b mb) : DE C (.Compare (.Name x p) [op] [b] pos) (binN g i mb) :=
  let ⟨_, ho, hr⟩ := o; ⟨PE.imp (pe_cmpR ho (pv_ok S i hi hx) hb.pe (mark_ok hb.ok)) (lft_binN hr), rfl⟩
/-- a bool -/
def asB (m : M D) : M Bool := bnd m fun x => match x with
  | .bool b => ret b
  | _ => stop
theorem asB_post {Hf G : Hp} {σ : St} {ρ : Rho} {Q : Bool → Hp → Prop} {m : M D} : Post C relB Hf G σ Q (asB m ρ) → Post C (relE C.T) Hf G σ (fun v H' => ∃ k, v = .bl k ∧ Q k H') (m ρ) := fun h => by
  unfold asB bnd at h
  cases e : m ρ with
  | ok d ρ1 =>
    rw [e] at h
    intro v H1 Hf1 s1 rr1 r
    cases d with
    | bool b =>
      unfold Rp at r
      exact ⟨b, r, h b H1 Hf1 s1 rr1 rfl⟩
    | none => exact h.elim
    | int i => exact h.elim
    | str x => exact h.elim
    | list ds => exact h.elim
    | tuple ds => exact h.elim
    | dict kvs => exact h.elim
  | ex x ρ1 => rw [e] at h; exact h
  | no => rw [e] at h; exact h
theorem lft_asB {m : M D} {t : TE} (k : ∀ σ H Q, Lft C (relE C.T) m σ H Q → t σ H Q) : ∀ σ H Q, Lft C relB (asB m) σ H Q → tTest t σ H Q := fun σ H Q ⟨Hf, G, ρ, rr, h⟩ => k σ H _ ⟨Hf, G, ρ, rr, asB_post h⟩
theorem dt_cmp {op : CmpOp} (o : OpD C (compareOp op) g) (ha : DE C a ma) (hb : DK C b mb) : DT C (.Compare a [op] [b] pos) (asB (bin g ma mb)) :=
  let ⟨_, ho, hr⟩ := o; ⟨PT.imp (pt_cmpR ho ha.pe hb.pe (mark_ok hb.ok)) (lft_asB (lft_bin (f := compareOp op) hr))⟩
theorem dt_cmpN {n : Nm} {op : CmpOp} {x : Str} {p : Pos} (S : Sc C n) (o : OpD C (compareOp op) g) (i : Nat) (hi : i ∈ n.vs) (hx : n.N[i]? = some x) (hb : DK C b mb) : DT C (.Compare (.Name x p) [op] [b] pos) (asB (binN g i mb)) :=
  let ⟨_, ho, hr⟩ := o; ⟨PT.imp (pt_cmpR ho (pv_ok S i hi hx) hb.pe (mark_ok hb.ok)) (lft_asB (lft_binN hr))⟩
/-- an expression that is no comparison, and, or, not, as a test -/
def plT : Expr → Bool
  | .UnaryOp .. => false | .BoolOp .. => false | .IfExp .. => false | .Compare .. => false
  | _ => true
theorem dt_val {e : Expr} {m : M D} (h : DE C e m) (hp : plT e = true) : DT C e (asB m) :=
  ⟨PT.imp (pt_val h.pe (by intro w; cases e <;> first | rfl | cases hp)) (lft_asB fun _ _ _ z => z)⟩
/-! and, or, not -/
def andB (a b : M Bool) : M Bool := bnd a fun x => if x = true then b else ret false
def orB (a b : M Bool) : M Bool := bnd a fun x => if x = true then ret true else b
def notB (a : M Bool) : M Bool := bnd a fun x => ret (!x)
structure DW (C : DC) (e : Expr) (m : M Bool) : Prop where
  pw : PW C.X e (Lft C relB m)
theorem PW.imp {X : Cx} {e : Expr} {t t' : TT} (h : PW X e t) (k : ∀ σ H Q, t' σ H Q → t σ H Q) : PW X e t' := ⟨fun w pins s σ H Q I hw => h.run w pins s σ H Q I (k _ _ _ hw)⟩
theorem DW.t {e : Expr} {m : M Bool} (h : DW C e m) : DT C e m := ⟨h.pw.pt⟩
variable {na nb : M Bool} {rest : List Expr}
theorem dw_and1 (h : DT C a na) : DW C (.BoolOp .And [a] pos) na := ⟨pw_and1 h.pt⟩
theorem dw_or1 (h : DT C a na) : DW C (.BoolOp .Or [a] pos) na := ⟨pw_or1 h.pt⟩
theorem dw_and (h : DT C a na) (h2 : DW C (.BoolOp .And (b :: rest) pos) nb) : DW C (.BoolOp .And (a :: b :: rest) pos) (andB na nb) :=
  ⟨PW.imp (pw_and h.pt h2.pw) fun σ H Q ⟨Hf, G, ρ, rr, h⟩ => post_bind rr h fun x c H1 Hf1 ρ1 s1 rr1 e p1 => by
    subst e
    cases x with
    | true => rw [if_pos rfl] at p1 ⊢; exact ⟨Hf1, G, ρ1, rr1, p1⟩
    | false => rw [if_neg Bool.false_ne_true] at p1 ⊢; exact p1 false H1 Hf1 (Same.refl _) rr1 rfl⟩
theorem dw_or (h : DT C a na) (h2 : DW C (.BoolOp .Or (b :: rest) pos) nb) : DW C (.BoolOp .Or (a :: b :: rest) pos) (orB na nb) :=
  ⟨PW.imp (pw_or h.pt h2.pw) fun σ H Q ⟨Hf, G, ρ, rr, h⟩ => post_bind rr h fun x c H1 Hf1 ρ1 s1 rr1 e p1 => by
    subst e
    cases x with
    | true => rw [if_pos rfl] at p1 ⊢; exact p1 true H1 Hf1 (Same.refl _) rr1 rfl
    | false => rw [if_neg Bool.false_ne_true] at p1 ⊢; exact ⟨Hf1, G, ρ1, rr1, p1⟩⟩
theorem dt_not (h : DT C a na) : DT C (.UnaryOp .Not a pos) (notB na) :=
  ⟨PT.imp (pt_not h.pt) fun σ H Q ⟨Hf, G, ρ, rr, h⟩ => post_bind rr h fun x c H1 Hf1 ρ1 s1 rr1 e p1 => by
    subst e
    exact p1 (!x) H1 Hf1 (Same.refl _) rr1 rfl⟩
/-! .. as values -/
def andV (a b : M D) : M D := bnd (asB a) fun x => if x = true then b else ret (.bool false)
def orV (a b : M D) : M D := bnd (asB a) fun x => if x = true then ret (.bool true) else b
def notV (a : M D) : M D := bnd (asB a) fun x => ret (.bool (!x))
theorem asB_bind {α β : Type} {rel : Rel β α} {Hf G : Hp} {σ : St} {H : Hp} {ρ : Rho} {m : M D} {f : Bool → M α} {Q : β → Hp → Prop} {R : Bool → Hp → Prop} (rr : RR C.F Hf G σ H ρ) (h : Post C rel Hf G σ Q (bnd (asB m) f ρ))
    (k : ∀ c H1 Hf1 ρ1, Same Hf Hf1 → RR C.F Hf1 G σ H1 ρ1 → Post C rel Hf1 G σ Q (f c ρ1) → R c H1) : Lft C (relE C.T) m σ H fun v H1 => ∃ c, v = .bl c ∧ R c H1 := by
  obtain ⟨Hf, G, ρ, rr, h⟩ := post_bind (rel := relB) (R := R) rr h fun b c H1 Hf1 ρ1 s1 rr1 e p1 => by subst e; exact k b H1 Hf1 ρ1 s1 rr1 p1
  exact ⟨Hf, G, ρ, rr, asB_post h⟩
theorem de_one {op : BoolOp} (h : DE C a ma) : DE C (.BoolOp op [a] pos) ma := ⟨pe_one h.pe, rfl⟩
theorem de_and (h : DE C a ma) (h2 : DE C (.BoolOp .And (b :: rest) pos) mb) : DE C (.BoolOp .And (a :: b :: rest) pos) (andV ma mb) :=
  ⟨PE.imp (pe_and h.pe h2.pe) fun σ H Q ⟨Hf, G, ρ, rr, h⟩ => asB_bind rr h fun c H1 Hf1 ρ1 s1 rr1 p1 => by
    cases c with
    | true => rw [if_pos rfl] at p1 ⊢; exact ⟨Hf1, G, ρ1, rr1, p1⟩
    | false => rw [if_neg Bool.false_ne_true] at p1 ⊢; exact p1 (.bl false) H1 Hf1 (Same.refl _) rr1 (by simp only [Rp]), rfl⟩
theorem de_or (h : DE C a ma) (h2 : DE C (.BoolOp .Or (b :: rest) pos) mb) : DE C (.BoolOp .Or (a :: b :: rest) pos) (orV ma mb) :=
  ⟨PE.imp (pe_or h.pe h2.pe) fun σ H Q ⟨Hf, G, ρ, rr, h⟩ => asB_bind rr h fun c H1 Hf1 ρ1 s1 rr1 p1 => by
    cases c with
    | true => rw [if_pos rfl] at p1 ⊢; exact p1 (.bl true) H1 Hf1 (Same.refl _) rr1 (by simp only [Rp])
    | false => rw [if_neg Bool.false_ne_true] at p1 ⊢; exact ⟨Hf1, G, ρ1, rr1, p1⟩, rfl⟩
theorem de_not (h : DE C a ma) : DE C (.UnaryOp .Not a pos) (notV ma) :=
  ⟨PE.imp (pe_not h.pe) fun σ H Q ⟨Hf, G, ρ, rr, h⟩ => asB_bind rr h fun c H1 Hf1 ρ1 s1 rr1 p1 => p1 (.bl (!c)) H1 Hf1 (Same.refl _) rr1 (by simp only [Rp]), rfl⟩
def ifV (t : M Bool) (a b : M D) : M D := bnd t fun c => if c = true then a else b
theorem de_if {c : Expr} {tc : M Bool} (hc : DT C c tc) (h : DE C a ma) (h2 : DE C b mb) : DE C (.IfExp c a b pos) (ifV tc ma mb) :=
  ⟨PE.imp (pe_ifExp hc.pt h.pe h2.pe) fun σ H Q ⟨Hf, G, ρ, rr, h⟩ => post_bind rr h fun x c H1 Hf1 ρ1 s1 rr1 e p1 => by
    subst e
    cases x with
    | true => rw [if_pos rfl] at p1 ⊢; exact ⟨Hf1, G, ρ1, rr1, p1⟩
    | false => rw [if_neg Bool.false_ne_true] at p1 ⊢; exact ⟨Hf1, G, ρ1, rr1, p1⟩, rfl⟩
end
end DS
namespace DS
open PySem L2

/-! ### statements -/
def PostS (C : DC) (E : Ends) (Hf G : Hp) : Res Flow → Prop
  | .ok .nx ρ => ∀ σ H Hf', Same Hf Hf' → RR C.F Hf' G σ H ρ → E.nx σ H
  | .ok (.rt d) ρ => ∀ v σ H Hf', Same Hf Hf' → RR C.F Hf' G σ H ρ → Rp C.T Hf' d v → E.rt v H
  | .ok (.ro ds) ρ => ∀ p vs σ H Hf', Same Hf Hf' → RR C.F Hf' G σ H ρ → Hf' p = none → G p = none → (∀ i ∈ C.mp, σ[i]? ≠ some (some (.ref p))) → H p = some (.lst vs) → RpA C.T Hf' ds vs → E.rt (.ref p) H
  | .ok .bk ρ => ∀ σ H Hf', Same Hf Hf' → RR C.F Hf' G σ H ρ → E.bk σ H
  | .ok .ct ρ => ∀ σ H Hf', Same Hf Hf' → RR C.F Hf' G σ H ρ → E.ct σ H
  | .ex e ρ => ∀ cls dd σ H Hf', Same Hf Hf' → RR C.F Hf' G σ H ρ → XR C.T Hf' e cls dd → C.W cls dd σ H
  | .no => False
def LS (C : DC) (m : M Flow) : TS := fun E σ H => ∃ Hf G ρ, RR C.F Hf G σ H ρ ∧ PostS C E Hf G (m ρ)
theorem PostS.up {C : DC} {E : Ends} {Hf Hf1 G : Hp} (s : Same Hf Hf1) : ∀ {r : Res Flow}, PostS C E Hf G r → PostS C E Hf1 G r
  | .ok .nx ρ, h => fun σ H Hf' s' => h σ H Hf' (s.trans s')
  | .ok (.rt d) ρ, h => fun v σ H Hf' s' => h v σ H Hf' (s.trans s')
  | .ok (.ro ds) ρ, h => fun p vs σ H Hf' s' => h p vs σ H Hf' (s.trans s')
  | .ok .bk ρ, h => fun σ H Hf' s' => h σ H Hf' (s.trans s')
  | .ok .ct ρ, h => fun σ H Hf' s' => h σ H Hf' (s.trans s')
  | .ex e ρ, h => fun cls dd σ H Hf' s' => h cls dd σ H Hf' (s.trans s')
  | .no, h => h
structure DS (C : DC) (st : Stmt) (m : M Flow) : Prop where
  ps : PS C.X st (LS C m)
structure DSs (C : DC) (st : List Stmt) (m : M Flow) : Prop where
  pss : PSs C.X st (LS C m)
/-- an expression within a statement -/
theorem posts_bind {C : DC} {α β : Type} {rel : Rel β α} {ma : M α} {f : α → M Flow} {Hf G : Hp} {σ : St} {H : Hp} {ρ : Rho} {E : Ends} {R : β → Hp → Prop} (rr : RR C.F Hf G σ H ρ) (h : PostS C E Hf G (bnd ma f ρ))
    (k : ∀ b a H1 Hf1 ρ1, Same Hf Hf1 → RR C.F Hf1 G σ H1 ρ1 → rel Hf1 G σ H1 ρ1 b a → PostS C E Hf1 G (f a ρ1) → R b H1) : Lft C rel ma σ H R := by
  refine ⟨Hf, G, ρ, rr, ?_⟩
  unfold bnd at h
  cases e : ma ρ with
  | ok a ρ1 =>
    rw [e] at h
    exact fun b H1 Hf1 s r1 r => k b a H1 Hf1 ρ1 s r1 r (h.up s)
  | ex x ρ1 => rw [e] at h; exact fun cls dd H1 Hf1 s r1 r => h cls dd σ H1 Hf1 s r1 r
  | no => rw [e] at h; exact h
section
variable {C : DC} {n : Nm} {pos : Pos}
def sq (a b : M Flow) : M Flow := bnd a fun f => match f with
  | .nx => b
  | f => ret f
theorem dss_nil : DSs C [] (ret .nx) := ⟨PSs.imp pss_nil fun E σ H ⟨Hf, G, ρ, rr, h⟩ => h σ H Hf (Same.refl _) rr⟩
theorem dss_cons {st : Stmt} {rest : List Stmt} {a b : M Flow} (h1 : DS C st a) (h2 : DSs C rest b) : DSs C (st :: rest) (sq a b) :=
  ⟨PSs.imp (pss_cons h1.ps h2.pss) fun E σ H ⟨Hf, G, ρ, rr, h⟩ => by
    refine ⟨Hf, G, ρ, rr, ?_⟩
    unfold sq bnd at h
    cases e : a ρ with
    | ok f ρ1 =>
      rw [e] at h
      cases f with
      | nx => exact fun σ1 H1 Hf1 s r1 => ⟨Hf1, G, ρ1, r1, h.up s⟩
      | rt d => exact h
      | ro ds => exact h
      | bk => exact h
      | ct => exact h
    | ex x ρ1 => rw [e] at h; exact h
    | no => rw [e] at h; exact h⟩
theorem dss_one {st : Stmt} {a : M Flow} (h1 : DS C st a) : DSs C [st] a := ⟨pss_one h1.ps⟩
theorem ds_never {st : Stmt} : DS C st stop := ⟨PS.imp ps_never fun E σ H ⟨Hf, G, ρ, rr, h⟩ => h⟩
theorem ds_pass : DS C (.Pass pos) (ret .nx) := ⟨PS.imp ps_pass fun E σ H ⟨Hf, G, ρ, rr, h⟩ => h σ H Hf (Same.refl _) rr⟩
theorem ds_break : DS C (.Break pos) (ret .bk) := ⟨PS.imp ps_break fun E σ H ⟨Hf, G, ρ, rr, h⟩ => h σ H Hf (Same.refl _) rr⟩
theorem ds_continue : DS C (.Continue pos) (ret .ct) := ⟨PS.imp ps_continue fun E σ H ⟨Hf, G, ρ, rr, h⟩ => h σ H Hf (Same.refl _) rr⟩
def rtM (m : M D) : M Flow := bnd m fun d => ret (.rt d)
theorem ds_ret {e : Expr} {m : M D} (h : DE C e m) : DS C (.Return (some e) pos) (rtM m) :=
  ⟨PS.imp (ps_ret h.pe) fun E σ H ⟨Hf, G, ρ, rr, h⟩ => posts_bind rr h fun v d H1 Hf1 ρ1 s r1 r p => p v σ H1 Hf1 (Same.refl _) r1 r⟩
theorem ds_retN : DS C (.Return none pos) (ret (.rt .none)) :=
  ⟨PS.imp ps_retN fun E σ H ⟨Hf, G, ρ, rr, h⟩ => h .non σ H Hf (Same.refl _) rr (by simp only [Rp])⟩
/-- a new list handed back: the caller may change it -/
def roM (m : M (List D)) : M Flow := bnd m fun ds => ret (.ro ds)
theorem ds_retF {e : Expr} {m : M (List D)} (hs : ∀ (Hf G : Hp) (σ : St) (H : Hp) (ρ : Rho) (i : Nat), RR C.F Hf G σ H ρ → i ∈ C.mp → ∃ x, ρ[i]? = some x ∧ owns x = true) (h : DF C e m) : DS C (.Return (some e) pos) (roM m) :=
  ⟨PS.imp (ps_ret h.pe) fun E σ H ⟨Hf, G, ρ, rr, h⟩ => posts_bind rr h fun v d H1 Hf1 ρ1 s r1 ⟨q, vs, e, f, hq, ra⟩ p => by
    subst e
    exact p q vs σ H1 Hf1 (Same.refl _) r1 f.1 f.2.1 (fun i hi => by obtain ⟨x, hx, ho⟩ := hs _ _ _ _ _ i r1 hi; exact f.2.2 i x hx ho) hq ra⟩
def ifM (t : M Bool) (a b : M Flow) : M Flow := bnd t fun c => if c = true then a else b
theorem ds_if {c : Expr} {a b : List Stmt} {tc : M Bool} {ma mb : M Flow} (hc : DT C c tc) (ha : DSs C a ma) (hb : DSs C b mb) : DS C (.If c a b pos) (ifM tc ma mb) :=
  ⟨PS.imp (ps_if hc.pt ha.pss hb.pss) fun E σ H ⟨Hf, G, ρ, rr, h⟩ => posts_bind rr h fun x c H1 Hf1 ρ1 s1 rr1 e p1 => by
    subst e
    cases x with
    | true => rw [if_pos rfl] at p1 ⊢; exact ⟨Hf1, G, ρ1, rr1, p1⟩
    | false => rw [if_neg Bool.false_ne_true] at p1 ⊢; exact ⟨Hf1, G, ρ1, rr1, p1⟩⟩
def exM (m : M D) : M Flow := bnd m fun _ => ret .nx
theorem ds_expr {e : Expr} {m : M D} (h : DE C e m) (hl : noLc e = true) : DS C (.Expr e pos) (exM m) :=
  ⟨PS.imp (ps_expr h.pe (sw_ok h.ok hl _ _ _)) fun E σ H ⟨Hf, G, ρ, rr, h⟩ => posts_bind rr h fun v d H1 Hf1 ρ1 s r1 r p => p σ H1 Hf1 (Same.refl _) r1⟩

/-! ### targets -/
/-- all slots but ws stand -/
def Ag (ws : List Nat) (σ σ' : St) : Prop := σ'.length = σ.length ∧ ∀ i, i ∉ ws → σ'[i]? = σ[i]?
theorem Ag.refl {ws : List Nat} {σ : St} : Ag ws σ σ := ⟨rfl, fun _ _ => rfl⟩
theorem Ag.trans {ws us : List Nat} {σ σ1 σ2 : St} (a : Ag ws σ σ1) (b : Ag us σ1 σ2) : Ag (ws ++ us) σ σ2 := ⟨b.1.trans a.1, fun i hi => by
  rw [List.mem_append, not_or] at hi
  rw [b.2 i hi.2, a.2 i hi.1]⟩
def PostG (C : DC) (ws : List Nat) (Hf G : Hp) (σ : St) (Q : St → Hp → Prop) : Res Unit → Prop
  | .ok _ ρ => ∀ σ' H Hf', Same Hf Hf' → RR C.F Hf' G σ' H ρ → Ag ws σ σ' → Q σ' H
  | _ => False
theorem PostG.up {ws : List Nat} {Hf Hf1 G : Hp} {σ : St} {Q : St → Hp → Prop} (s : Same Hf Hf1) : ∀ {r : Res Unit}, PostG C ws Hf G σ Q r → PostG C ws Hf1 G σ Q r
  | .ok _ ρ, h => fun σ H Hf' s' => h σ H Hf' (s.trans s')
  | .ex e ρ, h => h
  | .no, h => h
def LG (C : DC) (ws : List Nat) (f : D → M Unit) : TG := fun v σ H Q => ∃ Hf G ρ d, RR C.F Hf G σ H ρ ∧ Rp C.T Hf d v ∧ PostG C ws Hf G σ Q (f d ρ)
def LGs (C : DC) (ws : List Nat) (f : List D → M Unit) : TGs := fun vs σ H Q => ∃ Hf G ρ ds, RR C.F Hf G σ H ρ ∧ RpA C.T Hf ds vs ∧ PostG C ws Hf G σ Q (f ds ρ)
structure DG (C : DC) (tg : Expr) (ws : List Nat) (f : D → M Unit) : Prop where
  pg : PG C.X tg (LG C ws f)
structure DGs (C : DC) (tg : List Expr) (ws : List Nat) (f : List D → M Unit) : Prop where
  pg : PGs C.X tg (LGs C ws f)
theorem PG.imp {X : Cx} {e : Expr} {t t' : TG} (h : PG X e t) (k : ∀ v σ H Q, t' v σ H Q → t v σ H Q) : PG X e t' := ⟨fun pins s σ H v u Q I r hw => h.run pins s σ H v u Q I r (k _ _ _ _ hw)⟩
theorem PGs.imp {X : Cx} {e : List Expr} {t t' : TGs} (h : PGs X e t) (k : ∀ v σ H Q, t' v σ H Q → t v σ H Q) : PGs X e t' := ⟨fun pins s σ H v u Q I r hw => h.run pins s σ H v u Q I r (k _ _ _ _ hw)⟩
def st (i : Nat) (d : D) : M Unit := fun ρ => .ok () (ρ.set i (.im d))
theorem dg_name (S : Sc C n) (i : Nat) {x : Str} (hi : i ∈ n.ws) (hx : n.N[i]? = some x) : DG C (.Name x pos) [i] (st i) :=
  ⟨PG.imp (pg_ok S i hi hx) fun v σ H Q ⟨Hf, G, ρ, d, rr, r, h⟩ => h _ H Hf (Same.refl _) (rr.set (S.mpo i hi) r) ⟨by simp, fun j hj => List.getElem?_set_ne (fun e => hj (by simp [e]))⟩⟩
def stN : List D → M Unit
  | [] => ret ()
  | _ => stop
def stC (f : D → M Unit) (g : List D → M Unit) : List D → M Unit
  | d :: ds => bnd (f d) fun _ => g ds
  | [] => stop
theorem dgs_nil : DGs C [] [] stN := ⟨PGs.imp pgs_nil fun vs σ H Q ⟨Hf, G, ρ, ds, rr, r, h⟩ => by
  cases ds with
  | nil => rw [RpA.unnil r]; exact ⟨rfl, h σ H Hf (Same.refl _) rr Ag.refl⟩
  | cons d ds => exact h.elim⟩
theorem dgs_cons {x : Str} {px : Pos} {es : List Expr} {ws us : List Nat} {f : D → M Unit} {g : List D → M Unit} (h1 : DG C (.Name x px) ws f) (h2 : DGs C es us g) : DGs C (.Name x px :: es) (ws ++ us) (stC f g) := ⟨PGs.imp (pgs_cons h1.pg h2.pg) fun vs σ H Q ⟨Hf, G, ρ, ds, rr, r, h⟩ => by
  cases ds with
  | nil => exact h.elim
  | cons d ds =>
    obtain ⟨v, rs, e, q, z⟩ := RpA.uncons r
    subst e
    refine ⟨v, rs, rfl, Hf, G, ρ, d, rr, q, ?_⟩
    have h' : PostG C (ws ++ us) Hf G σ Q (bnd (f d) (fun _ => g ds) ρ) := h
    unfold bnd at h'
    cases e : f d ρ with
    | ok u ρ1 =>
      rw [e] at h'
      refine fun σ1 H1 Hf1 s r1 ag => ⟨Hf1, G, ρ1, ds, r1, RpA.mono s _ _ z, ?_⟩
      cases e2 : g ds ρ1 with
      | ok u2 ρ2 =>
        simp only [e2] at h'
        exact fun σ2 H2 Hf2 s2 r2 ag2 => h' σ2 H2 Hf2 (s.trans s2) r2 (ag.trans ag2)
      | ex x ρ2 => simp only [e2] at h'; exact h'
      | no => simp only [e2] at h'; exact h'
    | ex x ρ1 => rw [e] at h'; exact h'
    | no => rw [e] at h'; exact h'⟩
/-- a tuple taken apart -/
def unT (k : Nat) (f : List D → M Unit) (d : D) : M Unit := match d with
  | .tuple ds => if ds.length = k then f ds else stop
  | _ => stop
theorem dg_tup {es : List Expr} {ws : List Nat} {k2 k : Nat} {f : List D → M Unit} (S : Sc C n) (h : DGs C es ws f) (hn : (assignEach es C.X.env).length = k) (hst : (assignEach es C.X.env).findIdx? (·.1) = none) : DG C (.Tuple es k2 pos) ws (unT k f) :=
  ⟨PG.imp (pg_tup S.calm h.pg hn hst) fun v σ H Q ⟨Hf, G, ρ, d, rr, r, h⟩ => by
    cases d with
    | tuple ds =>
      unfold Rp at r
      obtain ⟨a, xs, e, q, ra⟩ := r
      have h' : PostG C ws Hf G σ Q ((if ds.length = k then f ds else stop) ρ) := h
      by_cases hl : ds.length = k
      · rw [if_pos hl] at h'
        exact ⟨a, xs, e, Same.sqT rr.fz q, by rw [RpA.length ra]; exact hl, Hf, G, ρ, ds, rr, ra, h'⟩
      · rw [if_neg hl] at h'; exact h'.elim
    | none => exact h.elim
    | bool b => exact h.elim
    | int i => exact h.elim
    | str x => exact h.elim
    | list ds => exact h.elim
    | dict kvs => exact h.elim⟩
theorem dg_tup2 {x y : Str} {px py : Pos} {ws us : List Nat} {k2 : Nat} {f g : D → M Unit} (S : Sc C n) (h1 : DG C (.Name x px) ws f) (h2 : DG C (.Name y py) us g) : DG C (.Tuple [.Name x px, .Name y py] k2 pos) (ws ++ (us ++ [])) (unT 2 (stC f (stC g stN))) :=
  dg_tup S (dgs_cons h1 (dgs_cons h2 dgs_nil)) rfl rfl
theorem dg_tup3 {x y z : Str} {px py pz : Pos} {ws us ts : List Nat} {k2 : Nat} {f g h : D → M Unit} (S : Sc C n) (h1 : DG C (.Name x px) ws f) (h2 : DG C (.Name y py) us g) (h3 : DG C (.Name z pz) ts h) : DG C (.Tuple [.Name x px, .Name y py, .Name z pz] k2 pos) (ws ++ (us ++ (ts ++ []))) (unT 3 (stC f (stC g (stC h stN)))) :=
  dg_tup S (dgs_cons h1 (dgs_cons h2 (dgs_cons h3 dgs_nil))) rfl rfl

/-! ### assignments -/
def notTup : Expr → Bool
  | .Tuple .. => false
  | _ => true
def asM (m : M D) (f : D → M Unit) : M Flow := bnd m fun d => fun ρ => match f d ρ with
  | .ok _ ρ1 => .ok .nx ρ1
  | _ => .no
theorem lg_asg {ws : List Nat} {m : M D} {f : D → M Unit} : ∀ E σ H, LS C (asM m f) E σ H → tAsg (Lft C (relE C.T) m) (LG C ws f) E σ H := fun E σ H ⟨Hf, G, ρ, rr, h⟩ => posts_bind rr h fun v d H1 Hf1 ρ1 s r1 r p => by
  refine ⟨Hf1, G, ρ1, d, r1, r, ?_⟩
  cases e : f d ρ1 with
  | ok u ρ2 => simp only [e] at p; exact fun σ2 H2 Hf2 s2 r2 _ => p σ2 H2 Hf2 s2 r2
  | ex x ρ2 => simp only [e] at p; exact p
  | no => simp only [e] at p; exact p
theorem ds_set {e : Expr} {m : M D} {x : Str} {px : Pos} (S : Sc C n) (i : Nat) (hi : i ∈ n.ws) (hx : n.N[i]? = some x) (h : DE C e m) (hl : noLc e = true) : DS C (.Assign [.Name x px] e pos) (asM m (st i)) :=
  ⟨PS.imp (ps_asg h.pe (dg_name (pos := px) S i hi hx).pg (sws_ok h.ok hl _ _ _) (by cases e <;> rfl) rfl) lg_asg⟩
theorem ds_untup {e : Expr} {m : M D} {es : List Expr} {k2 : Nat} {px : Pos} {ws : List Nat} {f : D → M Unit} (g : DG C (.Tuple es k2 px) ws f) (h : DE C e m) (hl : noLc e = true) (ht : notTup e = true) : DS C (.Assign [.Tuple es k2 px] e pos) (asM m f) :=
  ⟨PS.imp (ps_asg h.pe g.pg (sws_ok h.ok hl _ _ _) (by cases e <;> first | rfl | cases ht) rfl) lg_asg⟩
/-- a name takes a new list of its own -/
def soM (m : M (List D)) (i : Nat) : M Flow := bnd m fun ds => fun ρ => .ok .nx (ρ.set i (.ml ds))
theorem so_asg (S : Sc C n) {i : Nat} (hi : i ∈ n.ws) {m : M (List D)} : ∀ E σ H, LS C (soM m i) E σ H → tAsg (Lft C (relF C.T) m) (gName i) E σ H := fun E σ H ⟨Hf, G, ρ, rr, h⟩ => posts_bind rr h fun v ds H1 Hf1 ρ1 s r1 ⟨p, vs, e, f, hp, ra⟩ q => by
  subst e
  exact q _ H1 Hf1 (Same.refl _) (r1.setO (S.mpo i hi) f ⟨p, vs, rfl, f.1, f.2.1, hp, ra⟩)
theorem ds_setF {e : Expr} {m : M (List D)} {x : Str} {px : Pos} (S : Sc C n) (i : Nat) (hi : i ∈ n.ws) (hx : n.N[i]? = some x) (h : DF C e m) (hl : noLc e = true) : DS C (.Assign [.Name x px] e pos) (soM m i) :=
  ⟨PS.imp (ps_asg h.pe (pg_ok S i hi hx) (sws_ok h.ok hl _ _ _) (by cases e <;> rfl) rfl) (so_asg S hi)⟩

/-! ### loops -/
def ItOk (T : Wd) (Hf : Hp) (J : It) (ds : List D) : Prop :=
  (∀ i H, Same Hf H → i < ds.length → J.go i H) ∧
  (∀ (i : Nat) H x H' d, Same Hf H → ds[i]? = some d → J.yld i H x H' → (H' = H ∧ Rp T Hf d x) ∨ ∃ p o, H p = none ∧ H' = upd H p o ∧ Rp T (upd Hf p o) d x) ∧
  (∀ H, Same Hf H → J.stop ds.length H)
abbrev relI (T : Wd) : Rel It (List D) := fun Hf _ _ _ _ J ds => ItOk T Hf J ds
structure DI (C : DC) (tg e : Expr) (m : M (List D)) : Prop where
  pi : PI C.X tg e (Lft C (relI C.T) m)
  ok : okE e = true
def forM (f : D → M Unit) (b : M Flow) : List D → M Flow
  | [] => ret .nx
  | d :: ds => fun ρ => match f d ρ with
    | .ok _ ρ1 => (match b ρ1 with
      | .ok .nx ρ2 => forM f b ds ρ2
      | .ok .ct ρ2 => forM f b ds ρ2
      | .ok .bk ρ2 => .ok .nx ρ2
      | r => r)
    | _ => .no
def forS (m : M (List D)) (f : D → M Unit) (b : M Flow) : M Flow := bnd m (forM f b)
theorem Same.updB {H H' : Hp} {p : Addr} {o : HO} (s : Same H H') : Same (upd H p o) (upd H' p o) := fun b u e => by
  by_cases hb : b = p
  · subst hb; rw [upd_same] at e ⊢; exact e
  · rw [upd_ne hb] at e ⊢; exact s b u e
theorem ItOk.step {F : Fx} {Hf0 Hf G H H' : Hp} {σ : St} {ρ : Rho} {J : It} {ds : List D} {i : Nat} {x : V} {d : D} (k : ItOk F.T Hf0 J ds) (s : Same Hf0 Hf) (rr : RR F Hf G σ H ρ) (e : ds[i]? = some d) (y : J.yld i H x H') :
    ∃ Hf', Same Hf Hf' ∧ RR F Hf' G σ H' ρ ∧ Rp F.T Hf' d x := by
  rcases k.2.1 i H x H' d (s.trans rr.fz) e y with ⟨e, r⟩ | ⟨p, o, hp, e, r⟩
  · subst e; exact ⟨Hf, Same.refl _, rr, Rp.mono s _ _ r⟩
  · subst e; exact ⟨upd Hf p o, rr.sameN hp, rr.new hp, Rp.mono (Same.updB s) _ _ r⟩
theorem ds_for {tg it : Expr} {body : List Stmt} {ws : List Nat} {mi : M (List D)} {f : D → M Unit} {b : M Flow} (S : Sc C n) (hi : DI C tg it mi) (hg : DG C tg ws f) (hb : DSs C body b) : DS C (.For tg it body [] pos) (forS mi f b) :=
  ⟨PS.imp (ps_for S.po S.calm hi.pi hg.pg hb.pss (fold_ok hi.ok _)) fun E σ H ⟨Hf, G, ρ, rr, h⟩ => posts_bind rr h fun J ds H1 Hf1 ρ1 s1 r1 k p => by
    refine ⟨fun i m σ H => m = ds.length - i ∧ i ≤ ds.length ∧ ∃ Hf' ρ', Same Hf1 Hf' ∧ RR C.F Hf' G σ H ρ' ∧ PostS C E Hf' G (forM f b (ds.drop i) ρ'), ⟨_, rfl, Nat.zero_le _, Hf1, ρ1, Same.refl _, r1, p⟩, ?_⟩
    rintro i m σ2 H2 ⟨rfl, hi, Hf2, ρ2, s2, r2, p2⟩
    by_cases hlt : i < ds.length
    · refine .inr ⟨k.1 i H2 (s2.trans r2.fz) hlt, fun σ' H' => ∃ Hf' ρ', Same Hf1 Hf' ∧ RR C.F Hf' G σ' H' ρ' ∧ PostS C E Hf' G (forM f b (ds.drop (i + 1)) ρ'), fun σ' H' z => ⟨ds.length - (i + 1), by omega, rfl, hlt, z⟩, fun x H3 y => ?_⟩
      have hd : ds.drop i = ds[i] :: ds.drop (i + 1) := List.drop_eq_getElem_cons hlt
      rw [hd] at p2
      obtain ⟨Hf3, s3, r3, rp⟩ := ItOk.step k s2 r2 (List.getElem?_eq_getElem hlt) y
      refine ⟨Hf3, G, ρ2, ds[i], r3, rp, ?_⟩
      unfold forM at p2
      cases e : f ds[i] ρ2 with
      | ok u ρ3 =>
        simp only [e] at p2
        refine fun σ4 H4 Hf4 s4 r4 _ => ⟨Hf4, G, ρ3, r4, ?_⟩
        have s14 : Same Hf1 Hf4 := s2.trans (s3.trans s4)
        have s24 : Same Hf2 Hf4 := s3.trans s4
        cases e2 : b ρ3 with
        | ok fl ρ4 =>
          cases fl with
          | nx => simp only [e2] at p2; exact fun σ5 H5 Hf5 s5 r5 => ⟨Hf5, ρ4, s14.trans s5, r5, p2.up (s24.trans s5)⟩
          | ct => simp only [e2] at p2; exact fun σ5 H5 Hf5 s5 r5 => ⟨Hf5, ρ4, s14.trans s5, r5, p2.up (s24.trans s5)⟩
          | bk => simp only [e2] at p2; exact fun σ5 H5 Hf5 s5 r5 => p2 σ5 H5 Hf5 (s24.trans s5) r5
          | rt d => simp only [e2] at p2; exact (PostS.up s24 p2)
          | ro d => simp only [e2] at p2; exact (PostS.up s24 p2)
        | ex x ρ4 => simp only [e2] at p2; exact (PostS.up s24 p2)
        | no => simp only [e2] at p2; exact p2
      | ex x ρ3 => simp only [e] at p2; exact p2
      | no => simp only [e] at p2; exact p2
    · have e : i = ds.length := by omega
      subst e
      rw [List.drop_length] at p2
      exact .inl ⟨k.2.2 H2 (s2.trans r2.fz), p2 σ2 H2 Hf2 (Same.refl _) r2⟩⟩
def whM (t : M Bool) (b : M Flow) : Nat → M Flow
  | 0 => stop
  | k + 1 => bnd t fun c => if c = true then (fun ρ => match b ρ with
      | .ok .nx ρ2 => whM t b k ρ2
      | .ok .ct ρ2 => whM t b k ρ2
      | .ok .bk ρ2 => .ok .nx ρ2
      | r => r) else ret .nx
theorem ds_while {c : Expr} {body : List Stmt} {t : M Bool} {b : M Flow} (S : Sc C n) (hc : DT C c t) (hb : DSs C body b) (k : Nat) : DS C (.While c body [] pos) (whM t b k) :=
  ⟨PS.imp (ps_while S.po hc.pt hb.pss) fun E σ H ⟨Hf, G, ρ, rr, h⟩ => by
    refine ⟨fun m σ H => ∃ Hf' ρ', RR C.F Hf' G σ H ρ' ∧ PostS C E Hf' G (whM t b m ρ'), ⟨k, Hf, ρ, rr, h⟩, ?_⟩
    rintro m σ1 H1 ⟨Hf1, ρ1, r1, p1⟩
    cases m with
    | zero => exact p1.elim
    | succ m =>
      unfold whM at p1
      refine posts_bind r1 p1 fun x c H2 Hf2 ρ2 s2 r2 e p2 => ?_
      subst e
      cases x with
      | false => rw [if_neg Bool.false_ne_true] at p2 ⊢; exact p2 σ1 H2 Hf2 (Same.refl _) r2
      | true =>
        rw [if_pos rfl] at p2 ⊢
        refine ⟨fun σ' H' => ∃ Hf' ρ', RR C.F Hf' G σ' H' ρ' ∧ PostS C E Hf' G (whM t b m ρ'), fun σ' H' z => ⟨m, Nat.lt_succ_self m, z⟩, Hf2, G, ρ2, r2, ?_⟩
        cases e2 : b ρ2 with
        | ok fl ρ4 =>
          cases fl with
          | nx => simp only [e2] at p2; exact fun σ5 H5 Hf5 s5 r5 => ⟨Hf5, ρ4, r5, p2.up s5⟩
          | ct => simp only [e2] at p2; exact fun σ5 H5 Hf5 s5 r5 => ⟨Hf5, ρ4, r5, p2.up s5⟩
          | bk => simp only [e2] at p2; exact p2
          | rt d => simp only [e2] at p2; exact p2
          | ro d => simp only [e2] at p2; exact p2
        | ex x ρ4 => simp only [e2] at p2; exact p2
        | no => simp only [e2] at p2; exact p2⟩
end
end DS
namespace DS
open PySem L2
noncomputable section
/-- a line that is never run, only said -/
def big (P : Prop) : Bool := @decide P (Classical.propDecidable P)
@[simp] theorem big_iff (P : Prop) : (big P = true) = P := by unfold big; exact propext (@decide_eq_true_iff P (Classical.propDecidable P))
theorem of_big {P : Prop} (h : big P = true) : P := by rwa [big_iff] at h
theorem big_ok {P : Prop} (h : P) : big P = true := by rwa [big_iff]
variable {C : DC}
/-! ### inversions -/
theorem rpt_int {T : Wd} {Hf H : Hp} {i : Int} {v : V} (h : RpT T Hf H (.int i) v) : v = .int i := by
  have h : Rp T Hf (.int i) v := h
  simpa only [Rp] using h
theorem rpt_bool {T : Wd} {Hf H : Hp} {b : Bool} {v : V} (h : RpT T Hf H (.bool b) v) : v = .bl b := by
  have h : Rp T Hf (.bool b) v := h
  simpa only [Rp] using h
theorem rpt_none {T : Wd} {Hf H : Hp} {v : V} (h : RpT T Hf H .none v) : v = .non := by
  have h : Rp T Hf .none v := h
  simpa only [Rp] using h
theorem rpt_str {T : Wd} {Hf H : Hp} {x : Str} {v : V} (h : RpT T Hf H (.str x) v) : v = .str x ∧ PyData.strOk x = true := by
  have h : Rp T Hf (.str x) v := h
  simpa only [Rp] using h
theorem rpt_list {T : Wd} {Hf H : Hp} {ds : List D} {v : V} (h : RpT T Hf H (.list ds) v) : ∃ a xs, v = .ref a ∧ SqL T.K H a xs ∧ RpA T Hf ds xs := h
theorem rpt_tuple {T : Wd} {Hf H : Hp} {ds : List D} {v : V} (h : RpT T Hf H (.tuple ds) v) : ∃ a xs, v = .ref a ∧ SqT T.K Hf a xs ∧ RpA T Hf ds xs := by
  have h : Rp T Hf (.tuple ds) v := h
  simpa only [Rp] using h
theorem rp_int {T : Wd} {Hf : Hp} (i : Int) : Rp T Hf (.int i) (.int i) := by simp only [Rp]
theorem rp_bool {T : Wd} {Hf : Hp} (b : Bool) : Rp T Hf (.bool b) (.bl b) := by simp only [Rp]
theorem rp_none {T : Wd} {Hf : Hp} : Rp T Hf .none .non := by simp only [Rp]
theorem rp_str {T : Wd} {Hf : Hp} {x : Str} (h : PyData.strOk x = true) : Rp T Hf (.str x) (.str x) := by unfold Rp; exact ⟨rfl, h⟩
theorem rp_list {T : Wd} {Hf : Hp} {a : Addr} {xs : List V} {ds : List D} (h : SqL T.K Hf a xs) (r : RpA T Hf ds xs) : Rp T Hf (.list ds) (.ref a) := by unfold Rp; exact ⟨a, xs, rfl, h, r⟩
theorem rp_tuple {T : Wd} {Hf : Hp} {a : Addr} {xs : List V} {ds : List D} (h : SqT T.K Hf a xs) (r : RpA T Hf ds xs) : Rp T Hf (.tuple ds) (.ref a) := by unfold Rp; exact ⟨a, xs, rfl, h, r⟩

/-- a new tuple -/
theorem new_tup {Hf G : Hp} {σ : St} {H : Hp} {ρ : Rho} {ds : List D} {vs : List V} {Q : VK} (rr : RR C.F Hf G σ H ρ) (ra : RpA C.T Hf ds vs) (q : ∀ v H' Hf', Same Hf Hf' → RR C.F Hf' G σ H' ρ → Rp C.T Hf' (.tuple ds) v → Q v H') (p : Addr) (hp : H p = none) : Q (.ref p) (upd H p (.tup vs)) :=
  q _ _ _ (rr.sameN hp) (rr.new hp) (rp_tuple (SqT.of upd_same) (RpA.mono (rr.sameN hp) _ _ ra))
theorem new_lst {Hf G : Hp} {σ : St} {H : Hp} {ρ : Rho} {ds : List D} {vs : List V} {Q : VK} (rr : RR C.F Hf G σ H ρ) (ra : RpA C.T Hf ds vs) (q : ∀ v H' Hf', Same Hf Hf' → RR C.F Hf' G σ H' ρ → Rp C.T Hf' (.list ds) v → Q v H') (p : Addr) (hp : H p = none) : Q (.ref p) (upd H p (.lst vs)) :=
  q _ _ _ (rr.sameN hp) (rr.new hp) (rp_list (SqL.of upd_same) (RpA.mono (rr.sameN hp) _ _ ra))
/-- a new list, not frozen -/
theorem new_own {Hf G : Hp} {σ : St} {H : Hp} {ρ : Rho} {ds : List D} {vs : List V} {Q : VK} (rr : RR C.F Hf G σ H ρ) (ra : RpA C.T Hf ds vs) (q : ∀ v H' Hf', Same Hf Hf' → RR C.F Hf' G σ H' ρ → relF C.T Hf' G σ H' ρ v ds → Q v H') (p : Addr) (hp : H p = none) : Q (.ref p) (upd H p (.lst vs)) :=
  q _ _ Hf (Same.refl _) (rr.grow (Same.updN hp)) ⟨p, vs, rfl, rr.fresh hp, upd_same, ra⟩

/-! ### arithmetic -/
theorem opd_int {f : Value → Value → Sem Value} {c : Int → Int → Prop} {k : Int → Int → V} {g : D → D → Option D} (ho : OpR C.X f (rI c k))
    (hg : ∀ a b d, g a b = some d → ∃ i j e, a = .int i ∧ b = .int j ∧ c i j ∧ d = e ∧ ∀ T Hf, Rp T Hf e (k i j)) : OpD C f g :=
  ⟨_, ho, fun Hf G σ H ρ x y a b d Q rr ra rb e q => by
    obtain ⟨i, j, z, rfl, rfl, hc, rfl, r⟩ := hg a b d e
    exact ⟨i, j, rpt_int ra, rpt_int rb, hc, q _ H Hf (Same.refl _) rr (r _ _)⟩⟩
def subD : D → D → Option D
  | .int i, .int j => some (.int (i - j))
  | _, _ => none
def modD : D → D → Option D
  | .int i, .int j => if 0 < j then some (.int (i % j)) else none
  | _, _ => none
def divD : D → D → Option D
  | .int i, .int j => if big (0 < j ∧ j < 1073741824) then some (.int (i / j)) else none
  | _, _ => none
def powD : D → D → Option D
  | .int i, .int j => if big (0 ≤ j ∧ j ≤ 1000000 ∧ i.natAbs < 2 ^ 64) then some (.int (i ^ j.toNat)) else none
  | _, _ => none
theorem rI0_rI {X : Cx} {f : Value → Value → Sem Value} {k : Int → Int → V} (h : OpR X f (rI0 k)) : OpR X f (rI (fun _ _ => True) k) := fun pins s σ H x y v u Q I rx ry ⟨i, j, e1, e2, _, q⟩ => h pins s σ H x y v u Q I rx ry ⟨i, j, e1, e2, q⟩
theorem o_sub : OpD C (binaryOp .Sub) subD := opd_int (rI0_rI op_sub) fun a b d h => by
  unfold subD at h
  split at h
  · cases h; exact ⟨_, _, _, rfl, rfl, trivial, rfl, fun _ _ => rp_int _⟩
  · cases h
theorem o_mod : OpD C (binaryOp .Mod) modD := opd_int op_mod fun a b d h => by
  unfold modD at h
  split at h
  · split at h
    · cases h; exact ⟨_, _, _, rfl, rfl, by assumption, rfl, fun _ _ => rp_int _⟩
    · cases h
  · cases h
theorem o_div : OpD C (binaryOp .FloorDiv) divD := opd_int op_fdiv fun a b d h => by
  unfold divD at h
  split at h
  · split at h
    · cases h; exact ⟨_, _, _, rfl, rfl, of_big (by assumption), rfl, fun _ _ => rp_int _⟩
    · cases h
  · cases h
theorem o_pow : OpD C (binaryOp .Pow) powD := opd_int op_pow fun a b d h => by
  unfold powD at h
  split at h
  · split at h
    · cases h; exact ⟨_, _, _, rfl, rfl, of_big (by assumption), rfl, fun _ _ => rp_int _⟩
    · cases h
  · cases h
/-- + of numbers, texts, lists, tuples -/
def addD : D → D → Option D
  | .int i, .int j => some (.int (i + j))
  | .str a, .str b => if a.length + b.length ≤ sizeLine then some (.str (a ++ b)) else none
  | .list a, .list b => if a.length + b.length ≤ sizeLine then some (.list (a ++ b)) else none
  | .tuple a, .tuple b => if a.length + b.length ≤ sizeLine then some (.tuple (a ++ b)) else none
  | _, _ => none
def rCatL (K : PySem.W.Frag) : R2 := fun x y H Q => ∃ l b xs zs, x = .ref l ∧ y = .ref b ∧ SqL K H l xs ∧ SqL K H b zs ∧ xs.length + zs.length ≤ sizeLine ∧ ∀ p, H p = none → Q (.ref p) (upd H p (.lst (xs ++ zs)))
theorem op_catL {X : Cx} : OpR X (binaryOp .Add) (rCatL X.K) := by
  intro pins s σ H x y v u Q I rx ry h
  obtain ⟨l, b, xs, zs, rfl, rfl, hH, hB, hz, q⟩ := h
  cases rx
  cases ry
  obtain ⟨its, r, pl, z⟩ := I.list hH
  obtain ⟨its2, r2, pl2, z2⟩ := I.list hB
  have hl := r.length
  have hl2 := r2.length
  obtain ⟨⟨c1, d1, t1, k1⟩, g1, e1, n1, f1⟩ := pl.isList
  obtain ⟨⟨c2, d2, t2, k2⟩, g2, e2, n2, f2⟩ := pl2.isList
  simp only at e1 f1 e2 f2
  subst e1 f1 e2 f2
  refine PySem.concat_meets ⟨_, g1, rfl⟩ ⟨_, g2, rfl⟩ noFill_list_add seq_list_add PySem.F.slot_list_add PySem.F.entry_list_add (PySem.F.args_list_add_2 _ _)
    (PyProof.Rows.list_addW l b its.toArray its2.toArray n1 n2 d1 d2 k1 k2 (by rw [List.size_toArray, List.size_toArray]; omega)) ⟨g1, g2, ?_⟩
  rw [show its.toArray ++ its2.toArray = (its ++ its2).toArray by simp]
  exact ⟨.ref _, _, I.lnew (t' := s.toks) (r.append r2) (by rw [List.length_append]; omega), rfl, q _ I.fresh⟩
theorem strOk_app {a b : Str} (h1 : PyData.strOk a = true) (h2 : PyData.strOk b = true) : PyData.strOk (a ++ b) = true := by
  unfold PyData.strOk at *
  have e : (a ++ b).cps = a.cps ++ b.cps := rfl
  rw [e, Array.all_append, h1, h2]; rfl
theorem o_add : OpD C (binaryOp .Add) addD :=
  ⟨_, op_add.or (op_add_str.or (op_catL.or op_catA)), fun Hf G σ H ρ x y a b d Q rr ra rb e q => by
    unfold addD at e
    split at e
    · cases e
      exact .inl ⟨_, _, rpt_int ra, rpt_int rb, q _ H Hf (Same.refl _) rr (rp_int _)⟩
    · split at e
      · cases e
        obtain ⟨e1, k1⟩ := rpt_str ra
        obtain ⟨e2, k2⟩ := rpt_str rb
        exact .inr (.inl ⟨_, _, e1, e2, by assumption, q _ H Hf (Same.refl _) rr (rp_str (strOk_app k1 k2))⟩)
      · cases e
    · split at e
      · rename_i hl
        cases e
        obtain ⟨p1, xs, e1, s1, r1⟩ := rpt_list ra
        obtain ⟨p2, ys, e2, s2, r2⟩ := rpt_list rb
        refine .inr (.inr (.inl ⟨p1, p2, xs, ys, e1, e2, s1, s2, by rw [RpA.length r1, RpA.length r2]; exact hl, new_lst rr (RpA.append r1 r2) q⟩))
      · cases e
    · split at e
      · rename_i hl
        cases e
        obtain ⟨p1, xs, e1, s1, r1⟩ := rpt_tuple ra
        obtain ⟨p2, ys, e2, s2, r2⟩ := rpt_tuple rb
        refine .inr (.inr (.inr ⟨p1, p2, xs, ys, e1, e2, Same.sqT rr.fz s1, Same.sqT rr.fz s2, by rw [RpA.length r1, RpA.length r2]; exact hl, fun z => ?_, fun _ z => ?_, fun _ _ => new_tup rr (RpA.append r1 r2) q⟩))
        · subst z
          have : ∀ as : List D, RpA C.T Hf as [] → as = [] := fun as h => by
            have := RpA.length h
            cases as with
            | nil => rfl
            | cons _ _ => cases this
          rw [this _ r1] at q
          exact q _ H Hf (Same.refl _) rr (rp_tuple s2 r2)
        · subst z
          have : ∀ as : List D, RpA C.T Hf as [] → as = [] := fun as h => by
            have := RpA.length h
            cases as with
            | nil => rfl
            | cons _ _ => cases this
          rw [this _ r2, List.append_nil] at q
          exact q _ H Hf (Same.refl _) rr (rp_tuple s1 r1)
      · cases e
    · cases e⟩

/-! ### data without objects of one's own -/
mutual
def noObj : D → Bool
  | .none => true | .bool _ => true | .int _ => true | .str _ => true
  | .list ds => noObjA ds
  | .tuple ds => noObjA ds
  | .dict _ => false
def noObjA : List D → Bool
  | [] => true
  | d :: ds => noObj d && noObjA ds
end
mutual
theorem Rp.lay {T : Wd} {H : Hp} : ∀ (d : D) (v : V), Rp T H d v → noObj d = true → d.canLay0 = true ∧ Dp T.K H v d
  | .none, v, h, _ => by
    simp only [Rp] at h; subst h; exact ⟨rfl, .non⟩
  | .bool b, v, h, _ => by
    simp only [Rp] at h; subst h; exact ⟨rfl, .bl b⟩
  | .int i, v, h, _ => by
    simp only [Rp] at h; subst h; exact ⟨rfl, .int i⟩
  | .str x, v, h, _ => by
    simp only [Rp] at h
    obtain ⟨e, k⟩ := h
    subst e
    exact ⟨by simpa only [PyData.canLay0] using k, .str x⟩
  | .list ds, v, h, n => by
    simp only [Rp] at h
    obtain ⟨a, xs, e, q, r⟩ := h
    subst e
    obtain ⟨z1, z2⟩ := RpA.lay ds xs r (by simpa only [noObj] using n)
    exact ⟨by simpa only [PyData.canLay0] using z1, .lst q z2⟩
  | .tuple ds, v, h, n => by
    simp only [Rp] at h
    obtain ⟨a, xs, e, q, r⟩ := h
    subst e
    obtain ⟨z1, z2⟩ := RpA.lay ds xs r (by simpa only [noObj] using n)
    exact ⟨by simpa only [PyData.canLay0] using z1, .tup q z2⟩
  | .dict kvs, v, h, n => by simp only [noObj] at n; cases n
theorem RpA.lay {T : Wd} {H : Hp} : ∀ (ds : List D) (vs : List V), RpA T H ds vs → noObjA ds = true → PyData.canLayAll0 ds = true ∧ DpAll T.K H vs ds
  | [], vs, h, _ => by rw [RpA.unnil h]; exact ⟨rfl, .nil⟩
  | d :: ds, vs, h, n => by
    obtain ⟨v, r, e, q, z⟩ := RpA.uncons h
    subst e
    simp only [noObjA, Bool.and_eq_true] at n
    obtain ⟨a1, a2⟩ := Rp.lay d v q n.1
    obtain ⟨b1, b2⟩ := RpA.lay ds r z n.2
    exact ⟨by simp only [PyData.canLayAll0, a1, b1, Bool.and_self], .cons a2 b2⟩
end
theorem RpT.dp {T : Wd} {Hf H : Hp} {d : D} {v : V} (s : Same Hf H) (h : RpT T Hf H d v) (n : noObj d = true) : d.canLay0 = true ∧ Dp T.K H v d := Rp.lay d v (RpT.low s h) n
/-! ### ==, != -/
def cmpOk (a b : D) : Bool := decide (min a.depth b.depth ≤ 64) && noObj a && noObj b
def eqD (a b : D) : Option D := if cmpOk a b then some (.bool (PyData.eqv a b)) else none
def neD (a b : D) : Option D := if cmpOk a b then some (.bool (!PyData.eqv a b)) else none
def rEqL (K : PySem.W.Frag) : R2 := fun x y H Q => ∃ d e, Dp K H x d ∧ Dp K H y e ∧ d.canLay0 = true ∧ e.canLay0 = true ∧ min d.depth e.depth ≤ 64 ∧ Q (.bl (PyData.eqv d e)) H
def rNeL (K : PySem.W.Frag) : R2 := fun x y H Q => ∃ d e, Dp K H x d ∧ Dp K H y e ∧ d.canLay0 = true ∧ e.canLay0 = true ∧ min d.depth e.depth ≤ 64 ∧ Q (.bl (!PyData.eqv d e)) H
theorem op_eqL {X : Cx} (hu : X.A.units + 65 < cLine) : OpR X (compareOp .Eq) (rEqL X.K) := by
  intro pins s σ H x y v u Q I rx ry h
  obtain ⟨d, e, hd, he, sd, se, hm, q⟩ := h
  obtain ⟨as, r1⟩ := Dp.reads I d x v hd rx
  obtain ⟨bs, r2⟩ := Dp.reads I e y u he ry
  exact SeqAt.compareEq_reads r1 r2 sd se (by omega) ⟨.bl _, H, I, rfl, q⟩
theorem op_neL {X : Cx} (hu : X.A.units + 65 < cLine) : OpR X (compareOp .NotEq) (rNeL X.K) := by
  intro pins s σ H x y v u Q I rx ry h
  obtain ⟨d, e, hd, he, sd, se, hm, q⟩ := h
  obtain ⟨as, r1⟩ := Dp.reads I d x v hd rx
  obtain ⟨bs, r2⟩ := Dp.reads I e y u he ry
  exact SeqAt.compareNe_reads r1 r2 sd se (by omega) ⟨.bl _, H, I, rfl, q⟩
theorem Sc.units {n : Nm} (S : Sc C n) : C.X.A.units + 65 < cLine := by have := S.room.un; omega
theorem o_eq {n : Nm} (S : Sc C n) : OpD C (compareOp .Eq) eqD :=
  ⟨_, op_eqL S.units, fun Hf G σ H ρ x y a b d Q rr ra rb e q => by
    unfold eqD cmpOk at e
    split at e
    · rename_i hc
      simp only [Bool.and_eq_true, decide_eq_true_eq] at hc
      cases e
      obtain ⟨a1, a2⟩ := ra.dp rr.fz hc.1.2
      obtain ⟨b1, b2⟩ := rb.dp rr.fz hc.2
      exact ⟨a, b, a2, b2, a1, b1, hc.1.1, q _ H Hf (Same.refl _) rr (rp_bool _)⟩
    · cases e⟩
theorem o_ne {n : Nm} (S : Sc C n) : OpD C (compareOp .NotEq) neD :=
  ⟨_, op_neL S.units, fun Hf G σ H ρ x y a b d Q rr ra rb e q => by
    unfold neD cmpOk at e
    split at e
    · rename_i hc
      simp only [Bool.and_eq_true, decide_eq_true_eq] at hc
      cases e
      obtain ⟨a1, a2⟩ := ra.dp rr.fz hc.1.2
      obtain ⟨b1, b2⟩ := rb.dp rr.fz hc.2
      exact ⟨a, b, a2, b2, a1, b1, hc.1.1, q _ H Hf (Same.refl _) rr (rp_bool _)⟩
    · cases e⟩
/-! ### <, <=, >, >= of numbers and texts -/
def ltD : D → D → Option D
  | .int i, .int j => some (.bool (decide (i < j)))
  | .str a, .str b => some (.bool (decide (a.cps.toList < b.cps.toList)))
  | _, _ => none
def leD : D → D → Option D
  | .int i, .int j => some (.bool (decide (i ≤ j)))
  | .str a, .str b => some (.bool (!decide (b.cps.toList < a.cps.toList)))
  | _, _ => none
def gtD : D → D → Option D
  | .int i, .int j => some (.bool (decide (j < i)))
  | .str a, .str b => some (.bool (decide (b.cps.toList < a.cps.toList)))
  | _, _ => none
def geD : D → D → Option D
  | .int i, .int j => some (.bool (decide (j ≤ i)))
  | .str a, .str b => some (.bool (!decide (a.cps.toList < b.cps.toList)))
  | _, _ => none
theorem o_lt : OpD C (compareOp .Lt) ltD :=
  ⟨_, op_lt.or op_lt_str, fun Hf G σ H ρ x y a b d Q rr ra rb e q => by
    unfold ltD at e
    split at e
    · cases e; exact .inl ⟨_, _, rpt_int ra, rpt_int rb, q _ H Hf (Same.refl _) rr (rp_bool _)⟩
    · cases e; exact .inr ⟨_, _, (rpt_str ra).1, (rpt_str rb).1, q _ H Hf (Same.refl _) rr (rp_bool _)⟩
    · cases e⟩
theorem o_le : OpD C (compareOp .LtE) leD :=
  ⟨_, op_le.or op_le_str, fun Hf G σ H ρ x y a b d Q rr ra rb e q => by
    unfold leD at e
    split at e
    · cases e; exact .inl ⟨_, _, rpt_int ra, rpt_int rb, q _ H Hf (Same.refl _) rr (rp_bool _)⟩
    · cases e; exact .inr ⟨_, _, (rpt_str ra).1, (rpt_str rb).1, q _ H Hf (Same.refl _) rr (rp_bool _)⟩
    · cases e⟩
theorem o_gt : OpD C (compareOp .Gt) gtD :=
  ⟨_, op_gt.or op_gt_str, fun Hf G σ H ρ x y a b d Q rr ra rb e q => by
    unfold gtD at e
    split at e
    · cases e; exact .inl ⟨_, _, rpt_int ra, rpt_int rb, q _ H Hf (Same.refl _) rr (rp_bool _)⟩
    · cases e; exact .inr ⟨_, _, (rpt_str ra).1, (rpt_str rb).1, q _ H Hf (Same.refl _) rr (rp_bool _)⟩
    · cases e⟩
theorem o_ge : OpD C (compareOp .GtE) geD :=
  ⟨_, op_ge.or op_ge_str, fun Hf G σ H ρ x y a b d Q rr ra rb e q => by
    unfold geD at e
    split at e
    · cases e; exact .inl ⟨_, _, rpt_int ra, rpt_int rb, q _ H Hf (Same.refl _) rr (rp_bool _)⟩
    · cases e; exact .inr ⟨_, _, (rpt_str ra).1, (rpt_str rb).1, q _ H Hf (Same.refl _) rr (rp_bool _)⟩
    · cases e⟩
/-! ### is None, is True -/
def isNone : D → Bool
  | .none => true
  | _ => false
def isD : D → D → Option D
  | a, .none => some (.bool (isNone a))
  | .bool a, .bool b => some (.bool (decide (a = b)))
  | _, _ => none
def isNotD : D → D → Option D
  | a, .none => some (.bool (!isNone a))
  | .bool a, .bool b => some (.bool (!decide (a = b)))
  | _, _ => none
theorem rpt_isNone {T : Wd} {Hf H : Hp} {d : D} {v : V} (h : RpT T Hf H d v) : decide (v = .non) = isNone d := by
  cases d with
  | none => rw [rpt_none h]; rfl
  | bool b => rw [rpt_bool h]; rfl
  | int i => rw [rpt_int h]; rfl
  | str x => rw [(rpt_str h).1]; rfl
  | list ds => obtain ⟨a, xs, e, _⟩ := h; rw [e]; rfl
  | tuple ds => obtain ⟨a, xs, e, _⟩ := rpt_tuple h; rw [e]; rfl
  | dict kvs =>
    have h : Rp T Hf (.dict kvs) v := h
    simp only [Rp] at h
    obtain ⟨a, e, _⟩ := h
    rw [e]; rfl
theorem o_is : OpD C (compareOp .Is) isD :=
  ⟨_, op_isN.or op_is_bl, fun Hf G σ H ρ x y a b d Q rr ra rb e q => by
    unfold isD at e
    split at e
    · cases e
      refine .inl ⟨rpt_none rb, ?_⟩
      rw [rpt_isNone ra]
      exact q _ H Hf (Same.refl _) rr (rp_bool _)
    · cases e; exact .inr ⟨_, _, rpt_bool ra, rpt_bool rb, q _ H Hf (Same.refl _) rr (rp_bool _)⟩
    · cases e⟩
theorem o_isNot : OpD C (compareOp .IsNot) isNotD :=
  ⟨_, op_notN.or op_isnot_bl, fun Hf G σ H ρ x y a b d Q rr ra rb e q => by
    unfold isNotD at e
    split at e
    · cases e
      refine .inl ⟨rpt_none rb, ?_⟩
      rw [rpt_isNone ra]
      exact q _ H Hf (Same.refl _) rr (rp_bool _)
    · cases e; exact .inr ⟨_, _, rpt_bool ra, rpt_bool rb, q _ H Hf (Same.refl _) rr (rp_bool _)⟩
    · cases e⟩
/-! ### in, not in: a list or a tuple of data -/
def inOk (d : D) (ds : List D) : Bool := decide (min (PyData.depthAll ds) d.depth ≤ 64) && noObj d && noObjA ds
def inD : D → D → Option D
  | d, .list ds => if inOk d ds then some (.bool (ds.any fun y => PyData.eqv y d)) else none
  | d, .tuple ds => if inOk d ds then some (.bool (ds.any fun y => PyData.eqv y d)) else none
  | _, _ => none
def notInD : D → D → Option D
  | d, .list ds => if inOk d ds then some (.bool (!ds.any fun y => PyData.eqv y d)) else none
  | d, .tuple ds => if inOk d ds then some (.bool (!ds.any fun y => PyData.eqv y d)) else none
  | _, _ => none
def rInL (K : PySem.W.Frag) (neg : Bool) : R2 := fun x y H Q => ∃ d ds z, Dp K H x d ∧ Dp K H y z ∧ (z = .list ds ∨ z = .tuple ds) ∧ d.canLay0 = true ∧ PyData.canLayAll0 ds = true ∧ min (PyData.depthAll ds) d.depth ≤ 64 ∧ Q (.bl (if neg then !(ds.any fun y => PyData.eqv y d) else ds.any fun y => PyData.eqv y d)) H
theorem op_inL {X : Cx} (hu : X.A.units + 65 < cLine) : OpR X (compareOp .In) (rInL X.K false) := by
  intro pins s σ H x y v u Q I rx ry h
  obtain ⟨d, ds, z, hd, he, hz, sd, se, hm, q⟩ := h
  obtain ⟨as, r1⟩ := Dp.reads I d x v hd rx
  obtain ⟨bs, r2⟩ := Dp.reads I z y u he ry
  rcases hz with rfl | rfl
  · exact SeqAt.in_list_reads r2 r1 se sd (by omega) ⟨.bl _, H, I, rfl, q⟩
  · exact SeqAt.in_tuple_reads r2 r1 se sd (by omega) ⟨.bl _, H, I, rfl, q⟩
theorem op_notInL {X : Cx} (hu : X.A.units + 65 < cLine) : OpR X (compareOp .NotIn) (rInL X.K true) := by
  intro pins s σ H x y v u Q I rx ry h
  obtain ⟨d, ds, z, hd, he, hz, sd, se, hm, q⟩ := h
  obtain ⟨as, r1⟩ := Dp.reads I d x v hd rx
  obtain ⟨bs, r2⟩ := Dp.reads I z y u he ry
  rcases hz with rfl | rfl
  · exact SeqAt.notIn_list_reads r2 r1 se sd (by omega) ⟨.bl _, H, I, rfl, q⟩
  · exact SeqAt.notIn_tuple_reads r2 r1 se sd (by omega) ⟨.bl _, H, I, rfl, q⟩
theorem inL_ok {Hf G : Hp} {σ : St} {H : Hp} {ρ : Rho} {x y : V} {a b : D} {ds : List D} {neg : Bool} {Q : VK} (rr : RR C.F Hf G σ H ρ) (ra : RpT C.T Hf H a x) (rb : RpT C.T Hf H b y) (hb : b = .list ds ∨ b = .tuple ds) (hc : inOk a ds = true)
    (q : Q (.bl (if neg then !(ds.any fun y => PyData.eqv y a) else ds.any fun y => PyData.eqv y a)) H) : rInL C.X.K neg x y H Q := by
  unfold inOk at hc
  simp only [Bool.and_eq_true, decide_eq_true_eq] at hc
  obtain ⟨a1, a2⟩ := ra.dp rr.fz hc.1.2
  have nb : noObj b = true := by rcases hb with rfl | rfl <;> (simp only [noObj]; exact hc.2)
  obtain ⟨b1, b2⟩ := rb.dp rr.fz nb
  refine ⟨a, ds, b, a2, b2, hb, a1, ?_, hc.1.1, q⟩
  rcases hb with rfl | rfl <;> simpa only [PyData.canLay0] using b1
theorem o_in {n : Nm} (S : Sc C n) : OpD C (compareOp .In) inD :=
  ⟨_, op_inL S.units, fun Hf G σ H ρ x y a b d Q rr ra rb e q => by
    unfold inD at e
    split at e
    · split at e
      · cases e; exact inL_ok rr ra rb (.inl rfl) (by assumption) (q _ H Hf (Same.refl _) rr (rp_bool _))
      · cases e
    · split at e
      · cases e; exact inL_ok rr ra rb (.inr rfl) (by assumption) (q _ H Hf (Same.refl _) rr (rp_bool _))
      · cases e
    · cases e⟩
theorem o_notIn {n : Nm} (S : Sc C n) : OpD C (compareOp .NotIn) notInD :=
  ⟨_, op_notInL S.units, fun Hf G σ H ρ x y a b d Q rr ra rb e q => by
    unfold notInD at e
    split at e
    · split at e
      · cases e; exact inL_ok rr ra rb (.inl rfl) (by assumption) (q _ H Hf (Same.refl _) rr (rp_bool _))
      · cases e
    · split at e
      · cases e; exact inL_ok rr ra rb (.inr rfl) (by assumption) (q _ H Hf (Same.refl _) rr (rp_bool _))
      · cases e
    · cases e⟩
/-! ### * -/
def mulOk (i j : Int) : Bool := big ((-(2 ^ 64) < i ∧ i < 2 ^ 64) ∨ (-(2 ^ 64) < j ∧ j < 2 ^ 64))
def mulD : D → D → Option D
  | .int i, .int j => if mulOk i j then some (.int (i * j)) else none
  | .list ds, .int k => if big (-(2 ^ 63) ≤ k ∧ k < 2 ^ 63 ∧ ds.length * k.toNat ≤ sizeLine) then some (.list (List.replicate k.toNat ds).flatten) else none
  | _, _ => none
def rRepL (K : PySem.W.Frag) : R2 := fun x y H Q => ∃ l k xs, x = .ref l ∧ y = .int k ∧ SqL K H l xs ∧ -(2 ^ 63) ≤ k ∧ k < 2 ^ 63 ∧ xs.length * k.toNat ≤ sizeLine ∧ ∀ p, H p = none → Q (.ref p) (upd H p (.lst (List.replicate k.toNat xs).flatten))
theorem op_repL {X : Cx} : OpR X (binaryOp .Mult) (rRepL X.K) := by
  intro pins s σ H x y v u Q I rx ry h
  obtain ⟨l, k, xs, rfl, rfl, hH, h1, h2, hz, q⟩ := h
  cases rx
  obtain ⟨t, rfl⟩ := ry
  obtain ⟨its, r, pl, z⟩ := I.list hH
  obtain ⟨⟨c1, d1, t1, k1⟩, g1, e1, n1, f1⟩ := pl.isList
  simp only at e1 f1
  subst e1 f1
  have sz : its.toArray.size * k.toNat ≤ sizeLine := by rw [List.size_toArray, ← r.length]; exact hz
  have line : (sizeLine : Nat) ≤ (2 ^ 63 - 1) / 8 := by decide
  have c0 : ¬ (!Builtin.List.listFitsIndex k) = true := by rw [fitsIndex_both h1 h2]; decide
  have c2 : ¬ Builtin.List.listTooLong (its.toArray.size * k.toNat) = true := by rw [notLongL sz]; decide
  refine wpAny_binaryOp_repeat_ref (T := "list") (U := "int") (by decide) ⟨_, g1, rfl⟩ (fun s' => typeIs_int s' k t) noFill_list_mul F.fills_int_mul F.slot_int_rmul repeat_list F.slot_int_index.lookup ?_
  refine call_meets F.slot_int_rmul (typeIs_int s k t) F.entry_int_rmul (F.args_int_rmul_2 _ _) (lm_int_rmul_list_any k t l its.toArray n1 d1 k1) ⟨g1, rfl, ⟨_, g1, rfl⟩, ?_⟩
  refine call_meets F.slot_list_mul ⟨_, g1, rfl⟩ F.entry_list_mul (F.args_list_mul_2 _ _) (lm_list_mul_any l its.toArray n1 d1 k1 k t c0 (by omega) c2) ⟨g1, ?_⟩
  rw [PyProof.Rows.listMul_foldl_if]
  exact ⟨.ref _, _, I.lnew (t' := s.toks) (r.rep k.toNat) (by rw [PyProof.Rows.lm_len_rep_flat, Nat.mul_comm]; exact hz), rfl, q _ I.fresh⟩
theorem o_mul : OpD C (binaryOp .Mult) mulD :=
  ⟨_, op_mul.or op_repL, fun Hf G σ H ρ x y a b d Q rr ra rb e q => by
    unfold mulD at e
    split at e
    · split at e
      · rename_i hc
        cases e
        refine .inl ⟨_, _, rpt_int ra, rpt_int rb, ?_, q _ H Hf (Same.refl _) rr (rp_int _)⟩
        exact of_big hc
      · cases e
    · split at e
      · rename_i hc
        cases e
        obtain ⟨p1, xs, e1, s1, r1⟩ := rpt_list ra
        have hc := of_big hc
        exact .inr ⟨p1, _, xs, e1, rpt_int rb, s1, hc.1, hc.2.1, by rw [RpA.length r1]; exact hc.2.2, new_lst rr (RpA.rep r1 _) q⟩
      · cases e
    · cases e⟩
end
end DS
namespace DS
open PySem L2
noncomputable section
variable {C : DC} {n : Nm} {pos : Pos}
/-! ### arguments, displays -/
abbrev relA (T : Wd) : Rel (List V) (List D) := fun Hf _ _ _ _ vs ds => RpA T Hf ds vs
structure DA (C : DC) (es : List Expr) (m : M (List D)) : Prop where
  pa : PA C.X es (Lft C (relA C.T) m)
theorem PA.imp {X : Cx} {e : List Expr} {t t' : TA} (h : PA X e t) (k : ∀ σ H Q, t' σ H Q → t σ H Q) : PA X e t' := ⟨fun pos pins s σ H Q I hw => h.run pos pins s σ H Q I (k _ _ _ hw)⟩
theorem da_nil : DA C [] (ret []) := ⟨PA.imp pa_nil fun σ H Q ⟨Hf, G, ρ, rr, h⟩ => h [] H Hf (Same.refl _) rr RpA.nil⟩
def consM (a : M D) (b : M (List D)) : M (List D) := bnd a fun x => bnd b fun xs => ret (x :: xs)
theorem da_cons {e : Expr} {es : List Expr} {a : M D} {b : M (List D)} (h1 : DE C e a) (h2 : DA C es b) : DA C (e :: es) (consM a b) :=
  ⟨PA.imp (pa_cons h1.pe h2.pa (star_ok h1.ok _ _)) fun σ H Q ⟨Hf, G, ρ, rr, h⟩ => post_bind rr h fun x d H1 Hf1 ρ1 s1 r1 rx p1 => post_bind r1 p1 fun xs ds H2 Hf2 ρ2 s2 r2 rxs p2 =>
    p2 (x :: xs) H2 Hf2 (Same.refl _) r2 (RpA.cons (Rp.mono s2 _ _ rx) rxs)⟩
def tupM (m : M (List D)) : M D := bnd m fun ds => if ds.length ≤ sizeLine then ret (.tuple ds) else stop
theorem de_tup {es : List Expr} {x1 : Nat} {m : M (List D)} (h : DA C es m) : DE C (.Tuple es x1 pos) (tupM m) :=
  ⟨PE.imp (pe_tup h.pa) fun σ H Q ⟨Hf, G, ρ, rr, h⟩ => post_bind rr h fun vs ds H1 Hf1 ρ1 s1 r1 ra p1 => by
    by_cases hl : ds.length ≤ sizeLine
    · rw [if_pos hl] at p1
      exact ⟨by rw [RpA.length ra]; exact hl, new_tup r1 ra p1⟩
    · rw [if_neg hl] at p1; exact p1.elim, rfl⟩
def lstM (m : M (List D)) : M (List D) := bnd m fun ds => if ds.length ≤ sizeLine then ret ds else stop
theorem df_lst {es : List Expr} {m : M (List D)} (h : DA C es m) : DF C (.List es pos) (lstM m) :=
  ⟨PE.imp (pe_lst h.pa) fun σ H Q ⟨Hf, G, ρ, rr, h⟩ => post_bind rr h fun vs ds H1 Hf1 ρ1 s1 r1 ra p1 => by
    by_cases hl : ds.length ≤ sizeLine
    · rw [if_pos hl] at p1
      exact ⟨by rw [RpA.length ra]; exact hl, new_own r1 ra p1⟩
    · rw [if_neg hl] at p1; exact p1.elim, rfl⟩
/-! ### subscripts -/
def IxD (C : DC) (g : D → D → Option D) : Prop :=
  ∃ r : R2, IxR C.X r ∧ ∀ (Hf G : Hp) (σ : St) (H : Hp) (ρ : Rho) (x y : V) (a b d : D) (Q : VK), RR C.F Hf G σ H ρ → RpT C.T Hf H a x → RpT C.T Hf H b y → g a b = some d →
    (∀ v H' Hf', Same Hf Hf' → RR C.F Hf' G σ H' ρ → Rp C.T Hf' d v → Q v H') → r x y H Q
def ixD : D → D → Option D
  | .list ds, .int i => atI ds i
  | .tuple ds, .int i => atI ds i
  | .str z, .int i => if z.length ≤ sizeLine then (atI z.cps.toList i).map fun c => .str ⟨#[c]⟩ else none
  | _, _ => none
theorem atI_rp {T : Wd} {H : Hp} {ds : List D} {vs : List V} {i : Int} {d : D} (ra : RpA T H ds vs) (h : atI ds i = some d) : ∃ v, atI vs i = some v ∧ Rp T H d v := by
  unfold atI at h ⊢
  rw [RpA.length ra]
  cases e : ixN ds.length i with
  | none => rw [e] at h; cases h
  | some j =>
    rw [e] at h
    exact RpA.get ra h
theorem strOk_one {z : Str} {c : Nat} (h : PyData.strOk z = true) (hc : c ∈ z.cps.toList) : PyData.strOk ⟨#[c]⟩ = true := by
  unfold PyData.strOk at h ⊢
  rw [Array.all_eq_true'] at h ⊢
  intro x hx
  have : x = c := by simpa using hx
  subst this
  exact h x (by simpa using hc)
theorem atI_mem {α : Type} {xs : List α} {i : Int} {c : α} (h : atI xs i = some c) : c ∈ xs := by
  unfold atI at h
  cases e : ixN xs.length i with
  | none => rw [e] at h; cases h
  | some j => rw [e] at h; exact List.mem_of_getElem? h
theorem x_ix : IxD C ixD :=
  ⟨_, ix_seq, fun Hf G σ H ρ x y a b d Q rr ra rb e q => by
    unfold ixD at e
    split at e
    · obtain ⟨p, xs, e1, s1, r1⟩ := rpt_list ra
      obtain ⟨v, hv, rv⟩ := atI_rp r1 e
      exact .inl ⟨p, xs, _, v, e1, rpt_int rb, s1, hv, q _ H Hf (Same.refl _) rr rv⟩
    · obtain ⟨p, xs, e1, s1, r1⟩ := rpt_tuple ra
      obtain ⟨v, hv, rv⟩ := atI_rp r1 e
      exact .inr (.inl ⟨p, xs, _, v, e1, rpt_int rb, Same.sqT rr.fz s1, hv, q _ H Hf (Same.refl _) rr rv⟩)
    · split at e
      · rename_i z i hz
        obtain ⟨e1, k⟩ := rpt_str ra
        obtain ⟨c, hc, rfl⟩ := Option.map_eq_some_iff.mp e
        exact .inr (.inr ⟨z, i, c, e1, rpt_int rb, hz, hc, q _ H Hf (Same.refl _) rr (rp_str (strOk_one k (atI_mem hc)))⟩)
      · cases e
    · cases e⟩
variable {a b : Expr} {ma mb : M D}
theorem de_ix (ha : DE C a ma) (hb : DK C b mb) : DE C (.Subscript a b pos) (bin ixD ma mb) :=
  let ⟨_, ho, hr⟩ := x_ix; ⟨PE.imp (pe_ix ho ha.pe hb.pe (ix_ok hb.ok)) (lft_bin (f := binaryOp .Add) hr), rfl⟩
theorem de_ixN {x : Str} {p : Pos} (S : Sc C n) (i : Nat) (hi : i ∈ n.vs) (hx : n.N[i]? = some x) (hb : DK C b mb) : DE C (.Subscript (.Name x p) b pos) (binN ixD i mb) :=
  let ⟨_, ho, hr⟩ := x_ix; ⟨PE.imp (pe_ix ho (pv_ok S i hi hx) hb.pe (ix_ok hb.ok)) (lft_binN hr), rfl⟩
/-! ### slices -/
def cutL {α : Type} (xs : List α) (lo hi : Option Int) : List α := (xs.drop (HT.sIx xs.length 0 lo)).take (HT.sIx xs.length xs.length hi - HT.sIx xs.length 0 lo)
theorem cut_rp {T : Wd} {H : Hp} {ds : List D} {vs : List V} {lo hi : Option Int} (ra : RpA T H ds vs) : RpA T H (cutL ds lo hi) (cutV vs lo hi) := by
  unfold cutL cutV
  rw [RpA.length ra]
  exact RpA.take _ (RpA.drop _ ra)
def slD : D → Option Int → Option Int → Option D
  | .list ds, lo, hi => some (.list (cutL ds lo hi))
  | .tuple ds, lo, hi => some (.tuple (cutL ds lo hi))
  | .str z, lo, hi => if z.length ≤ sizeLine then some (.str (cutS z lo hi)) else none
  | _, _, _ => none
theorem strOk_cut {z : Str} {lo hi : Option Int} (h : PyData.strOk z = true) : PyData.strOk (cutS z lo hi) = true := by
  unfold PyData.strOk cutS at *
  rw [Array.all_eq_true'] at h ⊢
  intro x hx
  exact h x (by
    have h1 := List.mem_of_mem_take (by simpa using hx)
    simpa using List.mem_of_mem_drop h1)
abbrev relO : Rel (Option Int) (Option Int) := fun _ _ _ _ _ b a => b = a
structure DO (C : DC) (e : Option Expr) (m : M (Option Int)) : Prop where
  po : PO C.X e (Lft C relO m)
theorem PO.imp {X : Cx} {e : Option Expr} {t t' : TO} (h : PO X e t) (k : ∀ σ H Q, t' σ H Q → t σ H Q) : PO X e t' := ⟨fun pins s σ H Q I hw => h.run pins s σ H Q I (k _ _ _ hw)⟩
theorem do_none : DO C none (ret none) := ⟨PO.imp po_none fun σ H Q ⟨Hf, G, ρ, rr, h⟩ => h none H Hf (Same.refl _) rr rfl⟩
def asI (m : M D) : M (Option Int) := bnd m fun d => match d with
  | .int i => ret (some i)
  | _ => stop
theorem do_some {e : Expr} {m : M D} (h : DE C e m) : DO C (some e) (asI m) := ⟨PO.imp (po_some h.pe) fun σ H Q ⟨Hf, G, ρ, rr, h⟩ => post_bind rr h fun x d H1 Hf1 ρ1 s1 r1 rx p1 => by
  cases d with
  | int i => exact ⟨i, by simpa only [Rp] using rx, p1 (some i) H1 Hf1 (Same.refl _) r1 rfl⟩
  | none => exact p1.elim
  | bool b => exact p1.elim
  | str x => exact p1.elim
  | list ds => exact p1.elim
  | tuple ds => exact p1.elim
  | dict kvs => exact p1.elim⟩
def rSl (K : PySem.W.Frag) : V → Option Int → Option Int → Hp → VK → Prop := fun x lo hi H Q => rSlL K x lo hi H Q ∨ rSlA K x lo hi H Q ∨ rSlS x lo hi H Q
theorem sl_any {X : Cx} : SlR X (rSl X.K) := sl_list.or (sl_tupA.or sl_str)
theorem cut_whole {α : Type} {xs : List α} {lo hi : Option Int} (h : HT.sIx xs.length 0 lo = 0 ∧ HT.sIx xs.length xs.length hi = xs.length) : cutL xs lo hi = xs := by
  unfold cutL
  rw [h.1, h.2]
  simp
theorem sl_ok {Hf G : Hp} {σ : St} {H : Hp} {ρ : Rho} {x : V} {a d : D} {lo hi : Option Int} {Q : VK} (rr : RR C.F Hf G σ H ρ) (ra : RpT C.T Hf H a x) (e : slD a lo hi = some d) (q : ∀ v H' Hf', Same Hf Hf' → RR C.F Hf' G σ H' ρ → Rp C.T Hf' d v → Q v H') : rSl C.X.K x lo hi H Q := by
  unfold slD at e
  split at e
  · cases e
    obtain ⟨p, xs, e1, s1, r1⟩ := rpt_list ra
    exact .inl ⟨p, xs, e1, s1, new_lst rr (cut_rp r1) q⟩
  · cases e
    obtain ⟨p, xs, e1, s1, r1⟩ := rpt_tuple ra
    refine .inr (.inl ⟨p, xs, e1, Same.sqT rr.fz s1, fun hw => ?_, fun _ => new_tup rr (cut_rp r1) q⟩)
    rw [RpA.length r1] at hw
    rw [cut_whole hw] at q
    exact q _ H Hf (Same.refl _) rr (rp_tuple s1 r1)
  · split at e
    · cases e
      obtain ⟨e1, k⟩ := rpt_str ra
      exact .inr (.inr ⟨_, e1, by assumption, q _ H Hf (Same.refl _) rr (rp_str (strOk_cut k))⟩)
    · cases e
  · cases e
def slM (m : M D) (lo hi : M (Option Int)) : M D := bnd m fun x => bnd lo fun l => bnd hi fun h => opt (slD x l h)
def slN (i : Nat) (lo hi : M (Option Int)) : M D := bnd (pk i) fun _ => bnd lo fun l => bnd hi fun h => bnd (pk i) fun x => opt (slD x l h)
theorem de_sl {lo hi : Option Expr} {p2 : Pos} {ml mh : M (Option Int)} (ha : DE C a ma) (hl : DO C lo ml) (hh : DO C hi mh) : DE C (.Subscript a (.Slice lo hi none p2) pos) (slM ma ml mh) :=
  ⟨PE.imp (pe_slice sl_any ha.pe hl.po hh.po) fun σ H Q ⟨Hf, G, ρ, rr, h⟩ => post_bind rr h fun x d H1 Hf1 ρ1 s1 r1 rx p1 => post_bind r1 p1 fun l l' H2 Hf2 ρ2 s2 r2 e2 p2 => post_bind r2 p2 fun u u' H3 Hf3 ρ3 s3 r3 e3 p3 => by
    subst e2 e3
    obtain ⟨z, e, q⟩ := opt_post p3
    exact sl_ok r3 (Rp.top r3.fz (Rp.mono (s2.trans s3) _ _ rx)) e q, rfl⟩
theorem de_slN {x : Str} {p : Pos} {lo hi : Option Expr} {p2 : Pos} {ml mh : M (Option Int)} (S : Sc C n) (i : Nat) (hi' : i ∈ n.vs) (hx : n.N[i]? = some x) (hl : DO C lo ml) (hh : DO C hi mh) : DE C (.Subscript (.Name x p) (.Slice lo hi none p2) pos) (slN i ml mh) :=
  ⟨PE.imp (pe_slice sl_any (pv_ok S i hi' hx) hl.po hh.po) fun σ H Q ⟨Hf, G, ρ, rr, h⟩ => by
    obtain ⟨_, v, hv, _, h⟩ := pk_bind rr h
    refine ⟨v, hv, ?_⟩
    refine post_bind rr h fun l l' H2 Hf2 ρ2 s2 r2 e2 p2 => post_bind r2 p2 fun u u' H3 Hf3 ρ3 s3 r3 e3 p3 => ?_
    subst e2 e3
    obtain ⟨d, v', hv', ra, p4⟩ := pk_bind r3 p3
    rw [hv] at hv'; cases hv'
    obtain ⟨z, e, q⟩ := opt_post p4
    exact sl_ok r3 ra e q, rfl⟩
/-! ### built-ins of one argument -/
def F1 (C : DC) (f : Value) (g : D → Option D) : Prop :=
  ∃ r, CallR C.X f r ∧ ∀ (Hf G : Hp) (σ : St) (H : Hp) (ρ : Rho) (x : V) (a d : D) (Q : VK), RR C.F Hf G σ H ρ → RpT C.T Hf H a x → g a = some d →
    (∀ v H' Hf', Same Hf Hf' → RR C.F Hf' G σ H' ρ → Rp C.T Hf' d v → Q v H') → r [x] H Q
def c1 (g : D → Option D) (m : M D) : M D := bnd m fun x => opt (g x)
theorem lft_c1 {r : List V → Hp → VK → Prop} {g : D → Option D} (hr : ∀ (Hf G : Hp) (σ : St) (H : Hp) (ρ : Rho) (x : V) (a d : D) (Q : VK), RR C.F Hf G σ H ρ → RpT C.T Hf H a x → g a = some d →
    (∀ v H' Hf', Same Hf Hf' → RR C.F Hf' G σ H' ρ → Rp C.T Hf' d v → Q v H') → r [x] H Q) : ∀ σ H Q, Lft C (relE C.T) (c1 g ma) σ H Q → tCB r (tCons (Lft C (relK C.T) ma) tNil) σ H Q := fun σ H Q ⟨Hf, G, ρ, rr, h⟩ => post_bind rr h fun x d H1 Hf1 ρ1 s1 r1 rx p1 => by
  obtain ⟨z, e, q⟩ := opt_post p1
  exact hr Hf1 G σ H1 ρ1 x d z Q r1 rx e q
theorem de_b1 {x : Str} {id : String} {p : Pos} {g : D → Option D} (S : Sc C n) (j : Nat) (hj : n.bs[j]? = some x) (f : F1 C (.builtin id) g) (hv : bootBuiltins x = some (.builtin id)) (ha : DK C a ma) (hn : x ≠ "__name__") (hd : (x == ("__debug__" : Str)) = false) : DE C (.Call (.Name x p) [a] [] pos) (c1 g ma) :=
  let ⟨_, ho, hr⟩ := f; ⟨PE.imp (pe_callB ho (S.bl hj).1 (S.bl hj).2 hv (pa_cons ha.pe pa_nil (star_ok ha.ok _ _)) hn hd (star_ok ha.ok _ _) rfl) (lft_c1 hr), rfl⟩
theorem de_t1 {x : Str} {id : String} {p : Pos} {g : D → Option D} (S : Sc C n) (j : Nat) (hj : n.bs[j]? = some x) (f : F1 C (.type id) g) (hv : bootBuiltins x = some (.type id)) (ha : DK C a ma) (hn : x ≠ "__name__") (hd : (x == ("__debug__" : Str)) = false) : DE C (.Call (.Name x p) [a] [] pos) (c1 g ma) :=
  let ⟨_, ho, hr⟩ := f; ⟨PE.imp (pe_callTy ho (S.bl hj).1 (S.bl hj).2 hv (pa_cons ha.pe pa_nil (star_ok ha.ok _ _)) hn hd (star_ok ha.ok _ _) rfl) (lft_c1 hr), rfl⟩
def lenD : D → Option D
  | .list ds => some (.int ds.length)
  | .tuple ds => some (.int ds.length)
  | .str z => if z.length ≤ sizeLine then some (.int z.length) else none
  | _ => none
theorem f_len : F1 C (.builtin "len") lenD :=
  ⟨_, call_len_seq.or call_len_str, fun Hf G σ H ρ x a d Q rr ra e q => by
    unfold lenD at e
    split at e
    · cases e
      obtain ⟨p, xs, e1, s1, r1⟩ := rpt_list ra
      exact .inl ⟨p, xs, by rw [e1], .inl s1, by rw [RpA.length r1]; exact q _ H Hf (Same.refl _) rr (rp_int _)⟩
    · cases e
      obtain ⟨p, xs, e1, s1, r1⟩ := rpt_tuple ra
      exact .inl ⟨p, xs, by rw [e1], .inr (Same.sqT rr.fz s1), by rw [RpA.length r1]; exact q _ H Hf (Same.refl _) rr (rp_int _)⟩
    · split at e
      · cases e
        exact .inr ⟨_, by rw [(rpt_str ra).1], by assumption, q _ H Hf (Same.refl _) rr (rp_int _)⟩
      · cases e
    · cases e⟩
theorem ne_len : ("len" : Str) ≠ "__name__" := by decide
theorem de_len {p : Pos} (S : Sc C n) (j : Nat) (hj : n.bs[j]? = some ("len" : Str)) (ha : DK C a ma) : DE C (.Call (.Name "len" p) [a] [] pos) (c1 lenD ma) := de_b1 S j hj f_len PySem.boot_len ha (by decide) (by decide)
/-- all of a list of bools -/
def boolsD : List D → Option (List Bool)
  | [] => some []
  | .bool b :: ds => (boolsD ds).map (b :: ·)
  | _ => none
def intsD : List D → Option (List Int)
  | [] => some []
  | .int b :: ds => (intsD ds).map (b :: ·)
  | _ => none
theorem bools_rp {T : Wd} {H : Hp} : ∀ {ds : List D} {bs : List Bool} {vs : List V}, boolsD ds = some bs → RpA T H ds vs → vs = bs.map V.bl
  | [], _, _, e, r => by cases e; rw [RpA.unnil r]; rfl
  | .bool b :: ds, _, _, e, r => by
    obtain ⟨bs, h, rfl⟩ := Option.map_eq_some_iff.mp (show (boolsD ds).map (b :: ·) = some _ from e)
    obtain ⟨v, vs, e1, q, z⟩ := RpA.uncons r
    subst e1
    have : v = .bl b := by simpa only [Rp] using q
    rw [this, bools_rp h z]; rfl
  | .none :: _, _, _, e, _ => by cases e
  | .int _ :: _, _, _, e, _ => by cases e
  | .str _ :: _, _, _, e, _ => by cases e
  | .list _ :: _, _, _, e, _ => by cases e
  | .tuple _ :: _, _, _, e, _ => by cases e
  | .dict _ :: _, _, _, e, _ => by cases e
theorem ints_rp {T : Wd} {H : Hp} : ∀ {ds : List D} {bs : List Int} {vs : List V}, intsD ds = some bs → RpA T H ds vs → vs = bs.map V.int
  | [], _, _, e, r => by cases e; rw [RpA.unnil r]; rfl
  | .int b :: ds, _, _, e, r => by
    obtain ⟨bs, h, rfl⟩ := Option.map_eq_some_iff.mp (show (intsD ds).map (b :: ·) = some _ from e)
    obtain ⟨v, vs, e1, q, z⟩ := RpA.uncons r
    subst e1
    have : v = .int b := by simpa only [Rp] using q
    rw [this, ints_rp h z]; rfl
  | .none :: _, _, _, e, _ => by cases e
  | .bool _ :: _, _, _, e, _ => by cases e
  | .str _ :: _, _, _, e, _ => by cases e
  | .list _ :: _, _, _, e, _ => by cases e
  | .tuple _ :: _, _, _, e, _ => by cases e
  | .dict _ :: _, _, _, e, _ => by cases e
def allD : D → Option D
  | .list ds => (boolsD ds).map fun bs => .bool (bs.all id)
  | _ => none
def sumD : D → Option D
  | .list ds => (intsD ds).map fun bs => .int bs.sum
  | _ => none
theorem f_all (S : Sc C n) : F1 C (.builtin "all") allD :=
  ⟨_, cr_all S.calm, fun Hf G σ H ρ x a d Q rr ra e q => by
    unfold allD at e
    split at e
    · obtain ⟨bs, h, rfl⟩ := Option.map_eq_some_iff.mp e
      obtain ⟨p, xs, e1, s1, r1⟩ := rpt_list ra
      exact ⟨p, bs, by rw [e1], by rw [← bools_rp h r1]; exact s1, q _ H Hf (Same.refl _) rr (rp_bool _)⟩
    · cases e⟩
theorem de_all {p : Pos} (S : Sc C n) (j : Nat) (hj : n.bs[j]? = some ("all" : Str)) (ha : DK C a ma) : DE C (.Call (.Name "all" p) [a] [] pos) (c1 allD ma) := de_b1 S j hj (f_all S) (by decide +kernel) ha (by decide) (by decide)
theorem f_sum (S : Sc C n) : F1 C (.builtin "sum") sumD :=
  ⟨_, cr_sum S.calm, fun Hf G σ H ρ x a d Q rr ra e q => by
    unfold sumD at e
    split at e
    · obtain ⟨bs, h, rfl⟩ := Option.map_eq_some_iff.mp e
      obtain ⟨p, xs, e1, s1, r1⟩ := rpt_list ra
      exact ⟨p, bs, by rw [e1], by rw [← ints_rp h r1]; exact s1, q _ H Hf (Same.refl _) rr (rp_int _)⟩
    · cases e⟩
theorem de_sum {p : Pos} (S : Sc C n) (j : Nat) (hj : n.bs[j]? = some ("sum" : Str)) (ha : DK C a ma) : DE C (.Call (.Name "sum" p) [a] [] pos) (c1 sumD ma) := de_b1 S j hj (f_sum S) (by decide +kernel) ha (by decide) (by decide)
/-- list(x): a new list -/
def itemsD : D → Option (List D)
  | .list ds => some ds
  | .tuple ds => some ds
  | _ => none
def liM (m : M D) : M (List D) := bnd m fun x => opt (itemsD x)
theorem df_list {p : Pos} (S : Sc C n) (j : Nat) (hj : n.bs[j]? = some ("list" : Str)) (ha : DK C a ma) : DF C (.Call (.Name "list" p) [a] [] pos) (liM ma) :=
  ⟨PE.imp (pe_callTy call_list_of (S.bl hj).1 (S.bl hj).2 (by decide +kernel) (pa_cons ha.pe pa_nil (star_ok ha.ok _ _)) (by decide) (by decide) (star_ok ha.ok _ _) rfl) fun σ H Q ⟨Hf, G, ρ, rr, h⟩ => post_bind rr h fun x d H1 Hf1 ρ1 s1 r1 rx p1 => (by
    obtain ⟨z, e, q⟩ := opt_post p1
    unfold itemsD at e
    split at e
    · cases e
      obtain ⟨p, xs, e1, s1, ra⟩ := rpt_list rx
      exact ⟨p, xs, by rw [e1], .inl s1, new_own r1 ra q⟩
    · cases e
      obtain ⟨p, xs, e1, s1, ra⟩ := rpt_tuple rx
      exact ⟨p, xs, by rw [e1], .inr (Same.sqT r1.fz s1), new_own r1 ra q⟩
    · cases e), rfl⟩
def tupleD : D → Option D
  | .list ds => some (.tuple ds)
  | .tuple ds => some (.tuple ds)
  | _ => none
theorem f_tuple : F1 C (.type "tuple") tupleD :=
  ⟨_, call_tuple_of, fun Hf G σ H ρ x a d Q rr ra e q => by
    unfold tupleD at e
    split at e
    · cases e
      obtain ⟨p, xs, e1, s1, r1⟩ := rpt_list ra
      exact ⟨p, xs, by rw [e1], .inl ⟨s1, new_tup rr r1 q⟩⟩
    · cases e
      obtain ⟨p, xs, e1, s1, r1⟩ := rpt_tuple ra
      exact ⟨p, xs, by rw [e1], .inr ⟨Same.sqT rr.fz s1, by rw [e1] at *; exact q _ H Hf (Same.refl _) rr (rp_tuple s1 r1)⟩⟩
    · cases e⟩
theorem de_tuple {p : Pos} (S : Sc C n) (j : Nat) (hj : n.bs[j]? = some ("tuple" : Str)) (ha : DK C a ma) : DE C (.Call (.Name "tuple" p) [a] [] pos) (c1 tupleD ma) := de_t1 S j hj f_tuple (by decide +kernel) ha (by decide) (by decide)
end
end DS
namespace DS
open PySem L2
noncomputable section
variable {C : DC} {n : Nm} {pos : Pos} {a b c : Expr} {ma mb mc : M D}
/-! ### chains of two comparisons -/
def chM (g g' : D → D → Option D) (ma mb mc : M D) : M D := bnd ma fun x => bnd mb fun y => bnd (opt (g x y)) fun z => match z with
  | .bool k => if k = true then bnd mc fun w => opt (g' y w) else ret (.bool false)
  | _ => stop
theorem marks_ok {op op' : CmpOp} (hc : okE c = true) : lastMarks [op, op'] [b, c] = false := by
  show lastMarks [op'] [c] = false
  exact mark_ok hc
theorem lft_ch {g g' : D → D → Option D} {r r' : R2} (hr : ∀ (Hf G : Hp) (σ : St) (H : Hp) (ρ : Rho) (x y : V) (a b d : D) (Q : VK), RR C.F Hf G σ H ρ → RpT C.T Hf H a x → RpT C.T Hf H b y → g a b = some d →
      (∀ v H' Hf', Same Hf Hf' → RR C.F Hf' G σ H' ρ → Rp C.T Hf' d v → Q v H') → r x y H Q)
    (hr' : ∀ (Hf G : Hp) (σ : St) (H : Hp) (ρ : Rho) (x y : V) (a b d : D) (Q : VK), RR C.F Hf G σ H ρ → RpT C.T Hf H a x → RpT C.T Hf H b y → g' a b = some d →
      (∀ v H' Hf', Same Hf Hf' → RR C.F Hf' G σ H' ρ → Rp C.T Hf' d v → Q v H') → r' x y H Q) :
    ∀ σ H Q, Lft C (relE C.T) (chM g g' ma mb mc) σ H Q → tChain r r' (Lft C (relE C.T) ma) (Lft C (relE C.T) mb) (Lft C (relK C.T) mc) σ H Q := fun σ H Q ⟨Hf, G, ρ, rr, h⟩ => by
  refine post_bind rr h fun x a H1 Hf1 ρ1 s1 rr1 ra p1 => ?_
  refine post_bind rr1 p1 fun y b H2 Hf2 ρ2 s2 rr2 rb p2 => ?_
  cases e : g a b with
  | none => rw [e] at p2; exact p2.elim
  | some d =>
    rw [e] at p2
    have p2 : Post C (relE C.T) Hf2 G σ Q ((match d with
      | .bool k => if k = true then bnd mc fun w => opt (g' b w) else ret (.bool false)
      | _ => stop) ρ2) := p2
    refine hr Hf2 G σ H2 ρ2 x y a b d _ rr2 (Rp.top rr2.fz (Rp.mono s2 _ _ ra)) (Rp.top rr2.fz rb) e fun v H3 Hf3 s3 rr3 rv => ?_
    cases d with
    | bool k =>
      refine ⟨k, by simpa only [Rp] using rv, ?_⟩
      cases k with
      | true =>
        rw [if_pos rfl]
        have p2 : Post C (relE C.T) Hf2 G σ Q ((bnd mc fun w => opt (g' b w)) ρ2) := p2
        refine post_bind rr3 (p2.up s3) fun w d4 H4 Hf4 ρ4 s4 rr4 rw p4 => ?_
        obtain ⟨d', e', q⟩ := opt_post p4
        exact hr' Hf4 G σ H4 ρ4 y w b d4 d' Q rr4 (Rp.top rr4.fz (Rp.mono (s3.trans s4) _ _ rb)) rw e' q
      | false =>
        rw [if_neg Bool.false_ne_true]
        exact p2 (.bl false) H3 Hf3 s3 rr3 (rp_bool _)
    | none => exact p2.elim
    | int i => exact p2.elim
    | str x => exact p2.elim
    | list ds => exact p2.elim
    | tuple ds => exact p2.elim
    | dict kvs => exact p2.elim
theorem de_ch {op op' : CmpOp} {g g' : D → D → Option D} (o : OpD C (compareOp op) g) (o' : OpD C (compareOp op') g') (ha : DE C a ma) (hb : DE C b mb) (hc : DK C c mc) : DE C (.Compare a [op, op'] [b, c] pos) (chM g g' ma mb mc) :=
  let ⟨_, ho, hr⟩ := o; let ⟨_, ho', hr'⟩ := o'; ⟨PE.imp (pe_chain ho ho' ha.pe hb.pe hc.pe (marks_ok hc.ok)) (lft_ch hr hr'), rfl⟩
theorem dt_ch {op op' : CmpOp} {g g' : D → D → Option D} (o : OpD C (compareOp op) g) (o' : OpD C (compareOp op') g') (ha : DE C a ma) (hb : DE C b mb) (hc : DK C c mc) : DT C (.Compare a [op, op'] [b, c] pos) (asB (chM g g' ma mb mc)) :=
  let ⟨_, ho, hr⟩ := o; let ⟨_, ho', hr'⟩ := o'; ⟨PT.imp (pt_chain ho ho' ha.pe hb.pe hc.pe (marks_ok hc.ok)) (lft_asB (lft_ch hr hr'))⟩
/-! ### isinstance -/
inductive Ty where
  | int | bool | str | list | tuple
def Ty.nm : Ty → String
  | .int => "int" | .bool => "bool" | .str => "str" | .list => "list" | .tuple => "tuple"
def isiD (t : Ty) : D → Option D
  | .none => some (.bool false)
  | .bool _ => some (.bool (match t with | .int => true | .bool => true | _ => false))
  | .int _ => some (.bool (match t with | .int => true | _ => false))
  | .str _ => some (.bool (match t with | .str => true | _ => false))
  | .list _ => some (.bool (match t with | .list => true | _ => false))
  | .tuple _ => some (.bool (match t with | .tuple => true | _ => false))
  | .dict [] => some (.bool false)
  | .dict _ => none
theorem kit_dict (t : Ty) : kitB "dict" t.nm = some false := by cases t <;> decide +kernel
theorem kit_none (t : Ty) : kitB "NoneType" t.nm = some false := by cases t <;> decide +kernel
theorem kit_bool (t : Ty) : kitB "bool" t.nm = some (match t with | .int => true | .bool => true | _ => false) := by cases t <;> decide +kernel
theorem kit_int (t : Ty) : kitB "int" t.nm = some (match t with | .int => true | _ => false) := by cases t <;> decide +kernel
theorem kit_str (t : Ty) : kitB "str" t.nm = some (match t with | .str => true | _ => false) := by cases t <;> decide +kernel
theorem kit_list (t : Ty) : kitB "list" t.nm = some (match t with | .list => true | _ => false) := by cases t <;> decide +kernel
theorem kit_tuple (t : Ty) : kitB "tuple" t.nm = some (match t with | .tuple => true | _ => false) := by cases t <;> decide +kernel
theorem sqt_ty {K : PySem.W.Frag} {H : Hp} {p : Addr} {xs : List V} (h : SqT K H p xs) : TyX K H (.ref p) (.type "tuple") := by
  rcases h with (h | ⟨o, h⟩) | ⟨o, its, n, h, hc, _⟩
  · exact .base (.tup h)
  · exact .fTuple h
  · exact .kTuple h hc
theorem isi_ok {Hf G : Hp} {σ : St} {H : Hp} {ρ : Rho} {t : Ty} {x : V} {a d : D} {Q : VK} (rr : RR C.F Hf G σ H ρ) (ra : RpT C.T Hf H a x) (e : isiD t a = some d) (q : ∀ v H' Hf', Same Hf Hf' → RR C.F Hf' G σ H' ρ → Rp C.T Hf' d v → Q v H') : rIsi C.X.K [x, .ty t.nm] H Q := by
  cases a with
  | none => cases e; exact ⟨x, _, _, _, _, rfl, .ty _, by rw [rpt_none ra]; exact .base .non, kit_ty (kit_none t), q _ H Hf (Same.refl _) rr (rp_bool _)⟩
  | bool b => cases e; exact ⟨x, _, _, _, _, rfl, .ty _, by rw [rpt_bool ra]; exact .base (.bl b), kit_ty (kit_bool t), q _ H Hf (Same.refl _) rr (rp_bool _)⟩
  | int i => cases e; exact ⟨x, _, _, _, _, rfl, .ty _, by rw [rpt_int ra]; exact .base (.int i), kit_ty (kit_int t), q _ H Hf (Same.refl _) rr (rp_bool _)⟩
  | str z => cases e; exact ⟨x, _, _, _, _, rfl, .ty _, by rw [(rpt_str ra).1]; exact .base (.str z), kit_ty (kit_str t), q _ H Hf (Same.refl _) rr (rp_bool _)⟩
  | list ds =>
    cases e
    obtain ⟨p, xs, e1, s1, _⟩ := rpt_list ra
    refine ⟨x, _, _, _, _, rfl, .ty _, ?_, kit_ty (kit_list t), q _ H Hf (Same.refl _) rr (rp_bool _)⟩
    rw [e1]
    rcases s1 with (s1 | ⟨o, s1⟩) | ⟨o, its, m, s1, hc, _⟩
    · exact .base (.lst s1)
    · exact .base (.frz s1)
    · exact .kList s1 hc
  | tuple ds =>
    cases e
    obtain ⟨p, xs, e1, s1, _⟩ := rpt_tuple ra
    refine ⟨x, _, _, _, _, rfl, .ty _, ?_, kit_ty (kit_tuple t), q _ H Hf (Same.refl _) rr (rp_bool _)⟩
    rw [e1]
    exact sqt_ty (Same.sqT rr.fz s1)
  | dict kvs =>
    cases kvs with
    | cons p r => cases e
    | nil =>
      cases e
      have h : Rp C.T Hf (.dict []) x := ra
      unfold Rp at h
      obtain ⟨p, rfl, h⟩ := h
      rcases h with ⟨_, _, _, _, _, z, _⟩ | ⟨_, _, _, z, _⟩ | ⟨_, hH⟩ | ⟨_, _, _, z, _⟩
      · cases z
      · cases z
      · exact ⟨_, _, _, _, _, rfl, .ty _, .base (.dK (rr.fz _ _ hH)), kit_ty (kit_dict t), q _ H Hf (Same.refl _) rr (rp_bool _)⟩
      · cases z
theorem boot_ty (t : Ty) : bootBuiltins (Str.ofString t.nm) = some (.type t.nm) := by cases t <;> decide +kernel
theorem ne_ty (t : Ty) : (Str.ofString t.nm) ≠ "__name__" ∧ ((Str.ofString t.nm) == ("__debug__" : Str)) = false := by cases t <;> decide +kernel
theorem de_isi {x : Str} {p p' : Pos} (t : Ty) (S : Sc C n) (j k : Nat) (hj : n.bs[j]? = some ("isinstance" : Str)) (hk : n.bs[k]? = some x) (hx : x = Str.ofString t.nm) (ha : DK C a ma) : DE C (.Call (.Name "isinstance" p) [a, .Name x p'] [] pos) (c1 (isiD t) ma) := by
  subst hx
  refine ⟨PE.imp (pe_callB call_isi (S.bl hj).1 (S.bl hj).2 (by decide +kernel) (pa_cons ha.pe (pa_cons (pe_bltn (v := .ty t.nm) (S.bl hk).1 (S.bl hk).2 (boot_ty t) rfl (ne_ty t).1 (ne_ty t).2) pa_nil rfl) (star_ok ha.ok _ _)) (by decide) (by decide) (star_ok ha.ok _ _) rfl) fun σ H Q ⟨Hf, G, ρ, rr, h⟩ => ?_, rfl⟩
  refine post_bind rr h fun x d H1 Hf1 ρ1 s1 r1 rx p1 => ?_
  obtain ⟨z, e, q⟩ := opt_post p1
  exact isi_ok r1 rx e q
/-! ### min, max of two numbers -/
def max2D : D → D → Option D
  | .int i, .int j => some (.int (if j > i then j else i))
  | _, _ => none
def min2D : D → D → Option D
  | .int i, .int j => some (.int (if j < i then j else i))
  | _, _ => none
theorem de_max2 {p : Pos} (S : Sc C n) (j : Nat) (hj : n.bs[j]? = some ("max" : Str)) (ha : DE C a ma) (hb : DE C b mb) : DE C (.Call (.Name "max" p) [a, b] [] pos) (bin max2D ma mb) :=
  ⟨PE.imp (pe_callB (call_max2 S.calm) (S.bl hj).1 (S.bl hj).2 (by decide +kernel) (pa_cons ha.pe (pa_cons hb.pe pa_nil (star_ok hb.ok _ _)) (star_ok ha.ok _ _)) (by decide) (by decide) (star_ok ha.ok _ _) (by show ((backTo pos (starEach [b] C.X.env)).any (·.1)) = false; rw [star_ok hb.ok]; rfl)) fun σ H Q ⟨Hf, G, ρ, rr, h⟩ => post_bind rr h fun x d H1 Hf1 ρ1 s1 r1 rx p1 => post_bind r1 p1 fun y d2 H2 Hf2 ρ2 s2 r2 ry p2 => (by
    obtain ⟨z, e, q⟩ := opt_post p2
    unfold max2D at e
    split at e
    · rename_i i j
      cases e
      have e1 : x = .int i := by simpa only [Rp] using rx
      have e2 : y = .int j := by simpa only [Rp] using ry
      exact ⟨i, j, by rw [e1, e2], q _ H2 Hf2 (Same.refl _) r2 (rp_int _)⟩
    · cases e), rfl⟩
theorem de_min2 {p : Pos} (S : Sc C n) (j : Nat) (hj : n.bs[j]? = some ("min" : Str)) (ha : DE C a ma) (hb : DE C b mb) : DE C (.Call (.Name "min" p) [a, b] [] pos) (bin min2D ma mb) :=
  ⟨PE.imp (pe_callB (call_min2 S.calm) (S.bl hj).1 (S.bl hj).2 (by decide +kernel) (pa_cons ha.pe (pa_cons hb.pe pa_nil (star_ok hb.ok _ _)) (star_ok ha.ok _ _)) (by decide) (by decide) (star_ok ha.ok _ _) (by show ((backTo pos (starEach [b] C.X.env)).any (·.1)) = false; rw [star_ok hb.ok]; rfl)) fun σ H Q ⟨Hf, G, ρ, rr, h⟩ => post_bind rr h fun x d H1 Hf1 ρ1 s1 r1 rx p1 => post_bind r1 p1 fun y d2 H2 Hf2 ρ2 s2 r2 ry p2 => (by
    obtain ⟨z, e, q⟩ := opt_post p2
    unfold min2D at e
    split at e
    · rename_i i j
      cases e
      have e1 : x = .int i := by simpa only [Rp] using rx
      have e2 : y = .int j := by simpa only [Rp] using ry
      exact ⟨i, j, by rw [e1, e2], q _ H2 Hf2 (Same.refl _) r2 (rp_int _)⟩
    · cases e), rfl⟩
/-! ### what is walked -/
theorem PI.imp {X : Cx} {tg e : Expr} {t t' : TI} (h : PI X tg e t) (k : ∀ σ H Q, t' σ H Q → t σ H Q) : PI X tg e t' := ⟨fun pins s σ H Q I hw => h.run pins s σ H Q I (k _ _ _ hw)⟩
theorem it_at {T : Wd} {Hf : Hp} {J : It} {ds : List D} {xs : List V} {g : Hp → Prop} (w : Walk J xs.length g (YAt xs)) (hg : ∀ H, Same Hf H → g H) (ra : RpA T Hf ds xs) : ItOk T Hf J ds := by
  have hl := RpA.length ra
  refine ⟨fun i H s hi => w.goes i H (by omega) (hg H s), fun i H x H' d s e y => .inl ?_, fun H s => by rw [← hl]; exact w.stops H (hg H s)⟩
  have hi : i < xs.length := by rw [hl]; exact lt_of_get e
  obtain ⟨e1, e2⟩ := w.yields i H x H' hi (hg H s) y
  obtain ⟨v, hv, rv⟩ := RpA.get ra e
  rw [hv] at e2; cases e2
  exact ⟨e1, rv⟩
/-- a list, a tuple, a text: which one is told by the data -/
def signsD (z : Str) : List D := z.cps.toList.map fun c => .str ⟨#[c]⟩
def walkD : D → Option (List D)
  | .list ds => some ds
  | .tuple ds => some ds
  | .str z => some (signsD z)
  | _ => none
def itM (m : M D) : M (List D) := bnd m fun x => opt (walkD x)
def iSeq (K : PySem.W.Frag) (tl : TE) : TI := fun σ H R => tl σ H fun x H1 => (∃ a xs, x = .ref a ∧ SqL K H1 a xs ∧ R (Itl K a) H1) ∨ (∃ a xs, x = .ref a ∧ SqT K H1 a xs ∧ R (Itt K a) H1) ∨ ∃ z, x = .str z ∧ R (Its z) H1
theorem pi_seq {X : Cx} {tg l : Expr} {tl : TE} (hl : PE X l tl) : PI X tg l (iSeq X.K tl) := by
  refine ⟨fun pins s σ H R I h => ?_⟩
  refine thn (hl.run pins s σ H _ I h) fun v s1 ⟨x, H1, I1, r1, q⟩ => ?_
  rcases q with ⟨a, xs, e, hq, q⟩ | ⟨a, xs, e, hq, q⟩ | ⟨z, e, q⟩
  · subst e
    cases r1
    obtain ⟨its, rv, p, hz⟩ := I1.list hq
    refine wpAny_pyIter_list p.isList ?_
    refine ⟨s1.heap.objs.size, [s1.heap.objs.size], _, _, H1, rfl, I1.kept (t' := s1.toks) fun b o e => Heap.get?_push_of_some _ e, turn_list a _, ⟨_, Heap.get?_push_size _ rfl, rfl, rfl⟩, fun b hb => ?_, q⟩
    have e : b = s1.heap.objs.size := by simpa using hb
    subst e
    exact I1.fpOk (Nat.le_refl _) (I1.hok.fresh (Nat.le_refl _))
  · subst e
    cases r1
    obtain ⟨its, rv, p, hz⟩ := I1.tuple hq
    refine wpAny_pyIter_tuple (show s1.heap.IsTuple a its.toArray from p) ?_
    refine ⟨s1.heap.objs.size, [s1.heap.objs.size], _, _, H1, rfl, I1.kept (t' := s1.toks) fun b o e => Heap.get?_push_of_some _ e, turn_tuple a _, ⟨_, Heap.get?_push_size _ rfl, rfl, rfl⟩, fun b hb => ?_, q⟩
    have e : b = s1.heap.objs.size := by simpa using hb
    subst e
    exact I1.fpOk (Nat.le_refl _) (I1.hok.fresh (Nat.le_refl _))
  · subst e
    obtain ⟨t, rfl⟩ := r1
    cases ha : z.cps.all (· < 128)
    · exact wpAny_pyIter_wide ha (pi_one (tk := s1.toks) I1 _ (turn_str _ z t "str_iterator" (.inr rfl)) ⟨_, Heap.get?_push_size _ rfl, rfl, rfl⟩ q)
    · exact wpAny_pyIter_ascii ha (pi_one (tk := s1.toks) I1 _ (turn_str _ z t "str_ascii_iterator" (.inl rfl)) ⟨_, Heap.get?_push_size _ rfl, rfl, rfl⟩ q)
theorem it_str {T : Wd} {Hf : Hp} {z : Str} (h : PyData.strOk z = true) : ItOk T Hf (Its z) (signsD z) := by
  have hl : (signsD z).length = z.cps.size := by simp [signsD]
  refine ⟨fun i H s hi => by rw [hl] at hi; exact walk_str.goes i H hi trivial, fun i H x H' d s e y => .inl ?_, fun H s => by rw [hl]; exact walk_str.stops H trivial⟩
  have hi : i < z.cps.size := by rw [← hl]; exact lt_of_get e
  obtain ⟨e1, c, hc, hx⟩ := walk_str.yields i H x H' hi trivial y
  have : d = .str ⟨#[c]⟩ := by
    have hc' : z.cps.toList[i]? = some c := by rw [Array.getElem?_toList]; exact hc
    simp only [signsD, List.getElem?_map, hc', Option.map_some, Option.some.injEq] at e
    exact e.symm
  subst this hx
  refine ⟨e1, rp_str (strOk_one h ?_)⟩
  exact List.mem_of_getElem? (by rw [Array.getElem?_toList]; exact hc)
theorem di_seq {tg : Expr} (h : DE C a ma) : DI C tg a (itM ma) :=
  ⟨PI.imp (pi_seq h.pe) fun σ H R ⟨Hf, G, ρ, rr, h⟩ => post_bind rr h fun x d H1 Hf1 ρ1 s1 r1 rx p1 => (by
    obtain ⟨z, e, q⟩ := opt_post p1
    unfold walkD at e
    split at e
    · cases e
      simp only [Rp] at rx
      obtain ⟨p, xs, e1, s1, ra⟩ := rx
      refine .inl ⟨p, xs, e1, (r1.fz.seq s1), q _ H1 Hf1 (Same.refl _) r1 (it_at walk_list (fun H s => s.seq s1) ra)⟩
    · cases e
      simp only [Rp] at rx
      obtain ⟨p, xs, e1, s1, ra⟩ := rx
      refine .inr (.inl ⟨p, xs, e1, Same.sqT r1.fz s1, q _ H1 Hf1 (Same.refl _) r1 (it_at walk_tup (fun H s => Same.sqT s s1) ra)⟩)
    · cases e
      simp only [Rp] at rx
      exact .inr (.inr ⟨_, rx.1, q _ H1 Hf1 (Same.refl _) r1 (it_str rx.2)⟩)
    · cases e), h.ok⟩
/-! ### ranges -/
def rgD (lo : Int) (k : Nat) (c : Int) : List D := (List.range k).map fun (i : Nat) => .int (lo + (i : Int) * c)
theorem rg_get {lo c : Int} {k i : Nat} {d : D} (h : (rgD lo k c)[i]? = some d) : i < k ∧ d = .int (lo + (i : Int) * c) := by
  have hi : i < k := by simpa [rgD] using lt_of_get h
  refine ⟨hi, ?_⟩
  simp only [rgD, List.getElem?_map, List.getElem?_range hi, Option.map_some, Option.some.injEq] at h
  exact h.symm
theorem it_fn {T : Wd} {Hf : Hp} {J : It} {lo c : Int} {k : Nat} (w : Walk J k (fun _ => True) (YFn fun i => .int (lo + (i : Nat) * c))) : ItOk T Hf J (rgD lo k c) := by
  have hl : (rgD lo k c).length = k := by simp [rgD]
  refine ⟨fun i H s hi => w.goes i H (by omega) trivial, fun i H x H' d s e y => .inl ?_, fun H s => by rw [hl]; exact w.stops H trivial⟩
  obtain ⟨hi, rfl⟩ := rg_get e
  obtain ⟨e1, e2⟩ := w.yields i H x H' hi trivial y
  subst e2
  exact ⟨e1, rp_int _⟩
theorem walk_range1 {lo : Int} {k : Nat} : Walk (Itr lo k) k (fun _ => True) (YFn fun i => .int (lo + (i : Nat) * 1)) :=
  walk_range.mono (fun _ h => h) fun i H x H' _ _ ⟨e, y⟩ => ⟨e, by rw [y]; show V.int _ = V.int _; rw [Int.mul_one]⟩
def inR (i : Int) : Bool := big (-(2 ^ 62) ≤ i ∧ i < 2 ^ 62)
def rg1 (m : M D) : M (List D) := bnd m fun x => match x with
  | .int j => if inR j then ret (rgD 0 j.toNat 1) else stop
  | _ => stop
def rg2 (ma mb : M D) : M (List D) := bnd ma fun x => bnd mb fun y => match x, y with
  | .int i, .int j => if inR i && inR j then ret (rgD i (j - i).toNat 1) else stop
  | _, _ => stop
theorem inR_ok {i : Int} (h : inR i = true) : -(2 ^ 62) ≤ i ∧ i < 2 ^ 62 := by
  exact of_big h
theorem di_rg1 {tg : Expr} {p : Pos} (S : Sc C n) (j : Nat) (hj : n.bs[j]? = some ("range" : Str)) (ha : DE C a ma) : DI C tg (.Call (.Name "range" p) [a] [] pos) (rg1 ma) :=
  ⟨PI.imp (pi_range1 (S.bl hj).1 (S.bl hj).2 (pa_cons ha.pe pa_nil (star_ok ha.ok _ _)) (by rw [star_ok ha.ok]; rfl)) fun σ H R ⟨Hf, G, ρ, rr, h⟩ => post_bind rr h fun x d H1 Hf1 ρ1 s1 r1 rx p1 => (by
    split at p1
    · rename_i j
      split at p1
      · rename_i hr
        have e1 : x = .int j := by simpa only [Rp] using rx
        exact ⟨j, by rw [e1], (inR_ok hr).1, (inR_ok hr).2, p1 _ H1 Hf1 (Same.refl _) r1 (it_fn walk_range1)⟩
      · exact p1.elim
    · exact p1.elim), rfl⟩
theorem di_rg2 {tg : Expr} {p : Pos} (S : Sc C n) (j : Nat) (hj : n.bs[j]? = some ("range" : Str)) (ha : DE C a ma) (hb : DE C b mb) : DI C tg (.Call (.Name "range" p) [a, b] [] pos) (rg2 ma mb) :=
  ⟨PI.imp (pi_range2 (S.bl hj).1 (S.bl hj).2 (pa_cons ha.pe (pa_cons hb.pe pa_nil (star_ok hb.ok _ _)) (star_ok ha.ok _ _)) (by rw [star_ok ha.ok, star_ok hb.ok]; rfl) (by rw [star_ok hb.ok]; rfl)) fun σ H R ⟨Hf, G, ρ, rr, h⟩ => post_bind rr h fun x d H1 Hf1 ρ1 s1 r1 rx p1 => post_bind r1 p1 fun y d2 H2 Hf2 ρ2 s2 r2 ry p2 => (by
    split at p2
    · rename_i i j
      split at p2
      · rename_i hr
        rw [Bool.and_eq_true] at hr
        have e1 : x = .int i := by simpa only [Rp] using rx
        have e2 : y = .int j := by simpa only [Rp] using ry
        exact ⟨i, j, by rw [e1, e2], ⟨(inR_ok hr.1).1, (inR_ok hr.1).2, (inR_ok hr.2).1, (inR_ok hr.2).2⟩, p2 _ H2 Hf2 (Same.refl _) r2 (it_fn walk_range1)⟩
      · exact p2.elim
    · exact p2.elim), rfl⟩
/-! ### enumerate -/
def enD (ds : List D) : List D := ds.zipIdx.map fun p => .tuple [.int (p.2 : Nat), p.1]
theorem en_get {ds : List D} {i : Nat} {d : D} (h : (enD ds)[i]? = some d) : ∃ x, ds[i]? = some x ∧ d = .tuple [.int (i : Nat), x] := by
  simp only [enD, List.getElem?_map, List.getElem?_zipIdx, Option.map_map] at h
  obtain ⟨x, e, h⟩ := Option.map_eq_some_iff.mp h
  exact ⟨x, e, by rw [← h]; simp⟩
theorem it_pair {T : Wd} {Hf : Hp} {J : It} {ds : List D} {k : Nat} {g : Hp → Prop} {xs ys : Nat → Option V} (w : Walk J k g (YPair xs ys)) (hg : ∀ H, Same Hf H → g H) (hl : ds.length = k)
    (hd : ∀ (i : Nat) d, ds[i]? = some d → ∃ a b, d = .tuple [a, b] ∧ ∀ x y, xs i = some x → ys i = some y → Rp T Hf a x ∧ Rp T Hf b y) : ItOk T Hf J ds := by
  refine ⟨fun i H s hi => w.goes i H (by omega) (hg H s), fun i H x H' d s e y => .inr ?_, fun H s => by rw [hl]; exact w.stops H (hg H s)⟩
  have hi : i < k := by rw [← hl]; exact lt_of_get e
  obtain ⟨p, u, v, e1, hp, e2, hx, hy⟩ := w.yields i H x H' hi (hg H s) y
  obtain ⟨a, b, rfl, hr⟩ := hd i d e
  obtain ⟨ra, rb⟩ := hr u v hx hy
  subst e1 e2
  have hn : Hf p = none := s.free hp
  exact ⟨p, _, hp, rfl, rp_tuple (SqT.of upd_same) (RpA.cons (Rp.mono (Same.updN hn) _ _ ra) (RpA.cons (Rp.mono (Same.updN hn) _ _ rb) RpA.nil))⟩
def enM (m : M D) : M (List D) := bnd m fun x => match x with
  | .list ds => ret (enD ds)
  | _ => stop
theorem di_enum {elts : List Expr} {kk : Nat} {tpos p : Pos} (S : Sc C n) (j : Nat) (hj : n.bs[j]? = some ("enumerate" : Str)) (ha : DE C a ma) : DI C (.Tuple elts kk tpos) (.Call (.Name "enumerate" p) [a] [] pos) (enM ma) :=
  ⟨PI.imp (pi_enum (S.bl hj).1 (S.bl hj).2 (pa_cons ha.pe pa_nil (star_ok ha.ok _ _)) (by rw [star_ok ha.ok]; rfl)) fun σ H R ⟨Hf, G, ρ, rr, h⟩ => post_bind rr h fun x d H1 Hf1 ρ1 s1 r1 rx p1 => (by
    split at p1
    · rename_i ds
      simp only [Rp] at rx
      obtain ⟨q, xs, e1, s1, ra⟩ := rx
      subst e1
      refine ⟨q, xs, rfl, (r1.fz.seq s1), p1 _ H1 Hf1 (Same.refl _) r1 (it_pair walk_enum (fun H s => s.seq s1) (by simp [enD, RpA.length ra]) fun i d e => ?_)⟩
      obtain ⟨y, e2, rfl⟩ := en_get e
      obtain ⟨v, hv, rv⟩ := RpA.get ra e2
      refine ⟨_, _, rfl, fun x z hx hz => ?_⟩
      cases hx
      rw [hv] at hz; cases hz
      exact ⟨rp_int _, rv⟩
    · exact p1.elim), rfl⟩
end
end DS
namespace DS
open PySem L2
/-! ### comprehensions -/
def wpR (ρ : Rho) : List Nat → Rho
  | [] => ρ
  | v :: vs => (wpR ρ vs).set v .un
theorem RR.wipe {F : Fx} {Hf G H : Hp} {σ : St} {ρ : Rho} (R : RR F Hf G σ H ρ) : ∀ {vs : List Nat}, (∀ i ∈ vs, i ∉ F.mp) → RR F Hf G (wipe σ vs) H (wpR ρ vs)
  | [], _ => R
  | v :: vs, h => (RR.wipe R fun i hi => h i (List.mem_cons_of_mem _ hi)).drop (h v List.mem_cons_self) none
theorem wipe_get {σ : St} {i : Nat} : ∀ {vs : List Nat}, i ∉ vs → (wipe σ vs)[i]? = σ[i]?
  | [], _ => rfl
  | v :: vs, h => by
    rw [List.mem_cons, not_or] at h
    unfold wipe
    rw [List.getElem?_set_ne (Ne.symm h.1), wipe_get h.2]
theorem wpR_un {ρ : Rho} {i : Nat} {x : Sl} : ∀ {vs : List Nat}, i ∈ vs → (wpR ρ vs)[i]? = some x → x = .un
  | v :: vs, h, e => by
    unfold wpR at e
    rcases get_set_cases e with ⟨_, z, _⟩ | ⟨hv, e⟩
    · exact z
    · rcases List.mem_cons.mp h with z | z
      · exact absurd z hv
      · exact wpR_un z e
/-- slots that are forgotten may hold anything -/
theorem RR.unwipe {F : Fx} {Hf G H : Hp} {σ σ' : St} {ρ : Rho} {vs : List Nat} (R : RR F Hf G σ H ρ) (hm : ∀ i ∈ vs, i ∉ F.mp) (hu : ∀ (i : Nat) x, i ∈ vs → ρ[i]? = some x → x = .un) (hl : σ'.length = σ.length) (hs : ∀ i, i ∉ vs → σ'[i]? = σ[i]?) : RR F Hf G σ' H ρ := by
  refine ⟨R.fz, R.fg, R.dj, R.len.trans hl.symm, fun i x e => ?_, fun i j x y p hij ex ey ox oy hx hy => ?_, fun i hi => ?_, R.tb⟩
  · by_cases hv : i ∈ vs
    · rw [hu i x hv e]; trivial
    · rw [hs i hv]; exact R.sl i x e
  · have h1 : i ∉ vs := fun z => by rw [hu i x z ex] at ox; cases ox
    have h2 : j ∉ vs := fun z => by rw [hu j y z ey] at oy; cases oy
    rw [hs i h1] at hx
    rw [hs j h2] at hy
    exact R.ds i j x y p hij ex ey ox oy hx hy
  · have h1 : i ∉ vs := fun z => hm i z hi
    rw [hs i h1]; exact R.kp i hi
theorem wipe_ag {σ σ' : St} {ws vs : List Nat} (h : Ag ws σ σ') (hs : ∀ i ∈ ws, i ∈ vs) : wipe σ' vs = wipe σ vs := by
  have hl : ∀ (τ : St) (us : List Nat), (wipe τ us).length = τ.length := fun τ us => wipe_length τ us
  apply List.ext_getElem?
  intro i
  by_cases hi : i ∈ vs
  · have key : ∀ (τ : St) (us : List Nat), i ∈ us → (wipe τ us)[i]? = if i < τ.length then some none else none := by
      intro τ us
      induction us with
      | nil => intro h; cases h
      | cons v us ih =>
        intro h
        unfold wipe
        by_cases hv : v = i
        · subst hv
          by_cases hlt : v < τ.length
          · rw [List.getElem?_set_self (by rw [hl]; exact hlt), if_pos hlt]
          · rw [if_neg hlt, List.getElem?_eq_none (by rw [List.length_set, hl]; omega)]
        · rw [List.getElem?_set_ne hv]
          rcases List.mem_cons.mp h with z | z
          · exact absurd z.symm hv
          · exact ih z
    rw [key _ _ hi, key _ _ hi, h.1]
  · rw [wipe_get hi, wipe_get hi]
    exact h.2 i fun z => hi (hs i z)
/-- the owned list beside: kept while the rest runs -/
theorem RR.aside {F : Fx} {Hf G H : Hp} {σ : St} {ρ : Rho} {p : Addr} {o : HO} (R : RR F Hf G σ H ρ) (f : Fresh Hf G σ ρ p) (h : H p = some o) (no : ∀ ps, o ≠ .tbl ps := by intro ps z; cases z) : RR F Hf (upd G p o) σ H ρ := by
  refine ⟨R.fz, fun b u e => ?_, fun b u e => ?_, R.len, fun i x e => ?_, R.ds, R.kp, R.tb.gup (R.tb.ne h no)⟩
  · by_cases hb : b = p
    · subst hb; rw [upd_same] at e; rw [h]; exact e
    · rw [upd_ne hb] at e; exact R.fg b u e
  · by_cases hb : b = p
    · subst hb; exact f.1
    · rw [upd_ne hb] at e; exact R.dj b u e
  · have hs := R.sl i x e
    have hne : ∀ q, owns x = true → σ[i]? = some (some (.ref q)) → upd G p o q = G q := fun q ho hq => by
      rw [upd_ne]
      intro z
      subst z
      exact f.2.2 i x e ho hq
    cases x with
    | un => trivial
    | im d => exact hs
    | ml ds => obtain ⟨q, vs, a, b, c, d, r⟩ := hs; exact ⟨q, vs, a, b, by rw [hne q rfl a]; exact c, d, r⟩
    | md kvs => obtain ⟨q, a, b, c, d⟩ := hs; exact ⟨q, a, b, by rw [hne q rfl a]; exact c, d⟩
    | mi c fs => obtain ⟨q, C, dx, vs, a, b, c1, d⟩ := hs; exact ⟨q, C, dx, vs, a, b, by rw [hne q rfl a]; exact c1, d⟩
/-- .. back again, changed -/
theorem RR.back {F : Fx} {Hf G H : Hp} {σ : St} {ρ : Rho} {p : Addr} {o o' : HO} (R : RR F Hf (upd G p o) σ H ρ) (g : G p = none) : RR F Hf G σ (upd H p o') ρ ∧ Fresh Hf G σ ρ p := by
  have hf : Hf p = none := R.dj p o upd_same
  have hno : ∀ (i : Nat) x, ρ[i]? = some x → owns x = true → σ[i]? ≠ some (some (.ref p)) := fun i x e ho hq => by
    have := (R.own e ho hq).2.1
    rw [upd_same] at this; cases this
  have kH : ∀ b v, b ≠ p → H b = some v → upd H p o' b = some v := fun b v hb q => by rw [upd_ne hb]; exact q
  refine ⟨⟨fun b u e => kH b u (fun z => by subst z; rw [hf] at e; cases e) (R.fz b u e), fun b u e => ?_, fun b u e => ?_, R.len, fun i x e => ?_, R.ds, R.kp, R.tb.gdn.1.hup R.tb.gdn.2⟩, hf, g, hno⟩
  · have hb : b ≠ p := fun z => by subst z; rw [g] at e; cases e
    exact kH b u hb (R.fg b u (by rw [upd_ne hb]; exact e))
  · have hb : b ≠ p := fun z => by subst z; rw [g] at e; cases e
    exact R.dj b u (by rw [upd_ne hb]; exact e)
  · have hs := R.sl i x e
    have hne : ∀ q, owns x = true → σ[i]? = some (some (.ref q)) → q ≠ p := fun q ho hq z => by
      subst z
      exact hno i x e ho hq
    cases x with
    | un => trivial
    | im d => exact hs
    | ml ds => obtain ⟨q, vs, a, b, c, d, r⟩ := hs; exact ⟨q, vs, a, b, by rw [upd_ne (hne q rfl a)] at c; exact c, kH _ _ (hne q rfl a) d, r⟩
    | md kvs => obtain ⟨q, a, b, c, d1, xs, ep, d, r⟩ := hs; exact ⟨q, a, b, by rw [upd_ne (hne q rfl a)] at c; exact c, d1, xs, ep, kH _ _ (hne q rfl a) d, r⟩
    | mi c fs => obtain ⟨q, C, dx, vs, a, b, c1, d, r⟩ := hs; exact ⟨q, C, dx, vs, a, b, by rw [upd_ne (hne q rfl a)] at c1; exact c1, kH _ _ (hne q rfl a) d, r⟩

/-- one turn after another; what is made so far in acc -/
def lcA (vs : List Nat) (f : D → M Unit) (t : M Bool) (el : M D) : List D → List D → M (List D)
  | acc, [] => fun ρ => .ok acc (wpR ρ vs)
  | acc, d :: ds => fun ρ => match f d (wpR ρ vs) with
    | .ok _ ρ1 => (match t ρ1 with
      | .ok true ρ2 => (match el ρ2 with
        | .ok y ρ3 => if acc.length < sizeLine then lcA vs f t el (acc ++ [y]) ds ρ3 else .no
        | _ => .no)
      | .ok false ρ2 => lcA vs f t el acc ds ρ2
      | _ => .no)
    | _ => .no
def lcM (vs : List Nat) (mi : M (List D)) (f : D → M Unit) (t : M Bool) (el : M D) : M (List D) := bnd mi (lcA vs f t el [])
structure DTs (C : DC) (es : List Expr) (m : M Bool) : Prop where
  pt : PTs C.X es (Lft C relB m)
theorem PTs.imp {X : Cx} {e : List Expr} {t t' : TT} (h : PTs X e t) (k : ∀ σ H Q, t' σ H Q → t σ H Q) : PTs X e t' := ⟨fun pins s σ H Q I hw => h.run pins s σ H Q I (k _ _ _ hw)⟩
theorem dts_nil {C : DC} : DTs C [] (ret true) := ⟨PTs.imp pts_nil fun σ H Q ⟨Hf, G, ρ, rr, h⟩ => h true H Hf (Same.refl _) rr rfl⟩
theorem dts_one {C : DC} {e : Expr} {m : M Bool} (h : DT C e m) : DTs C [e] m := ⟨pts_one h.pt⟩
/-- the context of a comprehension's block -/
def DC.blk (C : DC) (s : Shared) (H : Hp) (scope : Scope) (A : Addr) (cl : List (Str × Addr)) (fp : List Addr) : DC := ⟨C.X.blk s H scope (compEnvC scope cl A C.X.env) fp, fun _ _ _ _ => False, C.mp, C.s0, C.tb⟩
@[reducible] def Nm.sub (n : Nm) (vs ws : List Nat) (gs bs : List Str) : Nm := { n with vs := vs, ws := ws, gs := gs, bs := bs, ls := [], cs := [], top := false }
/-- the names of the block: its own, and those of the def that it reads -/
def blB (n : Nm) (sc scope : Scope) (own : List (Str × Nat)) (vs : List Nat) (gs bs : List Str) : Bool :=
  blkC n.N sc scope own && scB (n.sub vs (own.map (·.2)) gs bs) scope
/-- the scope of a context: as written, or a block's -/
def LkSc (C : DC) (sc : Scope) : Prop := C.X.env.scope = sc ∨ ∃ env, C.X.env.scope = PySem.relabel sc env
theorem lookup_map {α β : Type} (g : Str → α → β) (x : Str) : ∀ l : List (Str × α), (l.map fun (p : Str × α) => (p.1, g p.1 p.2)).lookup x = (l.lookup x).map (g x)
  | [] => rfl
  | (y, k) :: l => by
    rw [List.map_cons, List.lookup_cons, List.lookup_cons]
    by_cases h : x = y
    · subst h; simp
    · have : (x == y) = false := beq_eq_false_iff_ne.mpr h
      simp only [this]
      exact lookup_map g x l
theorem relabel_look (scope : Scope) (env : Env) (x : Str) : (PySem.relabel scope env).names.lookup x = (scope.names.lookup x).map fun k => if (k == .free && env.scope.kind == .function && env.kindOf x == some .cell) then .cell else k := by
  have h := lookup_map (fun (n : Str) (k : NameKind) => if (k == .free && env.scope.kind == .function && env.kindOf n == some .cell) then NameKind.cell else k) x scope.names
  rw [← h]
  show List.lookup x (scope.names.map _) = _
  congr 1
  apply List.map_congr_left
  intro p _
  obtain ⟨a, k⟩ := p
  show (if _ then (a, NameKind.cell) else (a, k)) = (a, if _ then NameKind.cell else k)
  split <;> rfl
theorem lk_local {scope : Scope} {env : Env} {x : Str} (h : scope.names.lookup x = some .local) : (PySem.relabel scope env).names.lookup x = some .local := by rw [relabel_look, h]; rfl
theorem lk_cell {scope : Scope} {env : Env} {x : Str} (h : scope.names.lookup x = some .cell) : (PySem.relabel scope env).names.lookup x = some .cell := by rw [relabel_look, h]; rfl
theorem lk_glob {scope : Scope} {env : Env} {x : Str} (h : scope.names.lookup x = some .globalImplicit) : (PySem.relabel scope env).names.lookup x = some .globalImplicit := by rw [relabel_look, h]; rfl
theorem lk_free {scope : Scope} {env : Env} {x : Str} (h : scope.names.lookup x = some .free) : (PySem.relabel scope env).names.lookup x = some .cell ∨ (PySem.relabel scope env).names.lookup x = some .free := by
  rw [relabel_look, h]
  simp only [Option.map_some]
  split
  · exact .inl rfl
  · exact .inr rfl
theorem beq_kind (k : NameKind) : (some k == some k) = true := by cases k <;> rfl
theorem scB_rel {n : Nm} {scope : Scope} {env : Env} (h : scB n scope = true) : scB n (PySem.relabel scope env) = true := by
  unfold scB at h ⊢
  simp only [Bool.and_eq_true] at h ⊢
  refine ⟨List.all_eq_true.mpr fun i hi => ?_, List.all_eq_true.mpr fun i hi => ?_, ⟨List.all_eq_true.mpr fun x hx => ?_, h.2.2.1.2⟩, List.all_eq_true.mpr fun i hi => ?_, List.all_eq_true.mpr fun i hi => ?_⟩
  · have q := List.all_eq_true.mp h.1 i hi
    cases e : n.N[i]? with
    | none => rw [e] at q; cases q
    | some x =>
      rw [e] at q
      simp only [visB, Bool.and_eq_true, Bool.or_eq_true] at q ⊢
      refine ⟨?_, q.2⟩
      rcases q.1 with (z | z) | z
      · rw [lk_local (eq_of_beq_kind z)]; exact .inl (.inl (beq_kind _))
      · rw [lk_cell (eq_of_beq_kind z)]; exact .inl (.inr (beq_kind _))
      · rcases lk_free (env := env) (eq_of_beq_kind z) with y | y
        · rw [y]; exact .inl (.inr (beq_kind _))
        · rw [y]; exact .inr (beq_kind _)
  · have q := List.all_eq_true.mp h.2.1 i hi
    cases e : n.N[i]? with
    | none => rw [e] at q; cases q
    | some x =>
      rw [e] at q
      simp only [locB, Bool.and_eq_true, Bool.or_eq_true] at q ⊢
      refine ⟨?_, q.2⟩
      rcases q.1 with z | z
      · rw [lk_local (eq_of_beq_kind z)]; exact .inl (beq_kind _)
      · rw [lk_cell (eq_of_beq_kind z)]; exact .inr (beq_kind _)
  · have q := List.all_eq_true.mp h.2.2.1.1 x hx
    simp only [glB, Bool.and_eq_true] at q ⊢
    refine ⟨?_, q.2⟩
    rw [lk_glob (eq_of_beq_kind q.1)]; exact beq_kind _
  · have q := List.all_eq_true.mp h.2.2.2.1 i hi
    cases e : n.N[i]? with
    | none => rw [e] at q; cases q
    | some x =>
      rw [e] at q
      show ((PySem.relabel scope env).names.lookup x == some NameKind.local) = true
      rw [lk_local (eq_of_beq_kind q)]; exact beq_kind _
  · have q := List.all_eq_true.mp h.2.2.2.2 i hi
    cases e : n.N[i]? with
    | none => rw [e] at q; cases q
    | some x =>
      rw [e] at q
      show ((PySem.relabel scope env).names.lookup x == some NameKind.cell) = true
      rw [lk_cell (eq_of_beq_kind q)]; exact beq_kind _
theorem blkC_rel {N : List Str} {sc scope : Scope} {own : List (Str × Nat)} {env : Env} (h : blkC N sc scope own = true) : blkC N (PySem.relabel sc env) scope own = true := by
  unfold blkC at h ⊢
  simp only [Bool.and_eq_true] at h ⊢
  refine ⟨h.1, List.all_eq_true.mpr fun y hy => ?_⟩
  have q := List.all_eq_true.mp h.2 y hy
  obtain ⟨a, k⟩ := y
  cases k with
  | free =>
    simp only at q ⊢
    cases e : sc.names.lookup a with
    | none => rw [e] at q; cases q
    | some z =>
      rw [e] at q
      cases z with
      | cell => rw [lk_cell e]
      | free => rcases lk_free (env := env) e with y | y <;> rw [y]
      | _ => cases q
  | _ => exact q
theorem LkSc.blkC {C : DC} {sc scope : Scope} {N : List Str} {own : List (Str × Nat)} (l : LkSc C sc) (h : blkC N sc scope own = true) : blkC N C.X.env.scope scope own = true := by
  rcases l with l | ⟨env, l⟩
  · rw [l]; exact h
  · rw [l]; exact blkC_rel h
theorem Sc.blk {C : DC} {n : Nm} {sc scope : Scope} {own : List (Str × Nat)} {vs : List Nat} {gs bs : List Str} (S : Sc C n) (h : blB n sc scope own vs gs bs = true) (s : Shared) (H : Hp) (A : Addr) (cl : List (Str × Addr)) (fp : List Addr) : Sc (C.blk s H scope A cl fp) (n.sub vs (own.map (·.2)) gs bs) := by
  unfold blB at h
  rw [Bool.and_eq_true] at h
  obtain ⟨h0, h2⟩ := h
  refine ⟨S.hN, S.nd, scB_rel h2, (blkOk_by h0).kind, S.calm, fun i hi x hx hc => ?_, S.mpe, PassesOwn.never, S.room, S.bno, S.fs, takes_none5, fun z => Bool.noConfusion z⟩
  unfold scB at h2
  simp only [Bool.and_eq_true] at h2
  have q := List.all_eq_true.mp h2.2.1 i hi
  have hx' : n.N[i]? = some x := hx
  rw [show (n.sub vs (own.map (·.2)) gs bs).N[i]? = some x from hx'] at q
  simp only [locB, Bool.and_eq_true, Bool.or_eq_true] at q
  rcases q.1 with z | z
  · have : (PySem.relabel scope C.X.env).names.lookup x = some .cell := hc
    rw [lk_local (eq_of_beq_kind z)] at this
    cases this
  · exact z
theorem LkSc.blk {C : DC} {scope : Scope} (s : Shared) (H : Hp) (A : Addr) (cl : List (Str × Addr)) (fp : List Addr) : LkSc (C.blk s H scope A cl fp) scope := .inr ⟨C.X.env, rfl⟩
theorem wpR_get {ρ : Rho} {i : Nat} {x : Sl} : ∀ {vs : List Nat}, (wpR ρ vs)[i]? = some x → x ≠ .un → ρ[i]? = some x ∧ i ∉ vs
  | [], h, _ => ⟨h, by simp⟩
  | v :: vs, h, hu => by
    unfold wpR at h
    rcases get_set_cases h with ⟨_, z, _⟩ | ⟨hv, e⟩
    · exact absurd z hu
    · obtain ⟨h1, h2⟩ := wpR_get e hu
      exact ⟨h1, by simp only [List.mem_cons, not_or]; exact ⟨hv, h2⟩⟩
theorem owns_un {x : Sl} (h : owns x = true) : x ≠ .un := fun z => by subst z; cases h
theorem RR.wiped {F : Fx} {Hf G H : Hp} {σ σ' : St} {ρ : Rho} {us : List Nat} (R : RR F Hf G σ H ρ) (hm : ∀ i ∈ us, i ∉ F.mp) (e : L2.wipe σ us = L2.wipe σ' us) : RR F Hf G σ' H (wpR ρ us) := by
  refine (R.wipe hm).unwipe (σ' := σ') hm (fun i x hi hx => wpR_un hi hx) ?_ fun i hi => ?_
  · have := congrArg List.length e
    rw [wipe_length, wipe_length] at this
    rw [wipe_length]; exact this.symm
  · rw [e, wipe_get hi]
theorem Fresh.wiped {Hf G : Hp} {σ σ' : St} {ρ : Rho} {p : Addr} {us : List Nat} (f : Fresh Hf G σ ρ p) (e : wipe σ us = wipe σ' us) : Fresh Hf G σ' (wpR ρ us) p := ⟨f.1, f.2.1, fun i x hx ho => by
  obtain ⟨h1, h2⟩ := wpR_get hx (owns_un ho)
  have : σ'[i]? = σ[i]? := by rw [← wipe_get (σ := σ') h2, ← e, wipe_get h2]
  rw [this]
  exact f.2.2 i x h1 ho⟩
theorem wipe_wipe {σ : St} {us : List Nat} : wipe (wipe σ us) us = wipe σ us := wipe_ag (ws := us) ⟨wipe_length _ _, fun i hi => wipe_get hi⟩ fun _ h => h
@[reducible] def DC.blk1 (C : DC) : DC := ⟨C.X, fun _ _ _ _ => False, C.mp, C.s0, C.tb⟩
theorem lc_read {C : DC} {us ws : List Nat} {mi : M (List D)} {f : D → M Unit} {t : M Bool} {el : M D} (hmp : ∀ i ∈ us, i ∉ C.F.mp) (hws : ∀ i ∈ ws, i ∈ us) : ∀ σ H Q, Lft C (relF C.T) (lcM us mi f t el) σ H Q →
    tLc (Lft C (relI C.T) mi) (LG C.blk1 ws f) (Lft C.blk1 relB t) (Lft C.blk1 (relE C.T) el) us σ H Q := fun σ H Q ⟨Hf, G, ρ, rr, h⟩ => by
  refine post_bind rr h fun J ds H1 Hf1 ρ1 s1 r1 k p1 => ?_
  intro A hA
  refine ⟨fun i m H => m = ds.length - i ∧ i ≤ ds.length ∧ ∃ Hf' ρ' acc vacc, Same Hf1 Hf' ∧ RR C.F Hf' G σ H (wpR ρ' us) ∧ Fresh Hf' G σ (wpR ρ' us) A ∧ H A = some (.lst vacc) ∧ RpA C.T Hf' acc vacc ∧ Post C (relF C.T) Hf' G σ Q (lcA us f t el acc (ds.drop i) ρ'),
    ⟨_, rfl, Nat.zero_le _, Hf1, ρ1, [], [], Same.refl _, (r1.grow (Same.updN hA)).wiped hmp rfl, (r1.fresh hA).wiped rfl, upd_same, RpA.nil, p1⟩, ?_⟩
  rintro i m H2 ⟨rfl, hil, Hf2, ρ2, acc, vacc, s2, r2, f2, hA2, ra2, p2⟩
  by_cases hlt : i < ds.length
  · have hd : ds.drop i = ds[i] :: ds.drop (i + 1) := List.drop_eq_getElem_cons hlt
    rw [hd] at p2
    refine .inr ⟨k.1 i H2 (s2.trans r2.fz) hlt, fun H => ∃ Hf' ρ' acc vacc, Same Hf1 Hf' ∧ RR C.F Hf' G σ H (wpR ρ' us) ∧ Fresh Hf' G σ (wpR ρ' us) A ∧ H A = some (.lst vacc) ∧ RpA C.T Hf' acc vacc ∧ Post C (relF C.T) Hf' G σ Q (lcA us f t el acc (ds.drop (i + 1)) ρ'), fun H' z => ⟨ds.length - (i + 1), by omega, rfl, hlt, z⟩, fun x H3 y => ?_⟩
    obtain ⟨Hf3, s3, r3, rp⟩ := ItOk.step k s2 (r2.aside f2 hA2) (List.getElem?_eq_getElem hlt) y
    have r3w : RR C.F Hf3 (upd G A (.lst vacc)) (wipe σ us) H3 (wpR ρ2 us) :=
      r3.unwipe hmp (fun i x hi hx => wpR_un hi hx) (wipe_length _ _) fun i hi => wipe_get hi
    refine ⟨Hf3, _, wpR ρ2 us, ds[i], r3w, rp, ?_⟩
    unfold lcA at p2
    cases e : f ds[i] (wpR ρ2 us) with
    | ok u ρ3 =>
      simp only [e] at p2
      intro σ4 H4 Hf4 s4 r4 ag
      have w4 : wipe σ4 us = wipe σ us := (wipe_ag ag hws).trans wipe_wipe
      refine ⟨w4, Hf4, _, ρ3, r4, ?_⟩
      cases e2 : t ρ3 with
      | ok b ρ4 =>
        intro b' H5 Hf5 s5 r5 eb
        subst eb
        have s25 : Same Hf2 Hf5 := s3.trans (s4.trans s5)
        cases b' with
        | true =>
          simp only [e2] at p2
          rw [if_pos rfl]
          refine ⟨Hf5, _, ρ4, r5, ?_⟩
          cases e3 : el ρ4 with
          | ok y ρ5 =>
            simp only [e3] at p2
            intro v H6 Hf6 s6 r6 rv
            by_cases hsz : acc.length < sizeLine
            · rw [if_pos hsz] at p2
              have hA6 : H6 A = some (.lst vacc) := r6.fg A _ upd_same
              have s26 : Same Hf2 Hf6 := s25.trans s6
              obtain ⟨b1, b2⟩ := r6.back (o' := .lst (vacc ++ [v])) f2.2.1
              refine ⟨vacc, hA6, by rw [RpA.length ra2]; exact hsz, Hf6, ρ5, acc ++ [y], vacc ++ [v], s2.trans s26, RR.wiped b1 hmp w4, Fresh.wiped b2 w4, upd_same, RpA.append (RpA.mono s26 _ _ ra2) (RpA.cons rv RpA.nil), p2.up s26⟩
            · rw [if_neg hsz] at p2; exact p2.elim
          | ex x ρ5 => simp only [e3] at p2; exact p2.elim
          | no => simp only [e3] at p2; exact p2.elim
        | false =>
          simp only [e2] at p2
          rw [if_neg Bool.false_ne_true]
          have hA5 : H5 A = some (.lst vacc) := r5.fg A _ upd_same
          obtain ⟨b1, b2⟩ := r5.back (o' := .lst vacc) f2.2.1
          have hup : upd H5 A (.lst vacc) = H5 := by
            funext b
            by_cases hb : b = A
            · subst hb; rw [upd_same, hA5]
            · rw [upd_ne hb]
          rw [hup] at b1
          exact ⟨Hf5, ρ4, acc, vacc, s2.trans s25, RR.wiped b1 hmp w4, Fresh.wiped b2 w4, hA5, RpA.mono s25 _ _ ra2, p2.up s25⟩
      | ex x ρ4 => simp only [e2] at p2; exact p2.elim
      | no => simp only [e2] at p2; exact p2.elim
    | ex x ρ3 => simp only [e] at p2; exact p2.elim
    | no => simp only [e] at p2; exact p2.elim
  · have e : i = ds.length := by omega
    subst e
    rw [List.drop_length] at p2
    exact .inl ⟨k.2.2 H2 (s2.trans r2.fz), p2 (.ref A) H2 Hf2 (Same.refl _) r2 ⟨A, vacc, rfl, f2, hA2, ra2⟩⟩

theorem lc_facts {C : DC} {n : Nm} {sc scope : Scope} {own : List (Str × Nat)} {vs : List Nat} {gs bs : List Str} (S : Sc C n) (L : LkSc C sc) (hb : blB n sc scope own vs gs bs = true) : BlkOk C.X.N C.X.env.scope scope own ∧ ∀ i ∈ own.map (·.2), i ∉ C.F.mp := by
  unfold blB at hb
  rw [Bool.and_eq_true] at hb
  refine ⟨?_, ?_⟩
  · rw [S.hN]
    exact blkOk_by (L.blkC hb.1)
  · intro i hi hm
    have h2 := hb.2
    unfold scB at h2
    simp only [Bool.and_eq_true] at h2
    have q := List.all_eq_true.mp h2.2.1 i hi
    rw [Bool.and_eq_true] at q
    have hm' : i ∈ n.mp := by have := S.mpe; rw [← this]; exact hm
    have := q.2
    rw [List.contains_iff_mem.mpr hm'] at this
    cases this
section
variable {C : DC} {n : Nm} {pos : Pos} {elt tg iter : Expr} {ifs : List Expr} {sc scope : Scope} {own : List (Str × Nat)} {vs ws : List Nat} {gs bs : List Str} {mi : M (List D)} {f : D → M Unit} {t : M Bool} {el : M D}
theorem df_lc (S : Sc C n) (L : LkSc C sc)
    (hb : blB n sc scope own vs gs bs = true) (hi : DI C tg iter mi)
    (hg : ∀ C', Sc C' (n.sub vs (own.map (·.2)) gs bs) → LkSc C' scope → DG C' tg ws f) (ht : ∀ C', Sc C' (n.sub vs (own.map (·.2)) gs bs) → LkSc C' scope → DTs C' ifs t) (he : ∀ C', Sc C' (n.sub vs (own.map (·.2)) gs bs) → LkSc C' scope → DE C' elt el) (hw : ws.all (fun i => (own.map (·.2)).contains i) = true) :
    DF C (.ListComp elt [⟨tg, iter, ifs, 0⟩] scope pos) (lcM (own.map (·.2)) mi f t el) := by
  obtain ⟨hblk, hmp⟩ := lc_facts S L hb
  exact ⟨PE.imp (pe_lc (own := own) (g := LG C.blk1 ws f) (tt := Lft C.blk1 relB t) (te := Lft C.blk1 (relE C.T) el) S.calm (by rw [S.hN]; exact S.nd) hi.pi hblk (fun s H A cl fp => (hg _ (S.blk hb s H A cl fp) (.blk s H A cl fp)).pg) (fun s H A cl fp => (ht _ (S.blk hb s H A cl fp) (.blk s H A cl fp)).pt) (fun s H A cl fp => (he _ (S.blk hb s H A cl fp) (.blk s H A cl fp)).pe) (fold_ok hi.ok _)) (lc_read hmp fun i hi => List.contains_iff_mem.mp (List.all_eq_true.mp hw i hi)), rfl⟩
/-- name = [..], the name a local: the list is of its own, or frozen -/
def swB (scope : Scope) (y : Str) (l1 l2 : Nat) : Bool := l1 == l2 && !(scope.names.any fun (n, k) => n == y && (k == .local || k == .cell))
theorem ps_lc {i : Nat} {y : Str} {py spos : Pos} (S : Sc C n) (hi' : i ∈ n.ws) (hx : n.N[i]? = some y) (hyl : C.X.env.scope.names.lookup y = some .local) (hk : C.X.env.scope.kind = .function) (hsw : swB scope y py.line pos.line = true) (L : LkSc C sc)
    (hb : blB n sc scope own vs gs bs = true) (hi : DI C tg iter mi)
    (hg : ∀ C', Sc C' (n.sub vs (own.map (·.2)) gs bs) → LkSc C' scope → DG C' tg ws f) (ht : ∀ C', Sc C' (n.sub vs (own.map (·.2)) gs bs) → LkSc C' scope → DTs C' ifs t) (he : ∀ C', Sc C' (n.sub vs (own.map (·.2)) gs bs) → LkSc C' scope → DE C' elt el) (hw : ws.all (fun i => (own.map (·.2)).contains i) = true) :
    PS C.X (.Assign [.Name y py] (.ListComp elt [⟨tg, iter, ifs, 0⟩] scope pos) spos) (tAsg (Lft C (relF C.T) (lcM (own.map (·.2)) mi f t el)) (gName i)) := by
  obtain ⟨hblk, hmp⟩ := lc_facts S L hb
  unfold swB at hsw
  simp only [Bool.and_eq_true, Bool.not_eq_true'] at hsw
  refine PS.imp (ps_setLc (own := own) (g := LG C.blk1 ws f) (tt := Lft C.blk1 relB t) (te := Lft C.blk1 (relE C.T) el) S.calm (by rw [S.hN]; exact S.nd) (by rw [S.hN]; exact hx) hyl (sw_true hk hyl hsw.1 hsw.2) hi.pi hblk (fun s H A cl fp => (hg _ (S.blk hb s H A cl fp) (.blk s H A cl fp)).pg) (fun s H A cl fp => (ht _ (S.blk hb s H A cl fp) (.blk s H A cl fp)).pt) (fun s H A cl fp => (he _ (S.blk hb s H A cl fp) (.blk s H A cl fp)).pe) (fold_ok hi.ok _)) fun E σ H h => ?_
  exact lc_read hmp (fun i hi => List.contains_iff_mem.mp (List.all_eq_true.mp hw i hi)) σ H _ h
end
end DS
namespace DS
open PySem L2
/-! ### calls of the text's own defs -/
inductive AV where
  | im (d : D) | sl (i : Nat)
def avOk (T : Wd) (Hf : Hp) (σ : St) (v : V) : AV → Prop
  | .im d => Rp T Hf d v
  | .sl i => σ[i]? = some (some v)
def avsOk (T : Wd) (Hf : Hp) (σ : St) : List V → List AV → Prop
  | [], as => as = []
  | v :: vs, as => ∃ a r, as = a :: r ∧ avOk T Hf σ v a ∧ avsOk T Hf σ vs r
abbrev relV (T : Wd) : Rel (List V) (List AV) := fun Hf _ σ _ _ vs as => avsOk T Hf σ vs as
structure DV (C : DC) (es : List Expr) (m : M (List AV)) : Prop where
  pa : PA C.X es (Lft C (relV C.T) m)
  ok : es.all okE = true
theorem all_star {es : List Expr} {pos : Pos} {env : Env} (h : es.all okE = true) : (backTo pos (starEach es env)).any (·.1) = false := by
  induction es with
  | nil => rfl
  | cons e es ih =>
    rw [List.all_cons, Bool.and_eq_true] at h
    rw [star_ok h.1]
    exact ih h.2
theorem avOk.mono {T : Wd} {Hf Hf' : Hp} {σ : St} {v : V} (s : Same Hf Hf') : ∀ {a : AV}, avOk T Hf σ v a → avOk T Hf' σ v a
  | .im d, h => Rp.mono s d v h
  | .sl i, h => h
section
variable {C : DC} {n : Nm} {pos : Pos}
theorem dv_nil : DV C [] (ret []) := ⟨PA.imp pa_nil fun σ H Q ⟨Hf, G, ρ, rr, h⟩ => h [] H Hf (Same.refl _) rr rfl, rfl⟩
def vim (a : M D) (b : M (List AV)) : M (List AV) := bnd a fun x => bnd b fun xs => ret (.im x :: xs)
def vsl (i : Nat) (b : M (List AV)) : M (List AV) := bnd (pkO i) fun _ => bnd b fun xs => ret (.sl i :: xs)
where pkO (i : Nat) : M Unit := fun ρ => match ρ[i]? with
  | some x => if owns x then .ok () ρ else .no
  | none => .no
theorem dv_im {e : Expr} {es : List Expr} {a : M D} {b : M (List AV)} (h1 : DE C e a) (h2 : DV C es b) : DV C (e :: es) (vim a b) :=
  ⟨PA.imp (pa_cons h1.pe h2.pa (star_ok h1.ok _ _)) fun σ H Q ⟨Hf, G, ρ, rr, h⟩ => post_bind rr h fun x d H1 Hf1 ρ1 s1 r1 rx p1 => post_bind r1 p1 fun xs ds H2 Hf2 ρ2 s2 r2 rxs p2 =>
    p2 (x :: xs) H2 Hf2 (Same.refl _) r2 ⟨_, _, rfl, Rp.mono s2 _ _ rx, rxs⟩, by rw [List.all_cons, h1.ok, h2.ok]; rfl⟩
theorem dv_sl {x : Str} {p : Pos} {es : List Expr} {b : M (List AV)} (S : Sc C n) (i : Nat) (hi : i ∈ n.vs) (hx : n.N[i]? = some x) (h2 : DV C es b) : DV C (.Name x p :: es) (vsl i b) :=
  ⟨PA.imp (pa_cons (pv_ok S i hi hx) h2.pa rfl) fun σ H Q ⟨Hf, G, ρ, rr, h⟩ => (by
    have h' : Post C (relV C.T) Hf G σ Q (bnd (vsl.pkO i) (fun _ => bnd b fun xs => ret (.sl i :: xs)) ρ) := h
    unfold bnd vsl.pkO at h'
    cases e : ρ[i]? with
    | none => simp only [e] at h'; exact h'.elim
    | some y =>
      simp only [e] at h'
      by_cases ho : owns y = true
      · rw [if_pos ho] at h'
        obtain ⟨v, hv⟩ := slot_some rr e (owns_un ho)
        refine ⟨v, hv, ?_⟩
        have h2 : Post C (relV C.T) Hf G σ Q (bnd b (fun xs => ret (.sl i :: xs)) ρ) := h'
        exact post_bind rr h2 fun xs ds H2 Hf2 ρ2 s2 r2 rxs p2 => p2 (v :: xs) H2 Hf2 (Same.refl _) r2 ⟨_, _, rfl, hv, rxs⟩
      · rw [if_neg ho] at h'; exact h'.elim), by rw [List.all_cons, h2.ok]; rfl⟩
end
/-- a def's promise by a function over data -/
def fsp (T : Wd) (F : List Sl → Res D) : Sp := fun vs H Q E => ∃ Hf G args, Same Hf H ∧ Same G H ∧ (∀ b o, G b = some o → Hf b = none) ∧ TabF T Hf G H ∧ args.length = vs.length ∧
  (∀ (i : Nat) v x, vs[i]? = some v → args[i]? = some x → SlOk T Hf G H (some (some v)) x ∧ x ≠ .un) ∧
  (∀ (i j : Nat) p x y, i ≠ j → args[i]? = some x → args[j]? = some y → owns x = true → owns y = true → vs[i]? = some (.ref p) → vs[j]? = some (.ref p) → False) ∧
  match F args with
  | .ok d args' => ∀ v H' Hf', Same Hf Hf' → Same Hf' H' → Same G H' → (∀ b o, G b = some o → Hf' b = none) → TabF T Hf' G H' → Rp T Hf' d v →
      (∀ (i : Nat) p x x', args[i]? = some x → owns x = true → vs[i]? = some (.ref p) → args'[i]? = some x' → SlOk T Hf' G H' (some (some (.ref p))) x') → Q v H'
  | .ex e _ => ∀ cls dd H' Hf', Same Hf Hf' → Same Hf' H' → Same G H' → (∀ b o, G b = some o → Hf' b = none) → TabF T Hf' G H' → XR T Hf' e cls dd → E cls dd H'
  | .no => False
/-- .. that hands back a new list of the caller's own -/
def fspO (T : Wd) (F : List Sl → Res (List D)) : Sp := fun vs H Q E => ∃ Hf G args, Same Hf H ∧ Same G H ∧ (∀ b o, G b = some o → Hf b = none) ∧ TabF T Hf G H ∧ args.length = vs.length ∧
  (∀ (i : Nat) v x, vs[i]? = some v → args[i]? = some x → SlOk T Hf G H (some (some v)) x ∧ x ≠ .un) ∧
  (∀ (i j : Nat) p x y, i ≠ j → args[i]? = some x → args[j]? = some y → owns x = true → owns y = true → vs[i]? = some (.ref p) → vs[j]? = some (.ref p) → False) ∧
  match F args with
  | .ok ds args' => ∀ q vq H' Hf', Same Hf Hf' → Same Hf' H' → Same G H' → (∀ b o, G b = some o → Hf' b = none) → TabF T Hf' G H' → Hf' q = none → G q = none → (∀ (i : Nat) x, args[i]? = some x → owns x = true → vs[i]? ≠ some (.ref q)) → H' q = some (.lst vq) → RpA T Hf' ds vq →
      (∀ (i : Nat) p x x', args[i]? = some x → owns x = true → vs[i]? = some (.ref p) → args'[i]? = some x' → SlOk T Hf' G H' (some (some (.ref p))) x') → Q (.ref q) H'
  | .ex e _ => False
  | .no => False
/-- the def's own run -/
def ownAt (mp : List Nat) : Nat → List Sl → Bool
  | _, [] => true
  | i, x :: xs => (!owns x || mp.contains i) && ownAt mp (i + 1) xs
def runF (np nn : Nat) (mp : List Nat) (m : M Flow) (args : List Sl) : Res D :=
  if args.length = np && ownAt mp 0 args then
    match m (args ++ List.replicate (nn - np) .un) with
    | .ok .nx r => .ok .none (r.take np)
    | .ok (.rt d) r => .ok d (r.take np)
    | .ok (.ro ds) r => .ok (.list ds) (r.take np)
    | _ => .no
  else .no
/-- .. of a def that may raise -/
def runX (np nn : Nat) (mp : List Nat) (m : M Flow) (args : List Sl) : Res D :=
  if args.length = np && ownAt mp 0 args then
    match m (args ++ List.replicate (nn - np) .un) with
    | .ok .nx r => .ok .none (r.take np)
    | .ok (.rt d) r => .ok d (r.take np)
    | .ok (.ro ds) r => .ok (.list ds) (r.take np)
    | .ex e r => .ex e r
    | _ => .no
  else .no
def runO (np nn : Nat) (mp : List Nat) (m : M Flow) (args : List Sl) : Res (List D) :=
  if args.length = np && ownAt mp 0 args then
    match m (args ++ List.replicate (nn - np) .un) with
    | .ok (.ro ds) r => .ok ds (r.take np)
    | _ => .no
  else .no
theorem ownAt_get {mp : List Nat} : ∀ {xs : List Sl} {k i : Nat} {x : Sl}, ownAt mp k xs = true → xs[i]? = some x → owns x = true → k + i ∈ mp
  | y :: ys, k, 0, x, h, e, o => by
    simp only [ownAt, Bool.and_eq_true, Bool.or_eq_true, Bool.not_eq_true'] at h
    simp at e
    subst e
    rcases h.1 with z | z
    · rw [o] at z; cases z
    · exact List.contains_iff_mem.mp z
  | y :: ys, k, i + 1, x, h, e, o => by
    simp only [ownAt, Bool.and_eq_true] at h
    have := ownAt_get (k := k + 1) (i := i) h.2 (by simpa using e) o
    rw [show k + (i + 1) = k + 1 + i by omega]
    exact this
theorem start_get {N : List Str} {vs : List V} {i : Nat} {v : V} (h : vs[i]? = some v) : (L2.start N vs)[i]? = some (some v) := by
  unfold L2.start
  rw [List.getElem?_append_left (by simpa using lt_of_get h), List.getElem?_map, h]
  rfl
/-- the state at the def's start -/
theorem rr_start {T : Wd} {mp : List Nat} {N : List Str} {vs : List V} {H Hf G : Hp} {args : List Sl} (s1 : Same Hf H) (s2 : Same G H) (dj : ∀ b o, G b = some o → Hf b = none) (tf : TabF T Hf G H) (hl : args.length = vs.length) (hn : vs.length ≤ N.length)
    (hs : ∀ (i : Nat) v x, vs[i]? = some v → args[i]? = some x → SlOk T Hf G H (some (some v)) x ∧ x ≠ .un)
    (hd : ∀ (i j : Nat) p x y, i ≠ j → args[i]? = some x → args[j]? = some y → owns x = true → owns y = true → vs[i]? = some (.ref p) → vs[j]? = some (.ref p) → False) :
    RR ⟨T, mp, L2.start N vs⟩ Hf G (L2.start N vs) H (args ++ List.replicate (N.length - args.length) .un) := by
  have inA : ∀ {i : Nat} {x : Sl}, (args ++ List.replicate (N.length - args.length) .un)[i]? = some x → x ≠ .un → args[i]? = some x := fun {i x} e hx => by
    by_cases hi : i < args.length
    · rw [List.getElem?_append_left hi] at e; exact e
    · rw [List.getElem?_append_right (by omega)] at e
      have := List.eq_of_mem_replicate (List.mem_of_getElem? e)
      exact absurd this hx
  have vsAt : ∀ {i : Nat} {x : Sl}, args[i]? = some x → ∃ v, vs[i]? = some v := fun {i x} e => ⟨_, List.getElem?_eq_getElem (by rw [← hl]; exact lt_of_get e)⟩
  refine ⟨s1, s2, dj, ?_, fun i x e => ?_, fun i j x y p hij ex ey ox oy hx hy => ?_, fun i _ => rfl, tf⟩
  · simp [L2.start]; omega
  · by_cases hx : x = .un
    · subst hx; trivial
    · have ea := inA e hx
      obtain ⟨v, hv⟩ := vsAt ea
      rw [start_get hv]
      exact (hs i v x hv ea).1
  · have ea := inA ex (owns_un ox)
    have eb := inA ey (owns_un oy)
    obtain ⟨v, hv⟩ := vsAt ea
    obtain ⟨u, hu⟩ := vsAt eb
    rw [start_get hv] at hx
    rw [start_get hu] at hy
    cases hx
    cases hy
    exact hd i j p x y hij ea eb ox oy hv hu
section
variable {P : Program} {w : World} {K : PySem.W.Frag} {mg : Str → Option Value} {base : Heap} {tb : List (Addr × Str)}
theorem fn_ok {x qual : Str} {sd : Stmt} {f : Addr} {fd : FuncData} {ps : List Str} {n : Nm} {m : M Flow} (F : Fun K x qual sd f fd) (S : FnScope n.N ps (defScope sd)) (hp : ps.length ≤ n.N.length)
    (ck : scB n (defScope sd) = true) (bno : ∀ x ∈ n.bn, mg x = none) (fs : n.fs ⟨P, w, K, mg, base, tb⟩) (hD : ∀ C, Sc C n → LkSc C (defScope sd) → DSs C (defBody sd) m) : FnOk P w K mg base CX0 (n.lv + 1) f fd ps (fsp ⟨P, w, K, mg, base, tb⟩ (runF ps.length n.N.length n.mp m)) := by
  have len : ∀ vs H Q E, fsp ⟨P, w, K, mg, base, tb⟩ (runF ps.length n.N.length n.mp m) vs H Q E → vs.length = ps.length := fun vs H Q E ⟨Hf, G, args, _, _, _, _, hl, _, _, h⟩ => by
    unfold runF at h
    by_cases hc : (args.length = ps.length && ownAt n.mp 0 args) = true
    · simp only [Bool.and_eq_true, decide_eq_true_eq] at hc
      rw [← hl]; exact hc.1
    · rw [if_neg hc] at h; exact h.elim
  refine F.ok S len fun cdv A outer s H vs Q E hr h => ?_
  have hlen := len vs H Q E h
  let C : DC := ⟨(cxOf CX0 P w K mg base n.N qual (defScope sd) f cdv A outer s H E).nox, fun _ _ _ _ => False, n.mp, L2.start n.N vs, tb⟩
  have SC : Sc C n := ⟨rfl, S.nd, ck, S.kind, rfl, fun _ _ _ _ _ => rfl, rfl, PassesOwn.never, hr, bno, fs, takes_none5, fun _ => ⟨rfl, rfl, rfl⟩⟩
  refine ⟨_, (hD C SC (.inl rfl)).pss, ?_⟩
  obtain ⟨Hf, G, args, s1, s2, dj, tf, hl, hs, hd, h⟩ := h
  have rr : RR C.F Hf G (L2.start n.N vs) H (args ++ List.replicate (n.N.length - args.length) .un) := rr_start s1 s2 dj tf hl (by omega) hs hd
  unfold runF at h
  by_cases hc : (args.length = ps.length && ownAt n.mp 0 args) = true
  · rw [if_pos hc] at h
    simp only [Bool.and_eq_true, decide_eq_true_eq] at hc
    rw [hc.1] at rr
    refine ⟨Hf, G, _, rr, ?_⟩
    have fin : ∀ {ρ' : Rho} {σ' : St} {H' Hf' : Hp}, RR C.F Hf' G σ' H' ρ' → ∀ (i : Nat) p x x', args[i]? = some x → owns x = true → vs[i]? = some (.ref p) → (ρ'.take ps.length)[i]? = some x' → SlOk ⟨P, w, K, mg, base, tb⟩ Hf' G H' (some (some (.ref p))) x' := fun {ρ' σ' H' Hf'} r i p x x' ex ox hv ex' => by
      have hm : i ∈ n.mp := by simpa using ownAt_get hc.2 ex ox
      have hk := r.kp i hm
      have : σ'[i]? = some (some (.ref p)) := hk.trans (start_get hv)
      rw [← this]
      refine r.sl i x' ?_
      rw [List.getElem?_take] at ex'
      split at ex'
      · exact ex'
      · cases ex'
    cases e : m (args ++ List.replicate (n.N.length - ps.length) .un) with
    | ok fl ρ' =>
      rw [e] at h
      cases fl with
      | nx => exact fun σ' H' Hf' s' r => h .non H' Hf' s' r.fz r.fg r.dj r.tb rp_none (fin r)
      | rt d => exact fun v σ' H' Hf' s' r rv => h v H' Hf' s' r.fz r.fg r.dj r.tb rv (fin r)
      | ro ds =>
        intro p vq σ' H' Hf' s' r hfp hgp hmp hq ra
        have hsm : Same Hf' (upd Hf' p (.lst vq)) := Same.updN hfp
        refine h (.ref p) H' (upd Hf' p (.lst vq)) (s'.trans hsm) (fun b u eb => ?_) r.fg (fun b u eb => ?_) (r.tb.fup hfp (r.tb.ne hq fun ps z => by cases z)) (rp_list (SqL.of upd_same) (RpA.mono hsm _ _ ra)) fun i q x x' ex ox hv ex' => ?_
        · by_cases hb : b = p
          · subst hb; rw [upd_same] at eb; rw [hq]; exact eb
          · rw [upd_ne hb] at eb; exact r.fz b u eb
        · have hb : b ≠ p := fun z => by subst z; rw [hgp] at eb; cases eb
          rw [upd_ne hb]; exact r.dj b u eb
        · have hm : i ∈ n.mp := by simpa using ownAt_get hc.2 ex ox
          have hk : σ'[i]? = some (some (.ref q)) := (r.kp i hm).trans (start_get hv)
          refine (fin r i q x x' ex ox hv ex').fz hsm fun q' _ hq' => ?_
          cases hq'
          have hb : q ≠ p := fun z => by subst z; exact hmp i hm hk
          rw [upd_ne hb]
          have := fin r i q x x' ex ox hv ex'
          cases x' with
          | un => rename_i ho; cases ho
          | im d => rename_i ho; cases ho
          | ml ds' => obtain ⟨_, _, a, b, _⟩ := this; cases a; exact b
          | md kvs => obtain ⟨_, a, b, _⟩ := this; cases a; exact b
          | mi c fs => obtain ⟨_, _, _, _, a, b, _⟩ := this; cases a; exact b
      | bk => exact h.elim
      | ct => exact h.elim
    | ex x ρ' => rw [e] at h; exact h.elim
    | no => rw [e] at h; exact h.elim
  · rw [if_neg hc] at h; exact h.elim
theorem fn_okO {x qual : Str} {sd : Stmt} {f : Addr} {fd : FuncData} {ps : List Str} {n : Nm} {m : M Flow} (F : Fun K x qual sd f fd) (S : FnScope n.N ps (defScope sd)) (hp : ps.length ≤ n.N.length)
    (ck : scB n (defScope sd) = true) (bno : ∀ x ∈ n.bn, mg x = none) (fs : n.fs ⟨P, w, K, mg, base, tb⟩) (hD : ∀ C, Sc C n → LkSc C (defScope sd) → DSs C (defBody sd) m) : FnOk P w K mg base CX0 (n.lv + 1) f fd ps (fspO ⟨P, w, K, mg, base, tb⟩ (runO ps.length n.N.length n.mp m)) := by
  have len : ∀ vs H Q E, fspO ⟨P, w, K, mg, base, tb⟩ (runO ps.length n.N.length n.mp m) vs H Q E → vs.length = ps.length := fun vs H Q E ⟨Hf, G, args, _, _, _, _, hl, _, _, h⟩ => by
    unfold runO at h
    by_cases hc : (args.length = ps.length && ownAt n.mp 0 args) = true
    · simp only [Bool.and_eq_true, decide_eq_true_eq] at hc
      rw [← hl]; exact hc.1
    · rw [if_neg hc] at h; exact h.elim
  refine F.ok S len fun cdv A outer s H vs Q E hr h => ?_
  have hlen := len vs H Q E h
  let C : DC := ⟨(cxOf CX0 P w K mg base n.N qual (defScope sd) f cdv A outer s H E).nox, fun _ _ _ _ => False, n.mp, L2.start n.N vs, tb⟩
  have SC : Sc C n := ⟨rfl, S.nd, ck, S.kind, rfl, fun _ _ _ _ _ => rfl, rfl, PassesOwn.never, hr, bno, fs, takes_none5, fun _ => ⟨rfl, rfl, rfl⟩⟩
  refine ⟨_, (hD C SC (.inl rfl)).pss, ?_⟩
  obtain ⟨Hf, G, args, s1, s2, dj, tf, hl, hs, hd, h⟩ := h
  have rr : RR C.F Hf G (L2.start n.N vs) H (args ++ List.replicate (n.N.length - args.length) .un) := rr_start s1 s2 dj tf hl (by omega) hs hd
  unfold runO at h
  by_cases hc : (args.length = ps.length && ownAt n.mp 0 args) = true
  · rw [if_pos hc] at h
    simp only [Bool.and_eq_true, decide_eq_true_eq] at hc
    rw [hc.1] at rr
    refine ⟨Hf, G, _, rr, ?_⟩
    have fin : ∀ {ρ' : Rho} {σ' : St} {H' Hf' : Hp}, RR C.F Hf' G σ' H' ρ' → ∀ (i : Nat) p x x', args[i]? = some x → owns x = true → vs[i]? = some (.ref p) → (ρ'.take ps.length)[i]? = some x' → SlOk ⟨P, w, K, mg, base, tb⟩ Hf' G H' (some (some (.ref p))) x' := fun {ρ' σ' H' Hf'} r i p x x' ex ox hv ex' => by
      have hm : i ∈ n.mp := by simpa using ownAt_get hc.2 ex ox
      have hk := r.kp i hm
      have : σ'[i]? = some (some (.ref p)) := hk.trans (start_get hv)
      rw [← this]
      refine r.sl i x' ?_
      rw [List.getElem?_take] at ex'
      split at ex'
      · exact ex'
      · cases ex'
    cases e : m (args ++ List.replicate (n.N.length - ps.length) .un) with
    | ok fl ρ' =>
      rw [e] at h
      cases fl with
      | ro ds =>
        intro p vq σ' H' Hf' s' r hfp hgp hmp hq ra
        refine h p vq H' Hf' s' r.fz r.fg r.dj r.tb hfp hgp (fun i x ex ox hv => ?_) hq ra (fin r)
        have hm : i ∈ n.mp := by simpa using ownAt_get hc.2 ex ox
        exact hmp i hm ((r.kp i hm).trans (start_get hv))
      | nx => exact h.elim
      | rt d => exact h.elim
      | bk => exact h.elim
      | ct => exact h.elim
    | ex x ρ' => rw [e] at h; exact h.elim
    | no => rw [e] at h; exact h.elim
  · rw [if_neg hc] at h; exact h.elim
end
/-! ### the caller's side -/
def resolve (ρ : Rho) : List AV → Option (List Sl)
  | [] => some []
  | .im d :: as => (resolve ρ as).map (.im d :: ·)
  | .sl i :: as => match ρ[i]? with
    | some x => if owns x then (resolve ρ as).map (x :: ·) else none
    | none => none
def slots : List AV → List Nat
  | [] => []
  | .im _ :: as => slots as
  | .sl i :: as => i :: slots as
def back (ρ : Rho) : List AV → List Sl → Rho
  | .im _ :: as, _ :: xs => back ρ as xs
  | .sl i :: as, x :: xs => (back ρ as xs).set i x
  | _, _ => ρ
def nodupB : List Nat → Bool
  | [] => true
  | i :: l => !l.contains i && nodupB l
def callM {α : Type} (F : List Sl → Res α) (as : List AV) : M α := fun ρ => match resolve ρ as with
  | none => .no
  | some args => if nodupB (slots as) then
      match F args with
      | .ok d args' => if args'.length = args.length then .ok d (back ρ as args') else .no
      | .ex e _ => if (slots as).isEmpty then .ex e ρ else .no
      | .no => .no
    else .no
theorem res_len {ρ : Rho} : ∀ {as : List AV} {args : List Sl}, resolve ρ as = some args → args.length = as.length
  | [], _, h => by cases h; rfl
  | .im d :: as, _, h => by
    obtain ⟨r, e, rfl⟩ := Option.map_eq_some_iff.mp (show (resolve ρ as).map (.im d :: ·) = some _ from h)
    simp [res_len e]
  | .sl i :: as, _, h => by
    unfold resolve at h
    split at h
    · split at h
      · obtain ⟨r, e, rfl⟩ := Option.map_eq_some_iff.mp h
        simp [res_len e]
      · cases h
    · cases h
theorem avs_len {T : Wd} {Hf : Hp} {σ : St} : ∀ {vs : List V} {as : List AV}, avsOk T Hf σ vs as → as.length = vs.length
  | [], _, h => by rw [show _ = [] from h]; rfl
  | v :: vs, _, h => by
    obtain ⟨a, r, e, _, z⟩ := h
    subst e
    simp [avs_len z]
/-- what stands at the i-th argument -/
theorem res_get {T : Wd} {Hf : Hp} {σ : St} {ρ : Rho} : ∀ {as : List AV} {vs : List V} {args : List Sl}, resolve ρ as = some args → avsOk T Hf σ vs as → ∀ (i : Nat) v x, vs[i]? = some v → args[i]? = some x →
    (∃ d, x = .im d ∧ Rp T Hf d v ∧ as[i]? = some (.im d)) ∨ ∃ j, as[i]? = some (.sl j) ∧ ρ[j]? = some x ∧ owns x = true ∧ σ[j]? = some (some v) ∧ j ∈ slots as
  | [], _, _, h, ha, i, v, x, hv, hx => by cases h; simp at hx
  | .im d :: as, vs, _, h, ha, i, v, x, hv, hx => by
    obtain ⟨r, e, rfl⟩ := Option.map_eq_some_iff.mp (show (resolve ρ as).map (.im d :: ·) = some _ from h)
    cases vs with
    | nil => simp at hv
    | cons u us =>
      obtain ⟨a, r', e1, q, z⟩ := ha
      cases e1
      cases i with
      | zero =>
        simp at hv hx
        subst hv hx
        exact .inl ⟨d, rfl, q, rfl⟩
      | succ i =>
        rcases res_get e z i v x (by simpa using hv) (by simpa using hx) with ⟨d', a, b, c⟩ | ⟨j, a, b, c, d', f⟩
        · exact .inl ⟨d', a, b, by simpa using c⟩
        · exact .inr ⟨j, by simpa using a, b, c, d', f⟩
  | .sl k :: as, vs, _, h, ha, i, v, x, hv, hx => by
    unfold resolve at h
    split at h
    · rename_i y hy
      split at h
      · rename_i ho
        obtain ⟨r, e, rfl⟩ := Option.map_eq_some_iff.mp h
        cases vs with
        | nil => simp at hv
        | cons u us =>
          obtain ⟨a, r', e1, q, z⟩ := ha
          cases e1
          cases i with
          | zero =>
            simp at hv hx
            subst hv hx
            exact .inr ⟨k, rfl, hy, ho, q, by simp [slots]⟩
          | succ i =>
            rcases res_get e z i v x (by simpa using hv) (by simpa using hx) with ⟨d', a, b, c⟩ | ⟨j, a, b, c, d', f⟩
            · exact .inl ⟨d', a, b, by simpa using c⟩
            · exact .inr ⟨j, by simpa using a, b, c, d', by simp [slots, f]⟩
      · cases h
    · cases h
theorem slots_mem {as : List AV} {j : Nat} : j ∈ slots as → ∃ i : Nat, as[i]? = some (.sl j) := by
  induction as with
  | nil => intro h; cases h
  | cons a as ih =>
    intro h
    cases a with
    | im d =>
      obtain ⟨i, e⟩ := ih h
      exact ⟨i + 1, by simpa using e⟩
    | sl k =>
      rcases List.mem_cons.mp h with z | z
      · exact ⟨0, by simp [z]⟩
      · obtain ⟨i, e⟩ := ih z
        exact ⟨i + 1, by simpa using e⟩
theorem back_len {ρ : Rho} : ∀ {as : List AV} {xs : List Sl}, (back ρ as xs).length = ρ.length
  | [], _ => by unfold back; rfl
  | .im _ :: as, [] => by unfold back; rfl
  | .sl _ :: as, [] => by unfold back; rfl
  | .im _ :: as, _ :: xs => by unfold back; exact back_len
  | .sl i :: as, x :: xs => by unfold back; rw [List.length_set]; exact back_len
/-- a slot behind the call: it was handed over, or it stands -/
theorem back_get {ρ : Rho} {j : Nat} {y : Sl} : ∀ {as : List AV} {xs : List Sl}, xs.length = as.length → nodupB (slots as) = true → (back ρ as xs)[j]? = some y →
    (j ∉ slots as ∧ ρ[j]? = some y) ∨ ∃ i : Nat, as[i]? = some (.sl j) ∧ xs[i]? = some y
  | [], xs, _, _, h => by unfold back at h; exact .inl ⟨by simp [slots], h⟩
  | .im d :: as, x :: xs, hl, hn, h => by
    unfold back at h
    rcases back_get (by simpa using hl) (by simpa [slots] using hn) h with ⟨a, b⟩ | ⟨i, a, b⟩
    · exact .inl ⟨by simpa [slots] using a, b⟩
    · exact .inr ⟨i + 1, by simpa using a, by simpa using b⟩
  | .sl k :: as, x :: xs, hl, hn, h => by
    unfold back at h
    simp only [slots, nodupB, Bool.and_eq_true, Bool.not_eq_true'] at hn
    rcases get_set_cases h with ⟨e1, e2, _⟩ | ⟨e1, h⟩
    · subst e1 e2
      exact .inr ⟨0, rfl, rfl⟩
    · rcases back_get (by simpa using hl) hn.2 h with ⟨a, b⟩ | ⟨i, a, b⟩
      · exact .inl ⟨by simp only [slots, List.mem_cons, not_or]; exact ⟨e1, a⟩, b⟩
      · exact .inr ⟨i + 1, by simpa using a, by simpa using b⟩
  | .im d :: as, [], hl, _, _ => by cases hl
  | .sl d :: as, [], hl, _, _ => by cases hl
end DS
namespace DS
open PySem L2
open Classical in
/-- what the callee leaves as it is: all but the frozen and what is handed over -/
noncomputable def gc (Hf H : Hp) (ps : Addr → Prop) : Hp := fun b => if Hf b = none ∧ ¬ ps b then H b else none
theorem gc_in {Hf H : Hp} {ps : Addr → Prop} {b : Addr} {o : HO} (h1 : Hf b = none) (h2 : ¬ ps b) (h : H b = some o) : gc Hf H ps b = some o := by
  unfold gc
  rw [if_pos ⟨h1, h2⟩]
  exact h
theorem gc_out {Hf H : Hp} {ps : Addr → Prop} {b : Addr} {o : HO} (h : gc Hf H ps b = some o) : Hf b = none ∧ ¬ ps b ∧ H b = some o := by
  unfold gc at h
  split at h
  · rename_i hc; exact ⟨hc.1, hc.2, h⟩
  · cases h
theorem gc_ps {Hf H : Hp} {ps : Addr → Prop} {b : Addr} (h : ps b) : gc Hf H ps b = none := by
  unfold gc
  rw [if_neg fun z => z.2 h]
def passed (σ : St) (as : List AV) (b : Addr) : Prop := ∃ j ∈ slots as, σ[j]? = some (some (.ref b))
/-- .. or a table -/
def passedT (tb : List (Addr × Str)) (σ : St) (as : List AV) (b : Addr) : Prop := passed σ as b ∨ ∃ q ∈ tb, q.1 = b
theorem not_passed {tb : List (Addr × Str)} {σ : St} {as : List AV} {b : Addr} (h2 : ∀ q ∈ tb, q.1 ≠ b) (h1 : ¬ passed σ as b) : ¬ passedT tb σ as b := fun z => z.elim h1 fun ⟨q, hq, e⟩ => h2 q hq e
theorem TabF.gc {T : Wd} {Hf G H : Hp} (t : TabF T Hf G H) (σ : St) (as : List AV) : TabF T Hf (gc Hf H (passedT T.tb σ as)) H := fun q hq => ⟨(t q hq).1, gc_ps (.inr ⟨q, hq, rfl⟩), (t q hq).2.2⟩
theorem TabF.notG {T : Wd} {Hf G H : Hp} (t : TabF T Hf G H) {b : Addr} {o : HO} (h : G b = some o) : ∀ q ∈ T.tb, q.1 ≠ b := fun q hq e => by
  have := (t q hq).2.1
  rw [e, h] at this; cases this
section
variable {F : Fx} {Hf G H : Hp} {σ : St} {ρ : Rho} {as : List AV} {vs : List V} {args : List Sl}
theorem call_pre (rr : RR F Hf G σ H ρ) (ha : avsOk F.T Hf σ vs as) (hr : resolve ρ as = some args) (hn : nodupB (slots as) = true) :
    (∀ (i : Nat) v x, vs[i]? = some v → args[i]? = some x → SlOk F.T Hf (gc Hf H (passedT F.T.tb σ as)) H (some (some v)) x ∧ x ≠ .un) ∧
    (∀ (i j : Nat) p x y, i ≠ j → args[i]? = some x → args[j]? = some y → owns x = true → owns y = true → vs[i]? = some (.ref p) → vs[j]? = some (.ref p) → False) := by
  refine ⟨fun i v x hv hx => ?_, fun i j p x y hij hx hy ox oy hi hj => ?_⟩
  · rcases res_get hr ha i v x hv hx with ⟨d, e, r, _⟩ | ⟨j, ej, hj, ho, hs, hm⟩
    · subst e
      exact ⟨⟨v, rfl, r⟩, fun z => by cases z⟩
    · refine ⟨?_, owns_un ho⟩
      have h := rr.sl j x hj
      rw [hs] at h
      have key : ∀ q, v = .ref q → gc Hf H (passedT F.T.tb σ as) q = none := fun q e => by
        subst e
        exact gc_ps (.inl ⟨j, hm, hs⟩)
      cases x with
      | un => cases ho
      | im d => cases ho
      | ml ds => obtain ⟨q, us, a, b, c, d, r⟩ := h; cases a; exact ⟨q, us, rfl, b, key q rfl, d, r⟩
      | md kvs => obtain ⟨q, a, b, c, d⟩ := h; cases a; exact ⟨q, rfl, b, key q rfl, d⟩
      | mi c fs => obtain ⟨q, C, dx, us, a, b, c1, d⟩ := h; cases a; exact ⟨q, C, dx, us, rfl, b, key q rfl, d⟩
  · rcases res_get hr ha i _ x hi hx with ⟨d, e, _⟩ | ⟨k, ek, hk, _, hks, hkm⟩
    · subst e; cases ox
    · rcases res_get hr ha j _ y hj hy with ⟨d, e, _⟩ | ⟨l, el, hl, _, hls, hlm⟩
      · subst e; cases oy
      · by_cases hkl : k = l
        · subst hkl
          -- the same slot twice
          have : ∀ (as : List AV) (i j : Nat), i ≠ j → as[i]? = some (.sl k) → as[j]? = some (.sl k) → nodupB (slots as) = false := by
            intro as
            induction as with
            | nil => intro i j _ h; simp at h
            | cons a as ih =>
              have mem : ∀ (as : List AV) (i : Nat), as[i]? = some (.sl k) → k ∈ slots as := by
                intro as
                induction as with
                | nil => intro i h; simp at h
                | cons a as ih =>
                  intro i h
                  cases i with
                  | zero => simp at h; subst h; simp [slots]
                  | succ i =>
                    have := ih i (by simpa using h)
                    cases a with
                    | im d => simpa [slots] using this
                    | sl m => simp [slots, this]
              intro i j hij h1 h2
              cases i with
              | zero =>
                cases j with
                | zero => exact absurd rfl hij
                | succ j =>
                  simp at h1
                  subst h1
                  have := mem as j (by simpa using h2)
                  simp [slots, nodupB, this]
              | succ i =>
                cases j with
                | zero =>
                  simp at h2
                  subst h2
                  have := mem as i (by simpa using h1)
                  simp [slots, nodupB, this]
                | succ j =>
                  have := ih i j (fun z => hij (by rw [z])) (by simpa using h1) (by simpa using h2)
                  cases a with
                  | im d => simpa [slots] using this
                  | sl m => simp [slots, nodupB, this]
          rw [this as i j hij ek el] at hn
          cases hn
        · exact rr.ds k l x y p hkl hk hl ox oy hks hls
theorem call_post {Hf' H' : Hp} {args' : List Sl} (rr : RR F Hf G σ H ρ) (ha : avsOk F.T Hf σ vs as) (hr : resolve ρ as = some args) (hn : nodupB (slots as) = true) (hl : args'.length = args.length)
    (s : Same Hf Hf') (fz : Same Hf' H') (fg : Same (gc Hf H (passedT F.T.tb σ as)) H') (dj : ∀ b o, gc Hf H (passedT F.T.tb σ as) b = some o → Hf' b = none) (tf : TabF F.T Hf' (gc Hf H (passedT F.T.tb σ as)) H')
    (hp : ∀ (i : Nat) p x x', args[i]? = some x → owns x = true → vs[i]? = some (.ref p) → args'[i]? = some x' → SlOk F.T Hf' (gc Hf H (passedT F.T.tb σ as)) H' (some (some (.ref p))) x') : RR F Hf' G σ H' (back ρ as args') := by
  have hlen := res_len hr
  have hG : ∀ b o, G b = some o → gc Hf H (passedT F.T.tb σ as) b = some o := fun b o e => gc_in (rr.dj b o e) (not_passed (rr.tb.notG e) fun ⟨j, hj, hs⟩ => by
    obtain ⟨i, ei⟩ := slots_mem hj
    have hi : i < args.length := by rw [hlen]; exact lt_of_get ei
    have hv : i < vs.length := by rw [← avs_len ha]; exact lt_of_get ei
    rcases res_get hr ha i _ _ (List.getElem?_eq_getElem hv) (List.getElem?_eq_getElem hi) with ⟨d, _, _, e2⟩ | ⟨k, e2, hk, ho, hks, _⟩
    · rw [ei] at e2; cases e2
    · rw [ei] at e2
      cases e2
      have := (rr.own hk ho hs).2.1
      rw [e] at this; cases this) (rr.fg b o e)
  -- a slot behind the call
  have slot : ∀ (j : Nat) y, (back ρ as args')[j]? = some y → SlOk F.T Hf' G H' σ[j]? y ∧ (owns y = true → ∃ x, ρ[j]? = some x ∧ owns x = true) := fun j y e => by
    rcases back_get (by rw [hl]; exact hlen) hn e with ⟨hj, e⟩ | ⟨i, ei, ey⟩
    · refine ⟨?_, fun ho => ⟨y, e, ho⟩⟩
      have h := rr.sl j y e
      have out : ∀ p u, owns y = true → σ[j]? = some (some (.ref p)) → H p = some u → gc Hf H (passedT F.T.tb σ as) p = some u := fun p u ho hs hu => gc_in (rr.own e ho hs).1 (not_passed (rr.ownT e ho hs) fun ⟨k, hk, hks⟩ => by
        obtain ⟨i, ei⟩ := slots_mem hk
        have hi : i < args.length := by rw [hlen]; exact lt_of_get ei
        have hv : i < vs.length := by rw [← avs_len ha]; exact lt_of_get ei
        rcases res_get hr ha i _ _ (List.getElem?_eq_getElem hv) (List.getElem?_eq_getElem hi) with ⟨d, _, _, e2⟩ | ⟨k', e2, hk', ho', _, _⟩
        · rw [ei] at e2; cases e2
        · rw [ei] at e2
          cases e2
          have hjk : j ≠ k := fun z => hj (z ▸ hk)
          exact rr.ds j k y _ p hjk e hk' ho ho' hs hks) hu
      refine (h.at fun p u ho hs hu => fg p u (out p u ho hs hu)).fz s fun p ho hs => ?_
      obtain ⟨_, _, u, hu⟩ := rr.own e ho hs
      exact dj p u (out p u ho hs hu)
    · have hi : i < args.length := by rw [← hl]; exact lt_of_get ey
      have hv : i < vs.length := by rw [← avs_len ha]; exact lt_of_get ei
      rcases res_get hr ha i _ _ (List.getElem?_eq_getElem hv) (List.getElem?_eq_getElem hi) with ⟨d, _, _, e2⟩ | ⟨k, e2, hk, ho, hks, hkm⟩
      · rw [ei] at e2; cases e2
      · rw [ei] at e2
        cases e2
        refine ⟨?_, fun _ => ⟨_, hk, ho⟩⟩
        have hsl := rr.sl j _ hk
        have href : ∃ p, vs[i] = .ref p := by
          rw [hks] at hsl
          generalize args[i] = x at *
          cases x with
          | un => cases ho
          | im d => cases ho
          | ml ds => obtain ⟨q, us, a, _⟩ := hsl; exact ⟨q, Option.some.inj (Option.some.inj a)⟩
          | md kvs => obtain ⟨q, a, _⟩ := hsl; exact ⟨q, Option.some.inj (Option.some.inj a)⟩
          | mi c fs => obtain ⟨q, _, _, _, a, _⟩ := hsl; exact ⟨q, Option.some.inj (Option.some.inj a)⟩
        obtain ⟨p, ep⟩ := href
        rw [ep] at hks
        have q := hp i p _ y (List.getElem?_eq_getElem hi) ho (by rw [List.getElem?_eq_getElem hv, ep]) ey
        rw [hks]
        have g0 : G p = none := (rr.own hk ho hks).2.1
        cases y with
        | un => trivial
        | im d => exact q
        | ml ds => obtain ⟨z, us, a, b, c, d, r⟩ := q; cases a; exact ⟨p, us, rfl, b, g0, d, r⟩
        | md kvs => obtain ⟨z, a, b, c, d⟩ := q; cases a; exact ⟨p, rfl, b, g0, d⟩
        | mi c fs => obtain ⟨z, C, dx, us, a, b, c1, d⟩ := q; cases a; exact ⟨p, C, dx, us, rfl, b, g0, d⟩
  refine ⟨fz, fun b o e => fg b o (hG b o e), fun b o e => dj b o (hG b o e), by rw [back_len]; exact rr.len, fun j y e => (slot j y e).1, fun i j x y p hij ex ey ox oy hx hy => ?_, rr.kp, fun q hq => ⟨(tf q hq).1, (rr.tb q hq).2.1, (tf q hq).2.2⟩⟩
  obtain ⟨a, ea, oa⟩ := (slot i x ex).2 ox
  obtain ⟨b, eb, ob⟩ := (slot j y ey).2 oy
  exact rr.ds i j a b p hij ea eb oa ob hx hy
end
/-- a def of the text: its promise, where it stands -/
structure Has (T : Wd) (x : Str) (k : Nat) (F : List Sl → Res D) : Prop where
  ex : ∃ f fd ps, FnOk T.P T.w T.K T.mg T.base CX0 k f fd ps (fsp T F) ∧ T.mg x = some (.ref f) ∧ PySem.W.keepIn T.K (.ref f) = true ∧ Binds T.K fd ps []
structure HasO (T : Wd) (x : Str) (k : Nat) (F : List Sl → Res (List D)) : Prop where
  ex : ∃ f fd ps, FnOk T.P T.w T.K T.mg T.base CX0 k f fd ps (fspO T F) ∧ T.mg x = some (.ref f) ∧ PySem.W.keepIn T.K (.ref f) = true ∧ Binds T.K fd ps []
section
variable {C : DC} {n : Nm} {pos : Pos}
theorem back_nil {ρ : Rho} {as : List AV} {xs : List Sl} (h : slots as = []) : back ρ as xs = ρ := by
  induction as generalizing xs with
  | nil => unfold back; rfl
  | cons a as ih =>
    cases a with
    | im d =>
      cases xs with
      | nil => unfold back; rfl
      | cons x xs => unfold back; exact ih h
    | sl i => cases h
theorem call_core {F : List Sl → Res D} {vs : List V} {as : List AV} {σ : St} {H1 Hf1 G : Hp} {ρ1 : Rho} {Q : VK} (r1 : RR C.F Hf1 G σ H1 ρ1) (ra : avsOk C.T Hf1 σ vs as) (p1 : Post C (relE C.T) Hf1 G σ Q (callM F as ρ1)) : fsp C.T F vs H1 Q (fun cls d H => C.W cls d σ H) := by
  unfold callM at p1
  cases hr : resolve ρ1 as with
  | none => simp only [hr] at p1; exact p1.elim
  | some args =>
    simp only [hr] at p1
    by_cases hn : nodupB (slots as) = true
    · rw [if_pos hn] at p1
      obtain ⟨c1, c2⟩ := call_pre r1 ra hr hn
      refine ⟨Hf1, gc Hf1 H1 (passedT C.tb σ as), args, r1.fz, fun b o e => (gc_out e).2.2, fun b o e => (gc_out e).1, r1.tb.gc σ as, by rw [res_len hr, avs_len ra], c1, c2, ?_⟩
      cases e : F args with
      | ok d args' =>
        simp only [e] at p1
        by_cases hl : args'.length = args.length
        · rw [if_pos hl] at p1
          exact fun v H' Hf' s fz fg dj tf rv hp => p1 v H' Hf' s (call_post r1 ra hr hn hl s fz fg dj tf hp) rv
        · rw [if_neg hl] at p1; exact p1.elim
      | ex x r =>
        simp only [e] at p1
        by_cases hs : (slots as).isEmpty = true
        · rw [if_pos hs] at p1
          have hs' : slots as = [] := by simpa using hs
          intro cls dd H' Hf' s fz fg dj tf xr
          refine p1 cls dd H' Hf' s ?_ xr
          have := call_post (args' := args) r1 ra hr hn rfl s fz fg dj tf fun i p x x' ex ox hv ex' => by
            rcases res_get hr ra i _ x hv ex with ⟨d, e, _⟩ | ⟨k, _, _, _, _, hkm⟩
            · subst e; cases ox
            · rw [hs'] at hkm; cases hkm
          rw [back_nil hs'] at this
          exact this
        · rw [if_neg hs] at p1; exact p1.elim
      | no => simp only [e] at p1; exact p1.elim
    · rw [if_neg hn] at p1; exact p1.elim
theorem lft_call {F : List Sl → Res D} {m : M (List AV)} : ∀ σ H Q, Lft C (relE C.T) (bnd m (callM F)) σ H Q → tCall (fsp C.T F) [] (fun cls d H => C.W cls d σ H) (Lft C (relV C.T) m) σ H Q := fun σ H Q ⟨Hf, G, ρ, rr, h⟩ => post_bind rr h fun vs as H1 Hf1 ρ1 s1 r1 ra p1 => by
  rw [List.append_nil]
  exact call_core r1 ra p1
theorem fsp_noE {T : Wd} {F : List Sl → Res D} {vs : List V} {H : Hp} {Q : VK} {E : XK} (hne : ∀ args e r, F args ≠ .ex e r) (h : fsp T F vs H Q E) : fsp T F vs H Q E0 := by
  obtain ⟨Hf, G, args, a1, a2, a3, a4, a5, a6, a7, h⟩ := h
  refine ⟨Hf, G, args, a1, a2, a3, a4, a5, a6, a7, ?_⟩
  cases e : F args with
  | ok d args' => rw [e] at h; exact h
  | ex x r => exact absurd e (hne _ _ _)
  | no => rw [e] at h; exact h
/-- a call of a def that raises nothing -/
def noEx (F : List Sl → Res D) (args : List Sl) : Res D := match F args with
  | .ex _ _ => .no
  | r => r
theorem de_call {x : Str} {p : Pos} {e : Expr} {es : List Expr} {k : Nat} {F : List Sl → Res D} {m : M (List AV)} (S : Sc C n) (j : Nat) (hj : n.gs[j]? = some x) (h : Has C.T x k F) (hk : k ≤ n.lv) (hne : ∀ args e r, F args ≠ .ex e r) (ha : DV C (e :: es) m) :
    DE C (.Call (.Name x p) (e :: es) [] pos) (bnd m (callM F)) := by
  obtain ⟨f, fd, ps, hf, hm, hkp, hb⟩ := h.ex
  have hok := ha.ok
  rw [List.all_cons, Bool.and_eq_true] at hok
  refine ⟨PE.imp (pe_call hf (S.room.mono hk) (S.gl hj).1 hm hkp hb .nil pass0 ha.pa (plB_d (S.gl hj).2).1 (star_ok hok.1 _ _) (all_star hok.2)) fun σ H Q hh => ?_, rfl⟩
  obtain ⟨Hf, G, ρ, rr, z⟩ := lft_call σ H Q hh
  refine ⟨Hf, G, ρ, rr, ?_⟩
  cases em : m ρ with
  | ok as ρ1 => rw [em] at z; exact fun vs H1 Hf1 s1 r1 ra => fsp_noE hne (z vs H1 Hf1 s1 r1 ra)
  | ex x ρ1 => rw [em] at z; exact z
  | no => rw [em] at z; exact z
theorem de_call0 {x : Str} {p : Pos} {k : Nat} {F : List Sl → Res D} (S : Sc C n) (j : Nat) (hj : n.gs[j]? = some x) (h : Has C.T x k F) (hk : k ≤ n.lv) (hne : ∀ args e r, F args ≠ .ex e r) :
    DE C (.Call (.Name x p) [] [] pos) (bnd (ret []) (callM F)) := by
  obtain ⟨f, fd, ps, hf, hm, hkp, hb⟩ := h.ex
  refine ⟨PE.imp (pe_call0 hf (S.room.mono hk) (S.gl hj).1 hm hkp hb .nil pass0 (plB_d (S.gl hj).2).1) fun σ H Q hh => ?_, rfl⟩
  obtain ⟨Hf, G, ρ, rr, z⟩ := lft_call σ H Q hh
  exact fsp_noE hne (z [] H Hf (Same.refl _) rr rfl)
/-- .. that hands back a new list -/
theorem df_call {x : Str} {p : Pos} {e : Expr} {es : List Expr} {k : Nat} {F : List Sl → Res (List D)} {m : M (List AV)} (S : Sc C n) (j : Nat) (hj : n.gs[j]? = some x) (h : HasO C.T x k F) (hk : k ≤ n.lv) (hnx : ∀ args e r, F args ≠ .ex e r) (ha : DV C (e :: es) m) :
    DF C (.Call (.Name x p) (e :: es) [] pos) (bnd m (callM F)) := by
  obtain ⟨f, fd, ps, hf, hm, hkp, hb⟩ := h.ex
  have hok := ha.ok
  rw [List.all_cons, Bool.and_eq_true] at hok
  refine ⟨PE.imp (pe_call hf (S.room.mono hk) (S.gl hj).1 hm hkp hb .nil pass0 ha.pa (plB_d (S.gl hj).2).1 (star_ok hok.1 _ _) (all_star hok.2)) fun σ H Q ⟨Hf, G, ρ, rr, h⟩ => ?_, rfl⟩
  refine post_bind rr h fun vs as H1 Hf1 ρ1 s1 r1 ra p1 => ?_
  rw [List.append_nil]
  unfold callM at p1
  cases hr : resolve ρ1 as with
  | none => simp only [hr] at p1; exact p1.elim
  | some args =>
    simp only [hr] at p1
    by_cases hn : nodupB (slots as) = true
    · rw [if_pos hn] at p1
      obtain ⟨c1, c2⟩ := call_pre r1 ra hr hn
      refine ⟨Hf1, gc Hf1 H1 (passedT C.tb σ as), args, r1.fz, fun b o e => (gc_out e).2.2, fun b o e => (gc_out e).1, r1.tb.gc σ as, by rw [res_len hr, avs_len ra], c1, c2, ?_⟩
      cases e : F args with
      | ok d args' =>
        simp only [e] at p1
        by_cases hl : args'.length = args.length
        · rw [if_pos hl] at p1
          intro q vq H' Hf' s fz fg dj tf hq gq hne hHq rq hp
          refine p1 (.ref q) H' Hf' s (call_post r1 ra hr hn hl s fz fg dj tf hp) ⟨q, vq, rfl, ⟨hq, ?_, ?_⟩, hHq, rq⟩
          · cases eg : G q with
            | none => rfl
            | some o =>
              have : gc Hf1 H1 (passedT C.tb σ as) q = some o := gc_in (r1.dj q o eg) (not_passed (r1.tb.notG eg) fun ⟨j, hj, hs⟩ => by
                obtain ⟨i, ei⟩ := slots_mem hj
                have hi : i < args.length := by rw [res_len hr]; exact lt_of_get ei
                have hv : i < vs.length := by rw [← avs_len ra]; exact lt_of_get ei
                rcases res_get hr ra i _ _ (List.getElem?_eq_getElem hv) (List.getElem?_eq_getElem hi) with ⟨d, _, _, e2⟩ | ⟨k, e2, hk, ho, hks, _⟩
                · rw [ei] at e2; cases e2
                · rw [ei] at e2
                  cases e2
                  have := (r1.own hk ho hs).2.1
                  rw [eg] at this; cases this) (r1.fg q o eg)
              rw [gq] at this; cases this
          · intro i x ex ox hs
            have hlen := res_len hr
            rcases back_get (by rw [hl]; exact hlen) hn ex with ⟨hj, e3⟩ | ⟨i', ei, ey⟩
            · obtain ⟨h1, h2, u, hu⟩ := r1.own e3 ox hs
              have : gc Hf1 H1 (passedT C.tb σ as) q = some u := gc_in h1 (not_passed (r1.ownT e3 ox hs) fun ⟨k, hk, hks⟩ => by
                obtain ⟨i', ei⟩ := slots_mem hk
                have hi : i' < args.length := by rw [hlen]; exact lt_of_get ei
                have hv : i' < vs.length := by rw [← avs_len ra]; exact lt_of_get ei
                rcases res_get hr ra i' _ _ (List.getElem?_eq_getElem hv) (List.getElem?_eq_getElem hi) with ⟨d, _, _, e2⟩ | ⟨k', e2, hk', ho', _, _⟩
                · rw [ei] at e2; cases e2
                · rw [ei] at e2
                  cases e2
                  have hjk : i ≠ k := fun z => hj (z ▸ hk)
                  exact r1.ds i k x _ q hjk e3 hk' ox ho' hs hks) hu
              rw [gq] at this; cases this
            · have hi : i' < args.length := by rw [← hl]; exact lt_of_get ey
              have hv : i' < vs.length := by rw [← avs_len ra]; exact lt_of_get ei
              rcases res_get hr ra i' _ _ (List.getElem?_eq_getElem hv) (List.getElem?_eq_getElem hi) with ⟨d, _, _, e2⟩ | ⟨k, e2, hk, ho, hks, hkm⟩
              · rw [ei] at e2; cases e2
              · rw [ei] at e2
                cases e2
                have hvv := Option.some.inj (Option.some.inj (hks.symm.trans hs))
                exact hne i' _ (List.getElem?_eq_getElem hi) ho (by rw [List.getElem?_eq_getElem hv, hvv])
        · rw [if_neg hl] at p1; exact p1.elim
      | ex x r => exact absurd e (hnx _ _ _)
      | no => simp only [e] at p1; exact p1.elim
    · rw [if_neg hn] at p1; exact p1.elim
theorem runF_ne {np nn : Nat} {mp : List Nat} {m : M Flow} : ∀ args e r, runF np nn mp m args ≠ .ex e r := fun args e r h => by
  unfold runF at h
  split at h
  · split at h <;> cases h
  · cases h
theorem runO_ne {np nn : Nat} {mp : List Nat} {m : M Flow} : ∀ args e r, runO np nn mp m args ≠ .ex e r := fun args e r h => by
  unfold runO at h
  split at h
  · split at h <;> cases h
  · cases h
/-! ### a list of one's own is changed -/
/-- x[k] = e -/
def siM (i : Nat) (me mk : M D) : M Flow := bnd me fun d => bnd (pk i) fun _ => bnd mk fun k => fun ρ => match ρ[i]?, k with
  | some (.ml ds), .int z => (match ixN ds.length z with
    | some j => .ok .nx (ρ.set i (.ml (ds.set j d)))
    | none => .no)
  | _, _ => .no
theorem posts_pk {σ : St} {H Hf G : Hp} {ρ : Rho} {i : Nat} {f : D → M Flow} {E : Ends} (rr : RR C.F Hf G σ H ρ) (h : PostS C E Hf G (bnd (pk i) f ρ)) : ∃ d v, σ[i]? = some (some v) ∧ RpT C.T Hf H d v ∧ PostS C E Hf G (f d ρ) := by
  unfold bnd at h
  cases e : pk i ρ with
  | ok d ρ' =>
    rw [e] at h
    obtain ⟨e2, v, hv, r⟩ := pk_some rr e
    subst e2
    exact ⟨d, v, hv, r, h⟩
  | ex x ρ' =>
    unfold pk at e
    split at e <;> cases e
  | no => rw [e] at h; exact h.elim
theorem asg_ok {k : Expr} (hk : okE k = true) (o : Expr) (p : Pos) (env : Env) (v : Value) : assign (.Subscript o k p) env v = (do
      let ov ← holding [v] (eval o env)
      let iv ← holding [v, ov] (eval k env)
      standAt p
      holding [v, ov, iv] (setItem ov iv v)
      release [v, ov, iv] []) := by
  cases k <;> first | rfl | exact Bool.noConfusion hk
theorem ds_si {x : Str} {px p2 : Pos} {e k : Expr} {me mk : M D} (S : Sc C n) (i : Nat) (hi : i ∈ n.vs) (hx : n.N[i]? = some x) (he : DE C e me) (hk : DE C k mk) (hl : noLc e = true) : DS C (.Assign [.Subscript (.Name x px) k p2] e pos) (siM i me mk) :=
  ⟨PS.imp (ps_asg he.pe (pg_sub (pv_ok S i hi hx) hk.pe set_list (fun v => asg_ok hk.ok _ _ _ _)) (sws_ok he.ok hl _ _ _) (by cases e <;> rfl) rfl) fun E σ H ⟨Hf, G, ρ, rr, h⟩ => posts_bind rr h fun v d H1 Hf1 ρ1 s1 r1 rv p1 => by
    obtain ⟨_, u, hu, _, p1⟩ := posts_pk r1 p1
    refine ⟨u, hu, ?_⟩
    refine posts_bind r1 p1 fun kv kd H2 Hf2 ρ2 s2 r2 rk p2 => ?_
    split at p2
    · rename_i ds z e1
      split at p2
      · rename_i j hj
        have hs := r2.sl i _ e1
        rw [hu] at hs
        obtain ⟨q, us, a, b, c, hq, ra⟩ := hs
        cases a
        have ek : kv = .int z := by simpa only [Rp] using rk
        refine ⟨q, us, z, j, rfl, ek, hq, by rw [RpA.length ra]; exact hj, ?_⟩
        exact p2 σ _ Hf2 (Same.refl _) (r2.wr (y := .ml (ds.set j d)) e1 rfl hu ⟨q, _, rfl, b, c, upd_same, RpA.set j ra (Rp.mono s2 _ _ rv)⟩)
      · exact p2.elim
    · exact p2.elim⟩
/-- x.append(e) -/
def apM (i : Nat) (me : M D) : M Flow := bnd (pkL i) fun _ => bnd me fun d => fun ρ => match ρ[i]? with
  | some (.ml ds) => if ds.length < sizeLine then .ok .nx (ρ.set i (.ml (ds ++ [d]))) else .no
  | _ => .no
where pkL (i : Nat) : M Unit := fun ρ => match ρ[i]? with
  | some (.ml _) => .ok () ρ
  | _ => .no
theorem posts_pkL {σ : St} {H Hf G : Hp} {ρ : Rho} {i : Nat} {f : Unit → M Flow} {E : Ends} (rr : RR C.F Hf G σ H ρ) (h : PostS C E Hf G (bnd (apM.pkL i) f ρ)) : ∃ q us, σ[i]? = some (some (.ref q)) ∧ H q = some (.lst us) ∧ PostS C E Hf G (f () ρ) := by
  unfold bnd apM.pkL at h
  cases e : ρ[i]? with
  | none => simp only [e] at h; exact h.elim
  | some x =>
    cases x with
    | ml ds =>
      simp only [e] at h
      obtain ⟨q, us, a, b, c, hq, ra⟩ := rr.sl i _ e
      exact ⟨q, us, a, hq, h⟩
    | un => simp only [e] at h; exact h.elim
    | im d => simp only [e] at h; exact h.elim
    | md d => simp only [e] at h; exact h.elim
    | mi c d => simp only [e] at h; exact h.elim
theorem few_ok {e : Expr} {cpos : Pos} (he : okE e = true) : ((backTo cpos (starEach [e] C.X.env)).all (fun x => !x.1) && (backToKw cpos (keywordEach [] C.X.env)).all (fun x => x.1.isSome)
      && decide ([e].length + ([] : List Keyword).length + (if ([] : List Keyword).isEmpty then 0 else 1) < 30)) = true := by
  rw [star_ok he]; rfl
theorem ds_app {x : Str} {px ap cp : Pos} {e : Expr} {me : M D} (S : Sc C n) (i : Nat) (hi : i ∈ n.vs) (hx : n.N[i]? = some x) (he : DE C e me) (hline : (ap.endLine == cp.line) = true) : DS C (.Expr (.Call (.Attribute (.Name x px) "append" ap) [e] [] cp) pos) (apM i me) :=
  ⟨PS.imp (ps_expr (pe_bm PySem.F.plainAttrs_list PySem.F.slot_list_append PySem.F.type_list_append mt_append (pv_ok S i hi hx) (pa_cons he.pe pa_nil (star_ok he.ok _ _)) rfl (few_ok he.ok) hline (star_ok he.ok _ _) rfl) rfl) fun E σ H ⟨Hf, G, ρ, rr, h⟩ => by
    obtain ⟨q, us, hq, hH, p⟩ := posts_pkL rr h
    refine ⟨.ref q, hq, .inl ⟨rfl, us, SqL.of hH⟩, ?_⟩
    refine posts_bind rr p fun v d H1 Hf1 ρ1 s1 r1 rv p1 => ?_
    split at p1
    · rename_i ds e1
      split at p1
      · rename_i hl
        have hs := r1.sl i _ e1
        rw [hq] at hs
        obtain ⟨q', ws, a, b, c, hq', ra⟩ := hs
        cases a
        refine ⟨q, ws, v, rfl, rfl, hq', by rw [RpA.length ra]; exact hl, ?_⟩
        exact p1 σ _ Hf1 (Same.refl _) (r1.wr (y := .ml (ds ++ [d])) e1 rfl hq ⟨q, _, rfl, b, c, upd_same, RpA.append ra (RpA.cons rv RpA.nil)⟩)
      · exact p1.elim
    · exact p1.elim⟩
/-- x op= e of numbers -/
def auM (g : D → D → Option D) (i : Nat) (me : M D) : M Flow := bnd (pk i) fun x => bnd me fun y => bnd (opt (g x y)) fun z => fun ρ => .ok .nx (ρ.set i (.im z))
def addI : D → D → Option D
  | .int i, .int j => some (.int (i + j))
  | _, _ => none
theorem ds_aug {op : Operator} {k : Int → Int → Int} {g : D → D → Option D} {x : Str} {px : Pos} {e : Expr} {me : M D} (ho : PIp C.X op (ipI k)) (hg : ∀ a b d, g a b = some d → ∃ i j, a = .int i ∧ b = .int j ∧ d = .int (k i j)) (S : Sc C n) (i : Nat) (hi : i ∈ n.ws) (hx : n.N[i]? = some x) (he : DE C e me) : DS C (.AugAssign (.Name x px) op e pos) (auM g i me) :=
  ⟨PS.imp (ps_aug (by rw [S.hN]; exact S.nd) (by rw [S.hN]; exact hx) (S.loc hi hx).1 he.pe ho (S.loc hi hx).2) fun E σ H ⟨Hf, G, ρ, rr, h⟩ => by
    obtain ⟨a, u, hu, ru, p1⟩ := posts_pk rr h
    refine ⟨u, hu, ?_⟩
    refine posts_bind rr p1 fun v b H2 Hf2 ρ2 s2 r2 rv p2 => ?_
    unfold bnd at p2
    cases eg : g a b with
    | none => simp only [eg] at p2; exact p2.elim
    | some z =>
      simp only [eg] at p2
      obtain ⟨i1, j1, rfl, rfl, rfl⟩ := hg _ _ _ eg
      refine ⟨i1, j1, rpt_int ru, by simpa only [Rp] using rv, ?_⟩
      exact p2 _ H2 Hf2 (Same.refl _) (r2.set (S.mpo i hi) (rp_int _))⟩
theorem ds_augAdd {x : Str} {px : Pos} {e : Expr} {me : M D} (S : Sc C n) (i : Nat) (hi : i ∈ n.ws) (hx : n.N[i]? = some x) (he : DE C e me) : DS C (.AugAssign (.Name x px) .Add e pos) (auM addI i me) :=
  ds_aug ip_add (fun a b d h => by unfold addI at h; split at h <;> cases h; exact ⟨_, _, rfl, rfl, rfl⟩) S i hi hx he
theorem ds_augSub {x : Str} {px : Pos} {e : Expr} {me : M D} (S : Sc C n) (i : Nat) (hi : i ∈ n.ws) (hx : n.N[i]? = some x) (he : DE C e me) : DS C (.AugAssign (.Name x px) .Sub e pos) (auM subD i me) :=
  ds_aug ip_sub (fun a b d h => by unfold subD at h; split at h <;> cases h; exact ⟨_, _, rfl, rfl, rfl⟩) S i hi hx he
/-! ### a module's constant -/
theorem de_glob {x : Str} {p : Pos} {d : D} (S : Sc C n) (j : Nat) (hj : n.gs[j]? = some x) (h : ∃ u v, C.T.mg x = some u ∧ RelV v u ∧ ∀ Hf, Rp C.T Hf d v) : DE C (.Name x p) (ret d) := by
  obtain ⟨u, v, hm, r, hr⟩ := h
  exact ⟨PE.imp (pe_glob (S.gl hj).1 hm r (plB_d (S.gl hj).2).1) (lft_ret hr), rfl⟩
/-! ### a number turned about -/
def negD : D → Option D
  | .int i => some (.int (-i))
  | _ => none
theorem de_neg {a : Expr} {ma : M D} (ha : DE C a ma) : DE C (.UnaryOp .USub a pos) (c1 negD ma) :=
  ⟨PE.imp (pe_un un_neg ha.pe) fun σ H Q ⟨Hf, G, ρ, rr, h⟩ => post_bind rr h fun x d H1 Hf1 ρ1 s1 r1 rx p1 => (by
    obtain ⟨z, e, q⟩ := opt_post p1
    unfold negD at e
    split at e
    · rename_i i
      cases e
      exact ⟨i, by simpa only [Rp] using rx, q _ H1 Hf1 (Same.refl _) r1 (rp_int _)⟩
    · cases e), rfl⟩
end
end DS
namespace DS
open PySem L2
section
variable {C : DC} {n : Nm} {pos : Pos} {elt tg iter : Expr} {ifs : List Expr} {sc scope : Scope} {own : List (Str × Nat)} {vs ws : List Nat} {gs bs : List Str} {mi : M (List D)} {f : D → M Unit} {t : M Bool} {el : M D}
/-- name = [..] -/
theorem ds_lcO {i : Nat} {y : Str} {py spos : Pos} (S : Sc C n) (hi' : i ∈ n.ws) (hl' : i ∈ n.ls) (hx : n.N[i]? = some y) (hsw : swB scope y py.line pos.line = true) (L : LkSc C sc)
    (hb : blB n sc scope own vs gs bs = true) (hi : DI C tg iter mi)
    (hg : ∀ C', Sc C' (n.sub vs (own.map (·.2)) gs bs) → LkSc C' scope → DG C' tg ws f) (ht : ∀ C', Sc C' (n.sub vs (own.map (·.2)) gs bs) → LkSc C' scope → DTs C' ifs t) (he : ∀ C', Sc C' (n.sub vs (own.map (·.2)) gs bs) → LkSc C' scope → DE C' elt el) (hw : ws.all (fun i => (own.map (·.2)).contains i) = true) :
    DS C (.Assign [.Name y py] (.ListComp elt [⟨tg, iter, ifs, 0⟩] scope pos) spos) (soM (lcM (own.map (·.2)) mi f t el) i) :=
  ⟨PS.imp (ps_lc S hi' hx (S.lcl hl' hx) S.kd hsw L hb hi hg ht he hw) (so_asg S hi')⟩
def sfM (m : M (List D)) (i : Nat) : M Flow := bnd m fun ds => fun ρ => .ok .nx (ρ.set i (.im (.list ds)))
theorem sf_asg (S : Sc C n) {i : Nat} (hi : i ∈ n.ws) {m : M (List D)} : ∀ E σ H, LS C (sfM m i) E σ H → tAsg (Lft C (relF C.T) m) (gName i) E σ H := fun E σ H ⟨Hf, G, ρ, rr, h⟩ => posts_bind rr h fun v ds H1 Hf1 ρ1 s r1 ⟨p, vs, e, f, hp, ra⟩ q => by
  subst e
  exact q _ H1 _ (Same.updN f.1) ((r1.freeze hp f.1 f.2.1 f.2.2 (r1.tb.ne hp fun ps z => by cases z)).set (S.mpo i hi) (rp_list (SqL.of upd_same) (RpA.mono (Same.updN f.1) _ _ ra)))
theorem ds_lc {i : Nat} {y : Str} {py spos : Pos} (S : Sc C n) (hi' : i ∈ n.ws) (hl' : i ∈ n.ls) (hx : n.N[i]? = some y) (hsw : swB scope y py.line pos.line = true) (L : LkSc C sc)
    (hb : blB n sc scope own vs gs bs = true) (hi : DI C tg iter mi)
    (hg : ∀ C', Sc C' (n.sub vs (own.map (·.2)) gs bs) → LkSc C' scope → DG C' tg ws f) (ht : ∀ C', Sc C' (n.sub vs (own.map (·.2)) gs bs) → LkSc C' scope → DTs C' ifs t) (he : ∀ C', Sc C' (n.sub vs (own.map (·.2)) gs bs) → LkSc C' scope → DE C' elt el) (hw : ws.all (fun i => (own.map (·.2)).contains i) = true) :
    DS C (.Assign [.Name y py] (.ListComp elt [⟨tg, iter, ifs, 0⟩] scope pos) spos) (sfM (lcM (own.map (·.2)) mi f t el) i) :=
  ⟨PS.imp (ps_lc S hi' hx (S.lcl hl' hx) S.kd hsw L hb hi hg ht he hw) (sf_asg S hi')⟩
/-- name = [..], the name captured elsewhere (a cell): an ordinary store -/
theorem sw_cell {e : Expr} {y : Str} {py : Pos} {l : Nat} {env : Env} (hy : env.scope.names.lookup y = some .cell) : swapsWith e (some (.Name y py)) l env = pure false := by
  have ky : env.kindOf y = some .cell := hy
  have hb : (some NameKind.cell == some NameKind.local) = false := rfl
  unfold swapsWith
  split
  · simp only [ky, hb, Bool.and_false, Bool.false_and]
  · rfl
theorem ds_setFc {e : Expr} {m : M (List D)} {x : Str} {px : Pos} (S : Sc C n) (i : Nat) (hi : i ∈ n.ws) (hx : n.N[i]? = some x) (h : DF C e m) (hc : i ∈ n.cs) : DS C (.Assign [.Name x px] e pos) (soM m i) :=
  ⟨PS.imp (ps_asg h.pe (pg_ok S i hi hx) (show swapsWithSole [.Name x px] e pos.line C.X.env = pure false from sw_cell (l := pos.line) (S.cel hc hx)) (by cases e <;> rfl) rfl) (so_asg S hi)⟩
theorem ds_setfc {e : Expr} {m : M (List D)} {x : Str} {px : Pos} (S : Sc C n) (i : Nat) (hi : i ∈ n.ws) (hx : n.N[i]? = some x) (h : DF C e m) (hc : i ∈ n.cs) : DS C (.Assign [.Name x px] e pos) (sfM m i) :=
  ⟨PS.imp (ps_asg h.pe (pg_ok S i hi hx) (show swapsWithSole [.Name x px] e pos.line C.X.env = pure false from sw_cell (l := pos.line) (S.cel hc hx)) (by cases e <;> rfl) rfl) (sf_asg S hi)⟩
/-! ### a, b = x, y -/
def paM (i j : Nat) (m : M (List D)) : M Flow := bnd m fun ds => match ds with
  | [d, e] => fun ρ => .ok .nx ((ρ.set i (.im d)).set j (.im e))
  | _ => stop
theorem swap_ok {x y : Str} {px py pt pt2 : Pos} {kt k2 : Nat} {a b : Expr} {env : Env} (hk : env.scope.kind = .function) (hx : env.scope.names.lookup x = some .local) (hy : env.scope.names.lookup y = some .local) (hl : (py.line == px.line) = true) (hxy : (x == y) = false)
    (ha : okE a = true) (hb : okE b = true) (h1 : [a, b].all (foldedForSure 8) = false) (h2 : [a, b].all (constantsAlone 8) = false) : swappedStores [.Tuple [.Name x px, .Name y py] kt pt] (.Tuple [a, b] k2 pt2) env = pure (some [x, y]) := by
  have kx : env.kindOf x = some .local := hx
  have ky : env.kindOf y = some .local := hy
  have hbk : env.blockKind = .function := by unfold Env.blockKind; rw [hk]; rfl
  have hyx : (y == x) = false := by rw [beq_eq_false_iff_ne] at hxy ⊢; exact Ne.symm hxy
  have hed : [x, y].eraseDups = [x, y] := by
    have h0 : (!y == x) = true := by rw [hyx]; rfl
    rw [List.eraseDups_cons]
    simp only [List.filter_cons, h0, if_true, List.filter_nil]
    rw [List.eraseDups_cons]
    rfl
  have b0 : (some NameKind.local == some NameKind.local) = true := rfl
  have l0 : (px.line == px.line) = true := by simp
  unfold swappedStores
  simp only [hbk, List.length_cons, List.length_nil, List.head?_cons, Option.map_some, Option.getD_some, Expr.pos]
  simp only [List.filterMap_cons, List.filterMap_nil, kx, ky, hl, l0, b0, Bool.and_self, if_true]
  rw [if_neg (by decide)]
  split
  · rename_i h
    exfalso
    simp only [List.any_cons, List.any_nil, Bool.or_false, Bool.or_eq_true] at h
    rcases h with h | h
    · exact absurd h (by cases a <;> first | exact Bool.false_ne_true | exact Bool.noConfusion ha)
    · exact absurd h (by cases b <;> first | exact Bool.false_ne_true | exact Bool.noConfusion hb)
  · rw [hed, if_neg (by simp), h1, h2]
    rw [if_neg (by decide), if_neg (by decide)]
theorem ds_par {i j : Nat} {x y : Str} {a b : Expr} {m : M (List D)} {px py pt pt2 : Pos} {kt k2 : Nat} (S : Sc C n) (hi : i ∈ n.ws) (hj : j ∈ n.ws) (li : i ∈ n.ls) (lj : j ∈ n.ls) (hx : n.N[i]? = some x) (hy : n.N[j]? = some y) (hij : i ≠ j) (hl : (py.line == px.line) = true) (hxy : (x == y) = false)
    (ha : DA C [a, b] m) (oa : okE a = true) (ob : okE b = true) (h1 : [a, b].all (foldedForSure 8) = false) (h2 : [a, b].all (constantsAlone 8) = false) : DS C (.Assign [.Tuple [.Name x px, .Name y py] kt pt] (.Tuple [a, b] k2 pt2) pos) (paM i j m) :=
  ⟨PS.imp (ps_par S.calm (by rw [S.hN]; exact S.nd) (by rw [S.hN]; exact hx) (by rw [S.hN]; exact hy) hij (S.lcl li hx) (S.lcl lj hy) ha.pa (swap_ok S.kd (S.lcl li hx) (S.lcl lj hy) hl hxy oa ob h1 h2) rfl) fun E σ H ⟨Hf, G, ρ, rr, h⟩ => posts_bind rr h fun vs ds H1 Hf1 ρ1 s1 r1 ra p1 => by
    match ds, ra, p1 with
    | [d, e], ra, p1 =>
      obtain ⟨v, r, e1, q1, z⟩ := RpA.uncons ra
      obtain ⟨w, r', e2, q2, z'⟩ := RpA.uncons z
      rw [RpA.unnil z'] at e2
      subst e1 e2
      exact ⟨v, w, rfl, p1 _ H1 Hf1 (Same.refl _) ((r1.set (S.mpo i hi) q1).set (S.mpo j hj) q2)⟩
    | [], ra, p1 => exact p1.elim
    | [_], ra, p1 => exact p1.elim
    | _ :: _ :: _ :: _, ra, p1 => exact p1.elim⟩
/-! ### sorted -/
theorem each_reads {X : Cx} {pins : List (Addr × Obj)} {σ : St} {H : Hp} {s : Shared} (I : Inv X pins σ H s) : ∀ {ds : List D} {vs : List V} {us : List Value}, DpAll X.K H vs ds → Vals vs us → PySem.W.EachIs (fun v b => ∃ as, Reads s.heap v b as) us ds
  | [], _, _, h, r => by cases h; cases r; exact .nil
  | d :: ds, _, _, h, r => by
    cases h with
    | cons h1 h2 =>
      cases r with
      | cons r1 r2 => exact .cons (Dp.reads I d _ _ h1 r1) (each_reads I h2 r2)
theorem dpall_of {K : PySem.W.Frag} {H : Hp} : ∀ {vs : List V} {ds : List D} {us : List Value} , DpAll K H vs ds → Vals vs us → us.length = ds.length
  | _, _, _, .nil, .nil => rfl
  | _, _, _, .cons _ h, .cons _ r => by simp [dpall_of h r]
/-- every item is a kind of its own; what is sorted is data all of one kind -/
def sortOk (ds : List D) : Bool := (ds.all fun d => ds.all fun e => PySem.W.alike d e) && (ds.all fun d => decide (d.depth ≤ 64)) && noObjA ds && decide (ds.length ≤ sizeLine) &&
  ((ds.all fun d => match d with | .tuple (_ :: _) => true | _ => false) || ds.all fun d => match d with | .none => false | .tuple _ => false | _ => true)
def sortL (ds : List D) : List D := ds.mergeSort (PySem.W.dataLe false id)
def sortD : D → Option (List D)
  | .list ds => if sortOk ds then some (sortL ds) else none
  | _ => none
def rSortD (K : PySem.W.Frag) : List V → Hp → VK → Prop := fun xs H Q => ∃ a vs ds, xs = [.ref a] ∧ SqL K H a vs ∧ DpAll K H vs ds ∧ sortOk ds = true ∧
  ∀ ps : List (V × D), ps.Perm (vs.zip ds) → ps.map (·.2) = sortL ds → ∀ p, H p = none → Q (.ref p) (upd H p (.lst (ps.map (·.1))))
theorem each_zip {X : Cx} {pins : List (Addr × Obj)} {σ : St} {H : Hp} {s : Shared} (I : Inv X pins σ H s) : ∀ {ds : List D} {vs : List V} {us : List Value}, DpAll X.K H vs ds → Vals vs us →
    PySem.W.EachIs (fun u (b : V × D) => RelV b.1 u) us (vs.zip ds) ∧ PySem.W.EachIs (fun u (b : V × D) => ∃ as, Reads s.heap u b.2 as) us (vs.zip ds)
  | [], _, _, h, r => by cases h; cases r; exact ⟨.nil, .nil⟩
  | d :: ds, _, _, h, r => by
    cases h with
    | cons h1 h2 =>
      cases r with
      | cons r1 r2 =>
        obtain ⟨a, b⟩ := each_zip I h2 r2
        exact ⟨.cons r1 a, .cons (Dp.reads I d _ _ h1 r1) b⟩
theorem vals_each : ∀ {us : List Value} {bs : List (V × D)}, PySem.W.EachIs (fun u (b : V × D) => RelV b.1 u) us bs → Vals (bs.map (·.1)) us
  | _, _, .nil => .nil
  | _, _, .cons h t => .cons h (vals_each t)
theorem dpall_len {K : PySem.W.Frag} {H : Hp} : ∀ {vs : List V} {ds : List D}, DpAll K H vs ds → vs.length = ds.length
  | _, _, .nil => rfl
  | _, _, .cons _ h => by simp [dpall_len h]
theorem cr_sortD {X : Cx} (hu : X.A.units + 100 < cLine) : CallR X (.builtin "sorted") (rSortD X.K) := by
  intro pins s σ H xs us Q I r h
  obtain ⟨a, vs, ds, rfl, hs, hd, ok, q⟩ := h
  obtain ⟨its, rv, hl, hz⟩ := I.list hs
  rw [Vals.ref1 r]
  obtain ⟨e1, e2⟩ := each_zip I hd rv
  have hlen := dpall_len hd
  have hzip : (vs.zip ds).map (·.2) = ds := by rw [List.map_snd_zip (by omega)]
  unfold sortOk at ok
  simp only [Bool.and_eq_true, decide_eq_true_eq, List.all_eq_true, Bool.or_eq_true] at ok
  obtain ⟨⟨⟨⟨o1, o2⟩, o3⟩, o4⟩, o5⟩ := ok
  refine PySem.W.sorted_data (bs := vs.zip ds) (enc := fun b : V × D => b.2) hl.isList e1 e2 ?_ ?_ ?_ ?_ fun out ho eo => ?_
  · show PySem.W.AllAlike ((vs.zip ds).map (·.2))
    rw [hzip]
    exact fun d h1 d' h2 => o1 d h1 d' h2
  · show PySem.W.Sortable ((vs.zip ds).map (·.2))
    rw [hzip]
    rcases o5 with o5 | o5
    · refine .inl fun d hd => ?_
      have := o5 d hd
      match d, this with
      | .tuple (x :: r), _ => exact ⟨x, r, rfl⟩
      | .tuple [], h => cases h
      | .none, h => cases h
      | .bool _, h => cases h
      | .int _, h => cases h
      | .str _, h => cases h
      | .list _, h => cases h
      | .dict _, h => cases h
    · refine .inr fun d hd => ?_
      have := o5 d hd
      refine ⟨?_, ?_⟩
      · intro z
        subst z
        exact Bool.noConfusion this
      · intro xs z
        subst z
        exact Bool.noConfusion this
  · rw [List.length_zip]; omega
  · intro b hb
    have := o2 b.2 (List.of_mem_zip hb).2
    omega
  · have hp : ((vs.zip ds).mergeSort (PySem.W.dataLe false fun b : V × D => b.2)).Perm (vs.zip ds) := List.mergeSort_perm _ _
    have hm : ((vs.zip ds).mergeSort (PySem.W.dataLe false fun b : V × D => b.2)).map (·.2) = sortL ds := by
      have h1 := List.map_mergeSort (r := PySem.W.dataLe false fun b : V × D => b.2) (s := PySem.W.dataLe false id) (f := fun b : V × D => b.2) (l := vs.zip ds) (fun _ _ _ _ => rfl)
      rw [h1, hzip]
      rfl
    obtain ⟨ep, he'⟩ := PyProof.Rows.sortedAll_at s.heap its out.toArray
    have hvl := vals_each eo
    have hlen2 : (((vs.zip ds).mergeSort (PySem.W.dataLe false fun b : V × D => b.2)).map (·.1)).length ≤ sizeLine := by
      rw [List.length_map, List.length_mergeSort, List.length_zip]; omega
    exact ⟨.ref _, upd H (s.heap.objs.size + 1) (.lst (((vs.zip ds).mergeSort (PySem.W.dataLe false fun b : V × D => b.2)).map (·.1))), I.laid (t' := s.toks) (fun _ _ => PyProof.Rows.sortedAll_old) (Nat.le_succ _) ⟨hlen2, out, ep, hvl, he'⟩, rfl, q _ hp hm _ (I.hok.fresh (Nat.le_succ _))⟩
theorem rpa_of_mem {T : Wd} {H : Hp} : ∀ (ps : List (V × D)), (∀ p ∈ ps, Rp T H p.2 p.1) → RpA T H (ps.map (·.2)) (ps.map (·.1))
  | [], _ => RpA.nil
  | p :: ps, h => RpA.cons (h p List.mem_cons_self) (rpa_of_mem ps fun q hq => h q (List.mem_cons_of_mem _ hq))
theorem rpa_zip {T : Wd} {H : Hp} : ∀ {ds : List D} {vs : List V}, RpA T H ds vs → ∀ p ∈ vs.zip ds, Rp T H p.2 p.1
  | [], vs, h, p, hp => by simp at hp
  | d :: ds, vs, h, p, hp => by
    obtain ⟨v, r, e, q, z⟩ := RpA.uncons h
    subst e
    rcases List.mem_cons.mp hp with e | hp
    · subst e; exact q
    · exact rpa_zip z p hp
def soD (m : M D) : M (List D) := bnd m fun x => opt (sortD x)
theorem df_sorted {a : Expr} {ma : M D} {p : Pos} (S : Sc C n) (j : Nat) (hj : n.bs[j]? = some ("sorted" : Str)) (ha : DK C a ma) : DF C (.Call (.Name "sorted" p) [a] [] pos) (soD ma) :=
  ⟨PE.imp (pe_callB (cr_sortD (by have := S.room.un; omega)) (S.bl hj).1 (S.bl hj).2 (by decide +kernel) (pa_cons ha.pe pa_nil (star_ok ha.ok _ _)) (by decide) (by decide) (star_ok ha.ok _ _) rfl) fun σ H Q ⟨Hf, G, ρ, rr, h⟩ => post_bind rr h fun x d H1 Hf1 ρ1 s1 r1 rx p1 => (by
    obtain ⟨z, e, q⟩ := opt_post p1
    unfold sortD at e
    split at e
    · rename_i ds
      split at e
      · rename_i ok
        cases e
        obtain ⟨a, xs, e1, sa, ra⟩ := rpt_list rx
        subst e1
        have ok' := ok
        unfold sortOk at ok'
        simp only [Bool.and_eq_true] at ok'
        have hdp := (RpA.lay ds xs (RpA.mono r1.fz _ _ ra) ok'.1.1.2).2
        refine ⟨a, xs, ds, rfl, sa, hdp, ok, fun ps hp hm => ?_⟩
        rw [← hm] at q
        exact new_own r1 (rpa_of_mem ps fun b hb => rpa_zip ra b (hp.mem_iff.mp hb)) q
      · cases e
    · cases e), rfl⟩
/-! ### a list put together, new -/
def catD : D → D → Option (List D)
  | .list a, .list b => if a.length + b.length ≤ sizeLine then some (a ++ b) else none
  | _, _ => none
def catM (ma mb : M D) : M (List D) := bnd ma fun x => bnd mb fun y => opt (catD x y)
theorem df_cat {a b : Expr} {ma mb : M D} (ha : DE C a ma) (hb : DK C b mb) : DF C (.BinOp a .Add b pos) (catM ma mb) :=
  ⟨PE.imp (pe_op op_catL ha.pe hb.pe) fun σ H Q ⟨Hf, G, ρ, rr, h⟩ => post_bind rr h fun x d H1 Hf1 ρ1 s1 r1 rx p1 => post_bind r1 p1 fun y e H2 Hf2 ρ2 s2 r2 ry p2 => (by
    obtain ⟨z, ez, q⟩ := opt_post p2
    unfold catD at ez
    split at ez
    · split at ez
      · rename_i hl
        cases ez
        obtain ⟨p1, xs, e1, sq1, ra⟩ := rpt_list (Rp.top r2.fz (Rp.mono s2 _ _ rx))
        obtain ⟨p2, ys, e2, sq2, rb⟩ := rpt_list ry
        exact ⟨p1, p2, xs, ys, e1, e2, sq1, sq2, by rw [RpA.length ra, RpA.length rb]; exact hl, new_own r2 (RpA.append ra rb) q⟩
      · cases ez
    · cases ez), rfl⟩
/-- no slot is shared with the caller -/
theorem noMp (S : Sc C n) (h : n.mp = []) : ∀ (Hf G : Hp) (σ : St) (H : Hp) (ρ : Rho) (i : Nat), RR C.F Hf G σ H ρ → i ∈ C.mp → ∃ x, ρ[i]? = some x ∧ owns x = true := fun _ _ _ _ _ i _ hi => by
  rw [S.mpe, h] at hi; cases hi
/-- a module's constant -/
def Cn (T : Wd) (x : Str) (d : D) : Prop := ∃ u v, T.mg x = some u ∧ RelV v u ∧ ∀ Hf, Rp T Hf d v
end
end DS
namespace DS
open PySem L2
/-! ### the end -/
section
variable {P : Program} {w : World} {K : PySem.W.Frag} {mg : Str → Option Value} {base : Heap} {tb : List (Addr × Str)}
theorem has_mk {x qual : Str} {sd : Stmt} {f : Addr} {fd : FuncData} {ps : List Str} {n : Nm} {m : M Flow} (F : Fun K x qual sd f fd) (hm : mg x = some (.ref f)) (hb : Binds K fd ps []) (S : FnScope n.N ps (defScope sd)) (hp : ps.length ≤ n.N.length)
    (ck : scB n (defScope sd) = true) (bno : ∀ x ∈ n.bn, mg x = none) (fs : n.fs ⟨P, w, K, mg, base, tb⟩) (hD : ∀ C, Sc C n → LkSc C (defScope sd) → DSs C (defBody sd) m) : Has ⟨P, w, K, mg, base, tb⟩ x (n.lv + 1) (runF ps.length n.N.length n.mp m) :=
  ⟨f, fd, ps, fn_ok F S hp ck bno fs hD, hm, F.kp, hb⟩
theorem hasO_mk {x qual : Str} {sd : Stmt} {f : Addr} {fd : FuncData} {ps : List Str} {n : Nm} {m : M Flow} (F : Fun K x qual sd f fd) (hm : mg x = some (.ref f)) (hb : Binds K fd ps []) (S : FnScope n.N ps (defScope sd)) (hp : ps.length ≤ n.N.length)
    (ck : scB n (defScope sd) = true) (bno : ∀ x ∈ n.bn, mg x = none) (fs : n.fs ⟨P, w, K, mg, base, tb⟩) (hD : ∀ C, Sc C n → LkSc C (defScope sd) → DSs C (defBody sd) m) : HasO ⟨P, w, K, mg, base, tb⟩ x (n.lv + 1) (runO ps.length n.N.length n.mp m) :=
  ⟨f, fd, ps, fn_okO F S hp ck bno fs hD, hm, F.kp, hb⟩
/-- the law's promise: of at most 63 ints it tells True -/
def spL (K : PySem.W.Frag) : Sp := fun vs H Q _ => ∃ (a : Addr) (ns : List Int), vs = [.ref a] ∧ SqL K H a (ns.map V.int) ∧ ns.length ≤ 63 ∧ ∀ H', Q (.bl true) H'
theorem rpa_ints {T : Wd} {H : Hp} : ∀ ns : List Int, RpA T H (ns.map .int) (ns.map V.int)
  | [] => RpA.nil
  | n :: ns => RpA.cons (rp_int n) (rpa_ints ns)
theorem law_fn {k : Nat} {f : Addr} {fd : FuncData} {F : List Sl → Res D} (h : FnOk P w K mg base CX0 k f fd ["script"] (fsp ⟨P, w, K, mg, base, []⟩ F))
    (ht : ∀ ns : List Int, ns.length ≤ 63 → ∃ r, F [.im (.list (ns.map .int))] = .ok (.bool true) r) : FnOk P w K mg base CX0 k f fd ["script"] (spL K) := by
  refine h.imp fun vs H Q E ⟨a, ns, e, hS, hl, q⟩ => ?_
  subst e
  obtain ⟨r, hr⟩ := ht ns hl
  refine ⟨H, fun _ => none, [.im (.list (ns.map .int))], Same.refl _, (fun _ _ z => by cases z), (fun _ _ z => by cases z), (fun _ z => by cases z), rfl, fun i v x hv hx => ?_, fun i j p x y hij ex ey ox oy hx hy => ?_, ?_⟩
  · cases i with
    | succ i => simp at hv
    | zero =>
      simp at hv hx
      subst hv hx
      exact ⟨⟨.ref a, rfl, rp_list hS (rpa_ints ns)⟩, fun z => by cases z⟩
  · cases i with
    | succ i => simp at hx
    | zero =>
      simp at ex
      subst ex
      cases ox
  · rw [hr]
    intro v H' Hf' _ _ _ _ _ rv _
    have : v = .bl true := by simpa only [Rp] using rv
    subst this
    exact q H'
theorem mg_const {x : Str} {i : Int} {t : Tok} (h : mg x = some (.int i t)) : Cn ⟨P, w, K, mg, base, tb⟩ x (.int i) := ⟨_, .int i, h, ⟨t, rfl⟩, fun _ => rp_int i⟩
end
theorem walk_L {l : PySem.W.OpenLaw} {q : Program} {loose : List Str} {XP : (Str → Option Value) → Heap → Prop} {YP : World → Heap → Prop} {d : DefRec} {K : Params → PySem.W.Frag} {k : Nat} (hr : Room k callerA) (hn : l.most = some 63) (hdf : d.params.defaults = [])
    (hY : ∀ (w : World) (h : Heap), YP w h → (K w.params).In h)
    (F : ∀ (w : World) (mg : Str → Option Value) (fa : Addr) (h : Heap), (K w.params).In h → h.Ns mainGlobals mg → mg d.name = some (.ref fa) →
      ∃ fd : FuncData, (∀ (s : Shared) (u : Value), BindsTo s fd ⟨[u], []⟩ [("script", u)]) ∧ ∀ base : Heap, (K w.params).In base → base.Ns mainGlobals mg → FnOk l.prog w (K w.params) mg base CX0 k fa fd ["script"] (spL (K w.params))) :
    PySem.W.WalkO q loose XP YP l.row.toRowW d [] (fun f vs => PySem.call f vs) :=
  L2.walk_of (n := 63) (k := k) (x := "script") (CX := fun _ => CX0) (sp := fun w => spL (K w.params)) hn (by decide) hdf hr hY F (fun _ _ a ns hl _ hS => ⟨a, ns, rfl, hS, hl, fun _ => rfl⟩) fun _ _ _ _ _ z => z
end DS
/-! Running the readings. -/
namespace DS
open PySem L2
section
variable {α β : Type}
@[simp ↓] theorem bnd_eq (m : M α) (f : α → M β) (ρ : Rho) : bnd m f ρ = match m ρ with | .ok a r => f a r | .ex e r => .ex e r | .no => .no := id rfl
@[simp ↓] theorem ret_eq (a : α) (ρ : Rho) : ret a ρ = .ok a ρ := id rfl
@[simp ↓] theorem rd_eq (i : Nat) (ρ : Rho) : rd i ρ = match ρ[i]? with | some (.im d) => .ok d ρ | some (.ml ds) => .ok (.list ds) (ρ.set i (.im (.list ds))) | _ => .no := id rfl
@[simp ↓] theorem pk_eq (i : Nat) (ρ : Rho) : pk i ρ = match ρ[i]? with | some (.im d) => .ok d ρ | some (.ml ds) => .ok (.list ds) ρ | _ => .no := id rfl
@[simp ↓] theorem opt_some (a : α) (ρ : Rho) : opt (some a) ρ = .ok a ρ := id rfl
@[simp ↓] theorem opt_none (ρ : Rho) : opt (none : Option α) ρ = .no := id rfl
@[simp ↓] theorem bin_eq (g : D → D → Option D) (a b : M D) (ρ : Rho) : bin g a b ρ = (bnd a fun x => bnd b fun y => opt (g x y)) ρ := id rfl
@[simp ↓] theorem binN_eq (g : D → D → Option D) (i : Nat) (b : M D) (ρ : Rho) : binN g i b ρ = (bnd (pk i) fun _ => bnd b fun y => bnd (pk i) fun x => opt (g x y)) ρ := id rfl
@[simp ↓] theorem c1_eq (g : D → Option D) (a : M D) (ρ : Rho) : c1 g a ρ = (bnd a fun x => opt (g x)) ρ := id rfl
@[simp ↓] theorem asB_bool (m : M D) (ρ : Rho) : asB m ρ = match m ρ with | .ok (.bool b) r => .ok b r | .ok _ _ => .no | .ex e r => .ex e r | .no => .no := by
  unfold asB bnd
  cases m ρ with
  | ok d r => cases d <;> rfl
  | ex e r => rfl
  | no => rfl
@[simp ↓] theorem andV_eq (a b : M D) (ρ : Rho) : andV a b ρ = (bnd (asB a) fun x => if x = true then b else ret (.bool false)) ρ := id rfl
@[simp ↓] theorem orV_eq (a b : M D) (ρ : Rho) : orV a b ρ = (bnd (asB a) fun x => if x = true then ret (.bool true) else b) ρ := id rfl
@[simp ↓] theorem notV_eq (a : M D) (ρ : Rho) : notV a ρ = (bnd (asB a) fun x => ret (.bool (!x))) ρ := id rfl
@[simp ↓] theorem ifV_eq (t : M Bool) (a b : M D) (ρ : Rho) : ifV t a b ρ = (bnd t fun c => if c = true then a else b) ρ := id rfl
@[simp ↓] theorem andB_eq (a b : M Bool) (ρ : Rho) : andB a b ρ = (bnd a fun x => if x = true then b else ret false) ρ := id rfl
@[simp ↓] theorem orB_eq (a b : M Bool) (ρ : Rho) : orB a b ρ = (bnd a fun x => if x = true then ret true else b) ρ := id rfl
@[simp ↓] theorem notB_eq (a : M Bool) (ρ : Rho) : notB a ρ = (bnd a fun x => ret (!x)) ρ := id rfl
@[simp ↓] theorem chM_eq (g g' : D → D → Option D) (a b c : M D) (ρ : Rho) : chM g g' a b c ρ = (bnd a fun x => bnd b fun y => bnd (opt (g x y)) fun z => match z with | .bool k => if k = true then bnd c fun w => opt (g' y w) else ret (.bool false) | _ => stop) ρ := id rfl
@[simp ↓] theorem rtM_eq (m : M D) (ρ : Rho) : rtM m ρ = (bnd m fun d => ret (.rt d)) ρ := id rfl
@[simp ↓] theorem roM_eq (m : M (List D)) (ρ : Rho) : roM m ρ = (bnd m fun d => ret (.ro d)) ρ := id rfl
@[simp ↓] theorem exM_eq (m : M D) (ρ : Rho) : exM m ρ = (bnd m fun _ => ret .nx) ρ := id rfl
@[simp ↓] theorem ifM_eq (t : M Bool) (a b : M Flow) (ρ : Rho) : ifM t a b ρ = (bnd t fun c => if c = true then a else b) ρ := id rfl
@[simp ↓] theorem sq_eq (a b : M Flow) (ρ : Rho) : sq a b ρ = match a ρ with | .ok .nx r => b r | r => r := by
  unfold sq bnd
  cases a ρ with
  | ok f r => cases f <;> rfl
  | ex e r => rfl
  | no => rfl
@[simp ↓] theorem asM_eq (m : M D) (f : D → M Unit) (ρ : Rho) : asM m f ρ = match m ρ with | .ok d r => (match f d r with | .ok _ r1 => .ok .nx r1 | _ => .no) | .ex e r => .ex e r | .no => .no := by
  unfold asM bnd
  cases m ρ <;> rfl
@[simp ↓] theorem st_eq (i : Nat) (d : D) (ρ : Rho) : st i d ρ = .ok () (ρ.set i (.im d)) := id rfl
@[simp ↓] theorem soM_eq (m : M (List D)) (i : Nat) (ρ : Rho) : soM m i ρ = (bnd m fun ds => fun ρ => .ok .nx (ρ.set i (.ml ds))) ρ := id rfl
@[simp ↓] theorem sfM_eq (m : M (List D)) (i : Nat) (ρ : Rho) : sfM m i ρ = (bnd m fun ds => fun ρ => .ok .nx (ρ.set i (.im (.list ds)))) ρ := id rfl
@[simp ↓] theorem stN_nil (ρ : Rho) : stN [] ρ = .ok () ρ := id rfl
@[simp ↓] theorem stC_cons (f : D → M Unit) (g : List D → M Unit) (d : D) (ds : List D) (ρ : Rho) : stC f g (d :: ds) ρ = (bnd (f d) fun _ => g ds) ρ := id rfl
@[simp ↓] theorem unT_eq (k : Nat) (f : List D → M Unit) (ds : List D) (ρ : Rho) : unT k f (.tuple ds) ρ = (if ds.length = k then f ds else stop) ρ := id rfl
@[simp ↓] theorem forS_eq (m : M (List D)) (f : D → M Unit) (b : M Flow) (ρ : Rho) : forS m f b ρ = (bnd m (forM f b)) ρ := id rfl
@[simp ↓] theorem itM_eq (m : M D) (ρ : Rho) : itM m ρ = (bnd m fun x => opt (walkD x)) ρ := id rfl
@[simp ↓] theorem consM_eq (a : M D) (b : M (List D)) (ρ : Rho) : consM a b ρ = (bnd a fun x => bnd b fun xs => ret (x :: xs)) ρ := id rfl
@[simp ↓] theorem tupM_eq (m : M (List D)) (ρ : Rho) : tupM m ρ = (bnd m fun ds => if ds.length ≤ sizeLine then ret (.tuple ds) else stop) ρ := id rfl
@[simp ↓] theorem lstM_eq (m : M (List D)) (ρ : Rho) : lstM m ρ = (bnd m fun ds => if ds.length ≤ sizeLine then ret ds else stop) ρ := id rfl
@[simp ↓] theorem frzM_eq (m : M (List D)) (ρ : Rho) : frzM m ρ = (bnd m fun ds => ret (.list ds)) ρ := id rfl
@[simp ↓] theorem slM_eq (m : M D) (lo hi : M (Option Int)) (ρ : Rho) : slM m lo hi ρ = (bnd m fun x => bnd lo fun l => bnd hi fun h => opt (slD x l h)) ρ := id rfl
@[simp ↓] theorem slN_eq (i : Nat) (lo hi : M (Option Int)) (ρ : Rho) : slN i lo hi ρ = (bnd (pk i) fun _ => bnd lo fun l => bnd hi fun h => bnd (pk i) fun x => opt (slD x l h)) ρ := id rfl
@[simp ↓] theorem asI_eq (m : M D) (ρ : Rho) : asI m ρ = (bnd m fun d => match d with | .int i => ret (some i) | _ => stop) ρ := id rfl
@[simp ↓] theorem vim_eq (a : M D) (b : M (List AV)) (ρ : Rho) : vim a b ρ = (bnd a fun x => bnd b fun xs => ret (.im x :: xs)) ρ := id rfl
@[simp ↓] theorem vsl_eq (i : Nat) (b : M (List AV)) (ρ : Rho) : vsl i b ρ = (bnd (vsl.pkO i) fun _ => bnd b fun xs => ret (.sl i :: xs)) ρ := id rfl
@[simp ↓] theorem pkO_eq (i : Nat) (ρ : Rho) : vsl.pkO i ρ = match ρ[i]? with | some x => if owns x then .ok () ρ else .no | none => .no := id rfl
@[simp ↓] theorem owns_ml (ds : List D) : owns (.ml ds) = true := id rfl
@[simp ↓] theorem owns_im (d : D) : owns (.im d) = false := id rfl
@[simp ↓] theorem owns_unn : owns .un = false := id rfl
@[simp ↓] theorem callM_eq (F : List Sl → Res α) (as : List AV) (ρ : Rho) : callM F as ρ = match resolve ρ as with
  | none => .no
  | some args => if nodupB (slots as) then
      match F args with
      | .ok d args' => if args'.length = args.length then .ok d (back ρ as args') else .no
      | .ex e _ => if (slots as).isEmpty then .ex e ρ else .no
      | .no => .no
    else .no := id rfl
@[simp ↓] theorem res_nil (ρ : Rho) : resolve ρ [] = some [] := id rfl
@[simp ↓] theorem res_im (ρ : Rho) (d : D) (as : List AV) : resolve ρ (.im d :: as) = (resolve ρ as).map (.im d :: ·) := id rfl
@[simp ↓] theorem res_sl (ρ : Rho) (i : Nat) (as : List AV) : resolve ρ (.sl i :: as) = match ρ[i]? with | some x => if owns x then (resolve ρ as).map (x :: ·) else none | none => none := id rfl
@[simp ↓] theorem slots_nil : slots [] = [] := id rfl
@[simp ↓] theorem slots_im (d : D) (as : List AV) : slots (.im d :: as) = slots as := id rfl
@[simp ↓] theorem slots_sl (i : Nat) (as : List AV) : slots (.sl i :: as) = i :: slots as := id rfl
@[simp ↓] theorem nodupB_nil : nodupB [] = true := id rfl
@[simp ↓] theorem nodupB_cons (i : Nat) (l : List Nat) : nodupB (i :: l) = (!l.contains i && nodupB l) := id rfl
@[simp ↓] theorem back_nil' (ρ : Rho) (xs : List Sl) : back ρ [] xs = ρ := by unfold back; rfl
@[simp ↓] theorem back_im (ρ : Rho) (d : D) (as : List AV) (x : Sl) (xs : List Sl) : back ρ (.im d :: as) (x :: xs) = back ρ as xs := id rfl
@[simp ↓] theorem back_sl (ρ : Rho) (i : Nat) (as : List AV) (x : Sl) (xs : List Sl) : back ρ (.sl i :: as) (x :: xs) = (back ρ as xs).set i x := id rfl
@[simp ↓] theorem siM_eq (i : Nat) (me mk : M D) (ρ : Rho) : siM i me mk ρ = (bnd me fun d => bnd (pk i) fun _ => bnd mk fun k => fun ρ => match ρ[i]?, k with
  | some (.ml ds), .int z => (match ixN ds.length z with | some j => .ok .nx (ρ.set i (.ml (ds.set j d))) | none => .no)
  | _, _ => .no) ρ := id rfl
@[simp ↓] theorem apM_eq (i : Nat) (me : M D) (ρ : Rho) : apM i me ρ = (bnd (apM.pkL i) fun _ => bnd me fun d => fun ρ => match ρ[i]? with
  | some (.ml ds) => if ds.length < sizeLine then .ok .nx (ρ.set i (.ml (ds ++ [d]))) else .no
  | _ => .no) ρ := id rfl
@[simp ↓] theorem pkL_eq (i : Nat) (ρ : Rho) : apM.pkL i ρ = match ρ[i]? with | some (.ml _) => .ok () ρ | _ => .no := id rfl
@[simp ↓] theorem paM_eq (i j : Nat) (m : M (List D)) (ρ : Rho) : paM i j m ρ = (bnd m fun ds => match ds with | [d, e] => fun ρ => .ok .nx ((ρ.set i (.im d)).set j (.im e)) | _ => stop) ρ := id rfl
@[simp ↓] theorem lcM_eq (vs : List Nat) (mi : M (List D)) (f : D → M Unit) (t : M Bool) (el : M D) (ρ : Rho) : lcM vs mi f t el ρ = (bnd mi (lcA vs f t el [])) ρ := id rfl
@[simp ↓] theorem liM_eq (m : M D) (ρ : Rho) : liM m ρ = (bnd m fun x => opt (itemsD x)) ρ := id rfl
@[simp ↓] theorem catM_eq (a b : M D) (ρ : Rho) : catM a b ρ = (bnd a fun x => bnd b fun y => opt (catD x y)) ρ := id rfl
@[simp ↓] theorem soD_eq (m : M D) (ρ : Rho) : soD m ρ = (bnd m fun x => opt (sortD x)) ρ := id rfl
@[simp ↓] theorem enM_eq (m : M D) (ρ : Rho) : enM m ρ = (bnd m fun x => match x with | .list ds => ret (enD ds) | _ => stop) ρ := id rfl
@[simp ↓] theorem rg1_eq (m : M D) (ρ : Rho) : rg1 m ρ = (bnd m fun x => match x with | .int j => if inR j then ret (rgD 0 j.toNat 1) else stop | _ => stop) ρ := id rfl
@[simp ↓] theorem rg2_eq (a b : M D) (ρ : Rho) : rg2 a b ρ = (bnd a fun x => bnd b fun y => match x, y with | .int i, .int j => if inR i && inR j then ret (rgD i (j - i).toNat 1) else stop | _, _ => stop) ρ := id rfl
@[simp ↓] theorem wpR_nil (ρ : Rho) : wpR ρ [] = ρ := id rfl
@[simp ↓] theorem wpR_cons (ρ : Rho) (v : Nat) (vs : List Nat) : wpR ρ (v :: vs) = (wpR ρ vs).set v .un := id rfl
@[simp ↓] theorem ownAt_nil (mp : List Nat) (k : Nat) : ownAt mp k [] = true := id rfl
@[simp ↓] theorem ownAt_cons (mp : List Nat) (k : Nat) (x : Sl) (xs : List Sl) : ownAt mp k (x :: xs) = ((!owns x || mp.contains k) && ownAt mp (k + 1) xs) := id rfl
/-! operators on numbers -/
@[simp ↓] theorem addD_int (i j : Int) : addD (.int i) (.int j) = some (.int (i + j)) := id rfl
@[simp ↓] theorem addD_list (a b : List D) : addD (.list a) (.list b) = if a.length + b.length ≤ sizeLine then some (.list (a ++ b)) else none := id rfl
@[simp ↓] theorem addD_str (a b : Str) : addD (.str a) (.str b) = if a.length + b.length ≤ sizeLine then some (.str (a ++ b)) else none := id rfl
@[simp ↓] theorem addD_tuple (a b : List D) : addD (.tuple a) (.tuple b) = if a.length + b.length ≤ sizeLine then some (.tuple (a ++ b)) else none := id rfl
@[simp ↓] theorem catD_list (a b : List D) : catD (.list a) (.list b) = if a.length + b.length ≤ sizeLine then some (a ++ b) else none := id rfl
@[simp ↓] theorem subD_int (i j : Int) : subD (.int i) (.int j) = some (.int (i - j)) := id rfl
@[simp ↓] theorem mulD_int (i j : Int) : mulD (.int i) (.int j) = if mulOk i j then some (.int (i * j)) else none := id rfl
@[simp ↓] theorem modD_int (i j : Int) : modD (.int i) (.int j) = if 0 < j then some (.int (i % j)) else none := id rfl
@[simp ↓] theorem divD_int (i j : Int) : divD (.int i) (.int j) = if big (0 < j ∧ j < 1073741824) then some (.int (i / j)) else none := id rfl
@[simp ↓] theorem powD_int (i j : Int) : powD (.int i) (.int j) = if big (0 ≤ j ∧ j ≤ 1000000 ∧ i.natAbs < 2 ^ 64) then some (.int (i ^ j.toNat)) else none := id rfl
@[simp ↓] theorem negD_int (i : Int) : negD (.int i) = some (.int (-i)) := id rfl
@[simp ↓] theorem ltD_int (i j : Int) : ltD (.int i) (.int j) = some (.bool (decide (i < j))) := id rfl
@[simp ↓] theorem leD_int (i j : Int) : leD (.int i) (.int j) = some (.bool (decide (i ≤ j))) := id rfl
@[simp ↓] theorem gtD_int (i j : Int) : gtD (.int i) (.int j) = some (.bool (decide (j < i))) := id rfl
@[simp ↓] theorem geD_int (i j : Int) : geD (.int i) (.int j) = some (.bool (decide (j ≤ i))) := id rfl
@[simp ↓] theorem max2D_int (i j : Int) : max2D (.int i) (.int j) = some (.int (if j > i then j else i)) := id rfl
@[simp ↓] theorem min2D_int (i j : Int) : min2D (.int i) (.int j) = some (.int (if j < i then j else i)) := id rfl
theorem dep_int (i : Int) : PyData.depth (.int i) = 0 := by simp only [PyData.depth]
theorem dep_str (i : Str) : PyData.depth (.str i) = 0 := by simp only [PyData.depth]
theorem dep_bool (i : Bool) : PyData.depth (.bool i) = 0 := by simp only [PyData.depth]
theorem dep_none : PyData.depth .none = 0 := by simp only [PyData.depth]
@[simp ↓] theorem eqD_int (i j : Int) : eqD (.int i) (.int j) = some (.bool (decide (i = j))) := by
  simp [eqD, cmpOk, dep_int, noObj, PyData.eqv, BEq.beq]
@[simp ↓] theorem neD_int (i j : Int) : neD (.int i) (.int j) = some (.bool (!decide (i = j))) := by
  simp [neD, cmpOk, dep_int, noObj, PyData.eqv, BEq.beq]
@[simp ↓] theorem lenD_list (ds : List D) : lenD (.list ds) = some (.int ds.length) := id rfl
@[simp ↓] theorem lenD_tuple (ds : List D) : lenD (.tuple ds) = some (.int ds.length) := id rfl
@[simp ↓] theorem walkD_list (ds : List D) : walkD (.list ds) = some ds := id rfl
@[simp ↓] theorem walkD_tuple (ds : List D) : walkD (.tuple ds) = some ds := id rfl
@[simp ↓] theorem itemsD_list (ds : List D) : itemsD (.list ds) = some ds := id rfl
@[simp ↓] theorem itemsD_tuple (ds : List D) : itemsD (.tuple ds) = some ds := id rfl
@[simp ↓] theorem ixD_list (ds : List D) (i : Int) : ixD (.list ds) (.int i) = atI ds i := id rfl
@[simp ↓] theorem ixD_tuple (ds : List D) (i : Int) : ixD (.tuple ds) (.int i) = atI ds i := id rfl
@[simp ↓] theorem slD_list (ds : List D) (lo hi : Option Int) : slD (.list ds) lo hi = some (.list (cutL ds lo hi)) := id rfl
@[simp ↓] theorem slD_tuple (ds : List D) (lo hi : Option Int) : slD (.tuple ds) lo hi = some (.tuple (cutL ds lo hi)) := id rfl
@[simp ↓] theorem isi_list (t : Ty) (ds : List D) : isiD t (.list ds) = some (.bool (match t with | .list => true | _ => false)) := id rfl
@[simp ↓] theorem isi_tuple (t : Ty) (ds : List D) : isiD t (.tuple ds) = some (.bool (match t with | .tuple => true | _ => false)) := id rfl
@[simp ↓] theorem isi_int (t : Ty) (i : Int) : isiD t (.int i) = some (.bool (match t with | .int => true | _ => false)) := id rfl
@[simp ↓] theorem isi_bool (t : Ty) (i : Bool) : isiD t (.bool i) = some (.bool (match t with | .int => true | .bool => true | _ => false)) := id rfl
@[simp ↓] theorem isi_str (t : Ty) (i : Str) : isiD t (.str i) = some (.bool (match t with | .str => true | _ => false)) := id rfl
@[simp ↓] theorem isi_none (t : Ty) : isiD t .none = some (.bool false) := id rfl
@[simp ↓] theorem isD_none (d : D) : isD d .none = some (.bool (isNone d)) := by cases d <;> rfl
@[simp ↓] theorem isNotD_none (d : D) : isNotD d .none = some (.bool (!isNone d)) := by cases d <;> rfl
/-- emptiness -/
theorem eqD_nil (ds : List D) (h : noObjA ds = true) : eqD (.list ds) (.list []) = some (.bool ds.isEmpty) := by
  have h1 : PyData.depth (.list ([] : List D)) = 1 := id rfl
  have : min (PyData.depth (.list ds)) (PyData.depth (.list ([] : List D))) ≤ 64 := by rw [h1]; omega
  unfold eqD cmpOk
  rw [decide_eq_true this]
  simp only [noObj, h, noObjA, Bool.and_self, if_true]
  cases ds <;> rfl
theorem neD_nil (ds : List D) (h : noObjA ds = true) : neD (.list ds) (.list []) = some (.bool (!ds.isEmpty)) := by
  have h1 : PyData.depth (.list ([] : List D)) = 1 := id rfl
  have : min (PyData.depth (.list ds)) (PyData.depth (.list ([] : List D))) ≤ 64 := by rw [h1]; omega
  unfold neD cmpOk
  rw [decide_eq_true this]
  simp only [noObj, h, noObjA, Bool.and_self, if_true]
  cases ds <;> rfl
end
end DS
/-! Running loops and comprehensions. -/
namespace DS
open PySem L2
section
mutual
theorem noObj_plain : ∀ d : D, d.plain = true → noObj d = true
  | .none, _ => rfl
  | .bool _, _ => rfl
  | .int _, _ => rfl
  | .str _, _ => rfl
  | .list ds, h => by simp only [PyData.plain] at h; simp only [noObj]; exact noObjA_plain ds h
  | .tuple ds, h => by simp only [PyData.plain] at h; simp only [noObj]; exact noObjA_plain ds h
  | .dict _, h => by simp [PyData.plain] at h
theorem noObjA_plain : ∀ ds : List D, PyData.plainAll ds = true → noObjA ds = true
  | [], _ => rfl
  | d :: ds, h => by
    simp only [PyData.plainAll, Bool.and_eq_true] at h
    simp only [noObjA, noObj_plain d h.1, noObjA_plain ds h.2, Bool.and_self]
end
section
variable {α : Type} [DecidableEq α] [PySem.W.Datum α]
abbrev tD (x : α) : D := PySem.W.Datum.toD x
theorem noObj_tD (x : α) : noObj (tD x) = true := noObj_plain _ (PySem.W.Datum.plain x)
theorem eqD_tD (x y : α) (h : PySem.W.Datum.depth α ≤ 64 := by decide) : eqD (tD x) (tD y) = some (.bool (decide (x = y))) := by
  have h1 := PySem.W.Datum.depth_le x
  unfold eqD cmpOk
  rw [noObj_tD, noObj_tD, decide_eq_true (by unfold tD; omega), PySem.W.Datum.eqv]
  rfl
theorem neD_tD (x y : α) (h : PySem.W.Datum.depth α ≤ 64 := by decide) : neD (tD x) (tD y) = some (.bool (!decide (x = y))) := by
  have h1 := PySem.W.Datum.depth_le x
  unfold neD cmpOk
  rw [noObj_tD, noObj_tD, decide_eq_true (by unfold tD; omega), PySem.W.Datum.eqv]
  rfl
end
/-- one turn of a comprehension -/
def lcStep (vs : List Nat) (f : D → M Unit) (t : M Bool) (el : M D) (d : D) (ρ : Rho) : Res (Option D) := match f d (wpR ρ vs) with
  | .ok _ ρ1 => (match t ρ1 with
    | .ok true ρ2 => (match el ρ2 with
      | .ok y ρ3 => .ok (some y) ρ3
      | _ => .no)
    | .ok false ρ2 => .ok none ρ2
    | _ => .no)
  | _ => .no
theorem lcStep_t {vs : List Nat} {f : D → M Unit} {t : M Bool} {el : M D} {d y : D} {ρ ρ0 ρ1 ρ2 ρ3 : Rho} (h0 : wpR ρ vs = ρ0) (h1 : f d ρ0 = .ok () ρ1) (h2 : t ρ1 = .ok true ρ2) (h3 : el ρ2 = .ok y ρ3) : lcStep vs f t el d ρ = .ok (some y) ρ3 := by
  unfold lcStep
  rw [h0, h1]
  simp only [h2, h3]
theorem lcStep_f {vs : List Nat} {f : D → M Unit} {t : M Bool} {el : M D} {d : D} {ρ ρ0 ρ1 ρ2 : Rho} (h0 : wpR ρ vs = ρ0) (h1 : f d ρ0 = .ok () ρ1) (h2 : t ρ1 = .ok false ρ2) : lcStep vs f t el d ρ = .ok none ρ2 := by
  unfold lcStep
  rw [h0, h1]
  simp only [h2]
theorem lcStep_tp {vs : List Nat} {f : D → M Unit} {t : M Bool} {el : M D} {d y : D} {ρ ρ0 ρ1 : Rho} (h0 : wpR ρ vs = ρ0) (h1 : f d ρ0 = .ok () ρ1) (h2 : t ρ1 = .ok true ρ1) (h3 : el ρ1 = .ok y ρ1) : lcStep vs f t el d ρ = .ok (some y) ρ1 := lcStep_t h0 h1 h2 h3
theorem lcStep_fp {vs : List Nat} {f : D → M Unit} {t : M Bool} {el : M D} {d : D} {ρ ρ0 ρ1 : Rho} (h0 : wpR ρ vs = ρ0) (h1 : f d ρ0 = .ok () ρ1) (h2 : t ρ1 = .ok false ρ1) : lcStep vs f t el d ρ = .ok none ρ1 := lcStep_f h0 h1 h2
/-- a turn that leaves no trace -/
def LcOk (vs : List Nat) (f : D → M Unit) (t : M Bool) (el : M D) (h : D → Option D) (ρ0 : Rho) (d : D) (ρ : Rho) : Prop := ∃ ρ', lcStep vs f t el d ρ = .ok (h d) ρ' ∧ wpR ρ' vs = ρ0
theorem lcP_t {vs : List Nat} {f : D → M Unit} {t : M Bool} {el : M D} {h : D → Option D} {d y : D} {ρ ρ0 ρ1 : Rho} (h0 : wpR ρ vs = ρ0) (h1 : f d ρ0 = .ok () ρ1) (hw : wpR ρ1 vs = ρ0) (hh : h d = some y) (h2 : t ρ1 = .ok true ρ1) (h3 : el ρ1 = .ok y ρ1) : LcOk vs f t el h ρ0 d ρ := ⟨ρ1, by rw [hh]; exact lcStep_t h0 h1 h2 h3, hw⟩
theorem lcP_f {vs : List Nat} {f : D → M Unit} {t : M Bool} {el : M D} {h : D → Option D} {d : D} {ρ ρ0 ρ1 : Rho} (h0 : wpR ρ vs = ρ0) (h1 : f d ρ0 = .ok () ρ1) (hw : wpR ρ1 vs = ρ0) (hh : h d = none) (h2 : t ρ1 = .ok false ρ1) : LcOk vs f t el h ρ0 d ρ := ⟨ρ1, by rw [hh]; exact lcStep_f h0 h1 h2, hw⟩
theorem lcA_step {vs : List Nat} {f : D → M Unit} {t : M Bool} {el : M D} {acc ds : List D} {d : D} {ρ ρ' : Rho} {o : Option D} (h : lcStep vs f t el d ρ = .ok o ρ') (hl : acc.length < sizeLine) : lcA vs f t el acc (d :: ds) ρ = lcA vs f t el (acc ++ o.toList) ds ρ' := by
  conv => lhs; unfold lcA
  unfold lcStep at h
  cases e1 : f d (wpR ρ vs) with
  | ok u ρ1 =>
    simp only [e1] at h ⊢
    cases e2 : t ρ1 with
    | ok c ρ2 =>
      cases c with
      | true =>
        simp only [e2] at h ⊢
        cases e3 : el ρ2 with
        | ok y ρ3 =>
          simp only [e3] at h ⊢
          cases h
          simp only [if_pos hl, Option.toList]
        | ex _ _ => simp only [e3] at h; cases h
        | no => simp only [e3] at h; cases h
      | false =>
        simp only [e2] at h ⊢
        cases h
        simp only [Option.toList, List.append_nil]
    | ex _ _ => simp only [e2] at h; cases h
    | no => simp only [e2] at h; cases h
  | ex _ _ => simp only [e1] at h; cases h
  | no => simp only [e1] at h; cases h
theorem lcA_inv0 {vs : List Nat} {f : D → M Unit} {t : M Bool} {el : M D} : ∀ (I : List D → Nat → Rho → Prop) (ds acc : List D) (ρ : Rho), acc.length + ds.length ≤ sizeLine → I acc 0 ρ →
    (∀ k d acc ρ, ds[k]? = some d → I acc k ρ → ∃ o ρ', lcStep vs f t el d ρ = .ok o ρ' ∧ I (acc ++ o.toList) (k + 1) ρ') → ∃ acc' ρ', lcA vs f t el acc ds ρ = .ok acc' (wpR ρ' vs) ∧ I acc' ds.length ρ'
  | I, [], acc, ρ, _, i0, _ => ⟨acc, ρ, rfl, i0⟩
  | I, d :: ds, acc, ρ, hl, i0, st => by
    obtain ⟨o, ρ1, e, i1⟩ := st 0 d acc ρ rfl i0
    simp only [List.length_cons] at hl
    have ho : (acc ++ o.toList).length ≤ acc.length + 1 := by cases o <;> simp
    obtain ⟨a, ρ2, e2, i2⟩ := lcA_inv0 (fun a k r => I a (k + 1) r) ds (acc ++ o.toList) ρ1 (by omega) i1 fun k d' a r hd => st (k + 1) d' a r (by simpa using hd)
    exact ⟨a, ρ2, by rw [lcA_step e (by omega)]; exact e2, i2⟩
theorem lcA_inv {vs : List Nat} {f : D → M Unit} {t : M Bool} {el : M D} (I : List D → Nat → Rho → Prop) (ds : List D) (ρ : Rho) (hl : ds.length ≤ sizeLine) (i0 : I [] 0 ρ)
    (st : ∀ k d acc ρ, ds[k]? = some d → I acc k ρ → ∃ o ρ', lcStep vs f t el d ρ = .ok o ρ' ∧ I (acc ++ o.toList) (k + 1) ρ') : ∃ acc' ρ', lcA vs f t el [] ds ρ = .ok acc' (wpR ρ' vs) ∧ I acc' ds.length ρ' :=
  lcA_inv0 I ds [] ρ (by simpa using hl) i0 st
@[simp] theorem fm_none (ds : List D) : ds.filterMap (fun _ => (none : Option D)) = [] := by induction ds <;> simp_all
/-- no state -/
theorem lcA_pure {vs : List Nat} {f : D → M Unit} {t : M Bool} {el : M D} (h : D → Option D) {ds acc : List D} {ρ : Rho} (hl : acc.length + ds.length ≤ sizeLine)
    (st : ∀ d ∈ ds, ∀ ρ1, wpR ρ1 vs = wpR ρ vs → LcOk vs f t el h (wpR ρ vs) d ρ1) : lcA vs f t el acc ds ρ = .ok (acc ++ ds.filterMap h) (wpR ρ vs) := by
  induction ds generalizing acc ρ with
  | nil => simp [lcA]
  | cons d ds ih =>
    obtain ⟨ρ1, e, w⟩ := st d List.mem_cons_self ρ rfl
    simp only [List.length_cons] at hl
    have ho : (acc ++ (h d).toList).length ≤ acc.length + 1 := by cases h d <;> simp
    rw [lcA_step e (by omega), ih (by omega) (fun d' hd r hr => by rw [w] at hr ⊢; exact st d' (List.mem_cons_of_mem _ hd) r hr), w]
    congr 1
    cases hh : h d <;> simp [hh, List.filterMap_cons]
/-- one turn of a for loop -/
def forStep (f : D → M Unit) (b : M Flow) (d : D) (ρ : Rho) : Res Flow := match f d ρ with
  | .ok _ ρ1 => b ρ1
  | _ => .no
theorem forStep_ok {f : D → M Unit} {b : M Flow} {d : D} {ρ ρ1 : Rho} (h1 : f d ρ = .ok () ρ1) : forStep f b d ρ = b ρ1 := by
  unfold forStep
  rw [h1]
theorem forM_step {f : D → M Unit} {b : M Flow} {d : D} {ds : List D} {ρ ρ' : Rho} (h : forStep f b d ρ = .ok .nx ρ') : forM f b (d :: ds) ρ = forM f b ds ρ' := by
  conv => lhs; unfold forM
  unfold forStep at h
  cases e1 : f d ρ with
  | ok u ρ1 =>
    simp only [e1] at h ⊢
    simp only [h]
  | ex _ _ => simp only [e1] at h; cases h
  | no => simp only [e1] at h; cases h
theorem forM_fold {σ : Type} {f : D → M Unit} {b : M Flow} (I : σ → Rho → Prop) (g : σ → D → σ) : ∀ (ds : List D) (s : σ) (ρ : Rho), I s ρ →
    (∀ d s ρ, d ∈ ds → I s ρ → ∃ ρ', forStep f b d ρ = .ok .nx ρ' ∧ I (g s d) ρ') → ∃ ρ', forM f b ds ρ = .ok .nx ρ' ∧ I (ds.foldl g s) ρ'
  | [], s, ρ, i0, _ => ⟨ρ, rfl, i0⟩
  | d :: ds, s, ρ, i0, st => by
    obtain ⟨ρ1, e, i1⟩ := st d s ρ List.mem_cons_self i0
    obtain ⟨ρ2, e2, i2⟩ := forM_fold I g ds (g s d) ρ1 i1 fun d' a r hd => st d' a r (List.mem_cons_of_mem _ hd)
    exact ⟨ρ2, by rw [forM_step e]; exact e2, i2⟩
theorem forM_inv {f : D → M Unit} {b : M Flow} (I : Nat → Rho → Prop) (ds : List D) (ρ : Rho) (i0 : I 0 ρ)
    (st : ∀ k d ρ, ds[k]? = some d → I k ρ → ∃ ρ', forStep f b d ρ = .ok .nx ρ' ∧ I (k + 1) ρ') : ∃ ρ', forM f b ds ρ = .ok .nx ρ' ∧ I ds.length ρ' := by
  induction ds generalizing ρ I with
  | nil => exact ⟨ρ, rfl, i0⟩
  | cons d ds ih =>
    obtain ⟨ρ1, e, i1⟩ := st 0 d ρ rfl i0
    obtain ⟨ρ2, e2, i2⟩ := ih (fun k => I (k + 1)) ρ1 i1 fun k d' r hd => st (k + 1) d' r (by simpa using hd)
    exact ⟨ρ2, by rw [forM_step e]; exact e2, i2⟩
theorem mulOk_l {i j : Int} (h0 : -1000000000000000000 ≤ i) (h1 : i ≤ 1000000000000000000) : mulOk i j = true := by
  simp [mulOk]; omega
theorem mulOk_r {i j : Int} (h0 : -1000000000000000000 ≤ j) (h1 : j ≤ 1000000000000000000) : mulOk i j = true := by
  simp [mulOk]; omega
/-! parts of data -/
def iO : D → Int
  | .int i => i
  | _ => 0
def p0 : D → D
  | .tuple (a :: _) => a
  | d => d
def p1 : D → D
  | .tuple (_ :: b :: _) => b
  | d => d
@[simp] theorem iO_int (i : Int) : iO (.int i) = i := rfl
@[simp] theorem p0_tup (a : D) (l : List D) : p0 (.tuple (a :: l)) = a := rfl
@[simp] theorem p1_tup (a b : D) (l : List D) : p1 (.tuple (a :: b :: l)) = b := rfl
/-! lists of whole numbers -/
def nI (l : List Int) : List D := l.map PyData.int
@[simp] theorem nI_length (l : List Int) : (nI l).length = l.length := by simp [nI]
theorem nI_nil : nI [] = [] := rfl
theorem nI_cons (a : Int) (l : List Int) : nI (a :: l) = .int a :: nI l := rfl
theorem nI_append (a b : List Int) : nI (a ++ b) = nI a ++ nI b := by simp [nI]
theorem nI_mem {l : List Int} {d : D} (h : d ∈ nI l) : ∃ x ∈ l, d = .int x := by
  obtain ⟨x, hx, e⟩ := List.mem_map.mp h
  exact ⟨x, hx, e.symm⟩
theorem nI_isEmpty (l : List Int) : (nI l).isEmpty = l.isEmpty := by cases l <;> rfl
theorem noObj_nI (l : List Int) : noObjA (nI l) = true := by
  induction l with
  | nil => rfl
  | cons n ns ih => simp [nI_cons, noObjA, noObj, ih]
theorem neD_nI_nil (l : List Int) : neD (.list (nI l)) (.list []) = some (.bool (!l.isEmpty)) := by rw [neD_nil _ (noObj_nI l), nI_isEmpty]
theorem eqD_nI_nil (l : List Int) : eqD (.list (nI l)) (.list []) = some (.bool l.isEmpty) := by rw [eqD_nil _ (noObj_nI l), nI_isEmpty]
theorem tD_nI (l : List Int) : tD l = .list (nI l) := rfl
theorem neD_nI (l m : List Int) : neD (.list (nI l)) (.list (nI m)) = some (.bool (!decide (l = m))) := neD_tD l m
theorem eqD_nI (l m : List Int) : eqD (.list (nI l)) (.list (nI m)) = some (.bool (decide (l = m))) := eqD_tD l m
theorem nI_get {l : List Int} {i : Nat} (h : i < l.length) : (nI l)[i]? = some (.int l[i]) := by simp [nI, h]
theorem atI_nat {ds : List D} {i : Nat} {d : D} (h : ds[i]? = some d) : atI ds (i : Int) = some d := by
  have hi : i < ds.length := lt_of_get h
  unfold atI ixN
  simp [hi]
  simpa [List.getElem?_eq_getElem hi] using h
theorem atI_int {l : List Int} {i : Nat} (h : i < l.length) : atI (nI l) (i : Int) = some (.int l[i]) := atI_nat (nI_get h)
theorem atI_m1 {ds : List D} {d : D} (h : ds.getLast? = some d) : atI ds (-1) = some d := by
  have hne : ds ≠ [] := by intro e; subst e; cases h
  have hl : 0 < ds.length := List.length_pos_iff.mpr hne
  unfold atI ixN
  have h1 : ¬ (0 : Int) ≤ -1 := by omega
  have e : (-1 + (ds.length : Int)).toNat = ds.length - 1 := by omega
  have h3 : (1 : Int) ≤ (ds.length : Int) := by omega
  rw [if_neg h1]
  simp [e, h3]
  rw [List.getLast?_eq_getElem?] at h
  exact h
def lastI (l : List Int) : Int := l.getLast?.getD 0
theorem nI_last {l : List Int} (h : l ≠ []) : (nI l).getLast? = some (.int (lastI l)) := by
  unfold nI lastI
  rw [List.getLast?_map]
  cases e : l.getLast? with
  | none => exact absurd (List.getLast?_eq_none_iff.mp e) h
  | some z => rfl
theorem lastI_mem {l : List Int} (h : l ≠ []) : lastI l ∈ l := by
  unfold lastI
  cases e : l.getLast? with
  | none => exact absurd (List.getLast?_eq_none_iff.mp e) h
  | some z => exact List.mem_of_getLast? e
theorem atI_last {l : List Int} (h : l ≠ []) : atI (nI l) (-1) = some (.int (lastI l)) := atI_m1 (nI_last h)
theorem nI_dropLast (l : List Int) : (nI l).dropLast = nI l.dropLast := by simp [nI]
theorem nI_take (l : List Int) (k : Nat) : (nI l).take k = nI (l.take k) := by simp [nI]
theorem nI_drop (l : List Int) (k : Nat) : (nI l).drop k = nI (l.drop k) := by simp [nI]
theorem cutL_init (l : List D) : cutL l none (some (-1)) = l.dropLast := by
  unfold cutL
  simp only [HT.sIx, List.drop_zero]
  rw [if_pos (by omega), List.dropLast_eq_take]
  congr 1
  omega
theorem cutL_to (l : List D) (k : Nat) : cutL l none (some (k : Int)) = l.take k := by
  unfold cutL
  rw [HT.sIx_none, HT.sIx_nat]
  simp [List.take_eq_take_iff]
theorem cutL_from (l : List D) (k : Nat) : cutL l (some (k : Int)) none = l.drop k := by
  unfold cutL
  rw [HT.sIx_none, HT.sIx_nat]
  by_cases h : k ≤ l.length
  · rw [Nat.min_eq_left h, List.take_of_length_le (by simp)]
  · rw [Nat.min_eq_right (by omega), List.drop_eq_nil_of_le (by omega), List.drop_eq_nil_of_le (by omega), List.take_nil]
theorem rg_nat (n : Nat) : rgD 0 n 1 = (List.range n).map fun (i : Nat) => PyData.int (i : Int) := by
  unfold rgD
  congr 1
  funext i
  simp
theorem intsD_map (l : List Int) : intsD (nI l) = some l := by
  induction l with
  | nil => rfl
  | cons a l ih => rw [nI_cons, intsD, ih]; rfl
theorem boolsD_map (l : List Bool) : boolsD (l.map PyData.bool) = some l := by
  induction l with
  | nil => rfl
  | cons a l ih => simp only [List.map_cons, boolsD]; rw [ih]; rfl
theorem sumD_int (l : List Int) : sumD (.list (nI l)) = some (.int l.sum) := by simp [sumD, intsD_map]
theorem allD_bool (l : List Bool) : allD (.list (l.map PyData.bool)) = some (.bool (l.all id)) := by simp only [allD, boolsD_map, Option.map_some]
end
end DS
/-! enumerate over a tuple; zip of a list and a tuple. -/
namespace DS
open PySem L2
open PySem.Sem (wp)
section
variable {prog : Program} {w : World} {A : Around} {E : Value → Shared → Prop} {s : Shared}
theorem new_enumT (l : Addr) (items : Array Value) (n : Nat) (dct : Option Addr) (sl : Array (Option Value)) :
    Meets (Builtin.«enumerate.__new__» ⟨[.type "enumerate", .ref l], []⟩) (fun _ R s => s.heap.get? l = some { cls := .type "tuple", dict := dct, data := .seq items n, slots := sl } ∧
      R (.ok (.ret (.ref (s.heap.push { cls := .type "tuple_iterator", data := .fields #[.ref l, .int 0 0] }).objs.size)))
        { s with heap := (s.heap.push { cls := .type "tuple_iterator", data := .fields #[.ref l, .int 0 0] }).push { cls := .type "enumerate", data := .fields #[.none, .bool false, .ref s.heap.objs.size, rawInt 0, .none, .none] } }) :=
  .of_wp fun prog w A R s ⟨hl, h⟩ => by
    obtain ⟨hp, g, d, tk, os⟩ := s
    have sub := sub_enumerate
    have isT : Heap.IsTuple (Shared.heap ⟨hp, g, d, tk, os⟩) l items := ⟨_, hl, rfl, n, rfl⟩
    wp_walk using AutoSeq1.wpAny_loadPart' hl
    refine wpAny_stack_any fun st => wpAny_pure ?_
    split
    · rename_i c _ _ _ _ _
      cases (c == Value.type "enumerate") <;> (wp_walk using AutoSeq1.wpAny_loadPart' hl, wpAny_pyIter_tuple isT) <;> exact ⟨_, rfl, h⟩
    · wp_walk using AutoSeq1.wpAny_loadPart' hl, wpAny_pyIter_tuple isT
      exact ⟨_, rfl, h⟩
theorem call_enumT {l : Addr} {items : Array Value} {Q : Value → Shared → Prop} (hL : s.heap.IsTuple l items)
    (h : ∀ h', IsEnum h' (s.heap.objs.size + 1) s.heap.objs.size 0 .none → h'.IsTupleIter s.heap.objs.size l 0 → (∀ b o, s.heap.get? b = some o → h'.get? b = some o) → Q (.ref (s.heap.objs.size + 1)) { s with heap := h' }) :
    wpAny (model prog w) A (call (.type "enumerate") [.ref l]) Q E s := by
  obtain ⟨⟨c, dct, dt, sl⟩, hl, hc, n, hd⟩ := hL
  have hc : c = .type "tuple" := hc
  have hd : dt = .seq items n := hd
  subst hc hd
  refine callType_new F.called_enumerate (by decide) (F.typeCall_enumerate_1 _) (F.newCall_enumerate_1 _) (fun obj => F.args_object_init_2 obj _) F.entry_enumerate_new (new_enumT l items n dct sl) ⟨hl, ?_⟩
  have hz : (s.heap.push { cls := .type "tuple_iterator", data := .fields #[.ref l, .int 0 0] }).objs.size = s.heap.objs.size + 1 := Heap.size_push ..
  show _ ∧ _
  rw [hz]
  have he : IsEnum ((s.heap.push { cls := .type "tuple_iterator", data := .fields #[.ref l, .int 0 0] }).push { cls := .type "enumerate", data := .fields #[.none, .bool false, .ref s.heap.objs.size, rawInt 0, .none, .none] }) (s.heap.objs.size + 1) s.heap.objs.size 0 .none := by
    have q := Heap.get?_push_size (s.heap.push { cls := .type "tuple_iterator", data := .fields #[.ref l, .int 0 0] }) (o := { cls := .type "enumerate", data := .fields #[.none, .bool false, .ref s.heap.objs.size, rawInt 0, .none, .none] }) rfl
    rwa [hz] at q
  exact ⟨⟨_, he, rfl⟩, h _ he ⟨_, Heap.get?_push_of_some _ (Heap.get?_push_size _ rfl), rfl, rfl⟩ fun b o x => Heap.get?_push_of_some _ (Heap.get?_push_of_some _ x)⟩
/-- one pair of an enumerate whose inner iterator is told by its own next -/
theorem enum_item {e it : Addr} {i : Nat} {x old : Value} {P : Heap → Prop} {Q : Option Value → Shared → Prop} (he : IsEnum s.heap e it i old) (hne : e ≠ it)
    (hn : ∀ (A' : Around) (Q' : Value → Shared → Prop) (E' : Value → Shared → Prop), (∀ h', P h' → Heap.SameBut it s.heap h' → Q' x { s with heap := h' }) → wpAny (model prog w) A' (Builtin.SmallTypes.nextOf (.ref it)) Q' E' s)
    (hP : ∀ h h', P h → (∀ o, h.get? it = some o → h'.get? it = some o) → P h')
    (hQ : ∀ h', IsEnumOut h' e it ((i : Int) + 1) x s.heap.objs.size → P h' → h'.get? s.heap.objs.size = some { cls := .type "tuple", data := .seq #[.int i s.toks, x] } →
      (∀ b o, b ≠ e → b ≠ it → s.heap.get? b = some o → h'.get? b = some o) → Q (some (.ref s.heap.objs.size)) { s with heap := h', toks := s.toks + 1 }) :
    wpAny (model prog w) A (pyNext (.ref e)) Q E s := by
  have hT : s.TypeIs (.ref e) "enumerate" := ⟨_, he, rfl⟩
  unfold pyNext
  refine wpAny_bind (wpAny_attempt (wpAny_callSpecial?_slot (name := Str.ofString "__next__") hT F.slot_enumerate_next (wpAny_call_entry F.slot_enumerate_next hT F.entry_enumerate_next ?_ (F.args_enumerate_next_1 _))))
  obtain ⟨hp, g, d, tk, os⟩ := s
  have he0 : IsEnum hp e it i old := he
  show wpAny _ _ (field (.ref e) 2 >>= _) _ _ _
  refine wpAny_bind (wpAny_field he rfl (x := .ref it) rfl ?_)
  refine wpAny_bind (hn _ _ _ fun k1 p1 sb1 => ?_)
  have sb1 : Heap.SameBut it hp k1 := sb1
  have e1 : IsEnum k1 e it i old := (sb1.2 e hne).trans he0
  show wpAny _ _ (field (.ref e) 3 >>= _) _ _ ⟨k1, g, d, tk, os⟩
  refine wpAny_bind (wpAny_field e1 rfl (x := rawInt i) rfl ?_)
  show wpAny _ _ (field (.ref e) 4 >>= _) _ _ ⟨k1, g, d, tk, os⟩
  refine wpAny_bind (wpAny_field e1 rfl (x := .none) rfl ?_)
  show wpAny _ _ (mkInt i >>= _) _ _ ⟨k1, g, d, tk, os⟩
  refine wpAny_bind (wpAny_mkInt ?_)
  show wpAny _ _ (setField (.ref e) 3 (rawInt ((i : Int) + 1)) >>= _) _ _ ⟨k1, g, d, tk + 1, os⟩
  refine wpAny_bind (wpAny_setField_rec e1 (by simp) fun k2 e2 sb2 => ?_)
  have sb2 : Heap.SameBut e k1 k2 := sb2
  have e2 : IsEnum k2 e it ((i : Int) + 1) old := e2
  show wpAny _ _ (setField (.ref e) 4 .none >>= _) _ _ ⟨k2, g, d, tk + 1, os⟩
  refine wpAny_bind (wpAny_setField_rec e2 (by simp) fun k3 e3 sb3 => ?_)
  have sb3 : Heap.SameBut e k2 k3 := sb3
  have e3 : IsEnum k3 e it ((i : Int) + 1) old := e3
  show wpAny _ _ (newTuple [.int i tk, x] >>= _) _ _ ⟨k3, g, d, tk + 1, os⟩
  refine wpAny_bind (wpAny_newTuple ?_)
  have e4 : IsEnum (k3.push { cls := .type "tuple", data := .seq #[.int i tk, x] }) e it ((i : Int) + 1) old := Heap.get?_push_of_some _ e3
  have sz : k3.objs.size = hp.objs.size := by rw [sb3.1, sb2.1, sb1.1]
  have el : e < hp.objs.size := Heap.lt_size he0
  have t4 : (k3.push { cls := .type "tuple", data := .seq #[.int i tk, x] }).get? hp.objs.size = some { cls := .type "tuple", data := .seq #[.int i tk, x] } := by rw [← sz]; exact Heap.get?_push_size _ rfl
  have keep4 : ∀ b o, b ≠ e → k1.get? b = some o → (k3.push { cls := .type "tuple", data := .seq #[.int i tk, x] }).get? b = some o := fun b o hb q => Heap.get?_push_of_some _ (sb3.extBut b o hb (sb2.extBut b o hb q))
  show wpAny _ _ (Builtin.SmallTypes.ownedTupleIsFree (.ref e) >>= _) _ _ ⟨k3.push { cls := .type "tuple", data := .seq #[.int i tk, x] }, g, d, tk + 1, os⟩
  rw [sz]
  generalize k3.push { cls := .type "tuple", data := .seq #[.int i tk, x] } = k4 at e4 t4 keep4 ⊢
  refine wpAny_bind ?_
  unfold Builtin.SmallTypes.ownedTupleIsFree
  refine wpAny_bind (wpAny_field e4 rfl (x := .none) rfl (wpAny_pure ?_))
  simp only [if_true]
  refine wpAny_bind (wpAny_rule ?_)
  refine wpAny_bind (wpAny_field e4 rfl (x := old) rfl ?_)
  refine wpAny_bind (wpAny_setField_rec e4 (by simp) fun k5 e5 sb5 => ?_)
  have sb5 : Heap.SameBut e k4 k5 := sb5
  have e5 : IsEnum k5 e it ((i : Int) + 1) x := e5
  show wpAny _ _ (Builtin.SmallTypes.ownedTupleHandOut (.ref e) (.ref hp.objs.size) >>= _) _ _ ⟨k5, g, d, tk + 1, os⟩
  refine wpAny_bind ?_
  unfold Builtin.SmallTypes.ownedTupleHandOut
  refine wpAny_bind (wpAny_setField_rec e5 (by simp) fun k6 e6 sb6 => ?_)
  have sb6 : Heap.SameBut e k5 k6 := sb6
  have e6 : IsEnumOut k6 e it ((i : Int) + 1) x hp.objs.size := e6
  refine wpAny_setField_rec e6 (by simp) fun k7 e7 sb7 => ?_
  have sb7 : Heap.SameBut e k6 k7 := sb7
  have e7 : IsEnumOut k7 e it ((i : Int) + 1) x hp.objs.size := e7
  have up : ∀ b o, b ≠ e → k4.get? b = some o → k7.get? b = some o := fun b o hb q => sb7.extBut b o hb (sb6.extBut b o hb (sb5.extBut b o hb q))
  refine wpAny_bind (wpAny_letGo (wpAny_pure ⟨_, rfl, wpAny_pure (hQ k7 e7 ?_ ?_ ?_)⟩))
  · exact hP k1 k7 p1 fun o q => up it o (Ne.symm hne) (keep4 it o (Ne.symm hne) q)
  · exact up _ _ (Nat.ne_of_gt el) t4
  · exact fun b o hb hi q => up b o hb (keep4 b o hb (sb1.extBut b o hi q))
theorem enumT_end {e it l : Addr} {i : Nat} {items : Array Value} {old : Value} {Q : Option Value → Shared → Prop} (hh : A.handled = none)
    (he : IsEnum s.heap e it i old) (hit : s.heap.IsTupleIter it l i) (hl : s.heap.IsTuple l items) (hx : items[i]? = none)
    (hQ : ∀ h', Heap.ExtBut it s.heap h' → Q none { s with heap := h' }) : wpAny (model prog w) A (pyNext (.ref e)) Q E s := by
  have hT : s.TypeIs (.ref e) "enumerate" := ⟨_, he, rfl⟩
  unfold pyNext
  refine wpAny_bind (wpAny_attempt (wpAny_callSpecial?_slot (name := Str.ofString "__next__") hT F.slot_enumerate_next (wpAny_call_entry F.slot_enumerate_next hT F.entry_enumerate_next ?_ (F.args_enumerate_next_1 _))))
  show wpAny _ _ (field (.ref e) 2 >>= _) _ _ _
  refine wpAny_bind (wpAny_field he rfl (x := .ref it) rfl ?_)
  refine wpAny_bind (RZ.nextOf_tuple_end hh hit hl hx fun h' x he' ⟨o, ho, hc⟩ => ?_)
  exact wpAny_bind (wpAny_isInstance (T := "StopIteration") (b := true) ⟨o, ho, hc⟩ isSubtype_stop (wpAny_pure (hQ _ he')))
end
end DS
namespace DS
open PySem L2
/-- the tuple at a, each item in a new pair with its place -/
def ItEt (K : PySem.W.Frag) (a : Addr) : It :=
  ⟨fun i H => ∃ (xs : List V) (x : V), SqT K H a xs ∧ xs[i]? = some x, fun i H v H' => ∃ p x, v = .ref p ∧ H p = none ∧ H' = upd H p (.tup [.int (i : Nat), x]) ∧ ∀ xs, SqT K H a xs → xs[i]? = some x, fun i H => ∃ xs : List V, SqT K H a xs ∧ xs.length ≤ i⟩
theorem turn_enT {P : Program} {w : World} {K : PySem.W.Frag} {elts : List Expr} {kk : Nat} {tpos : Pos} (a e it : Addr) :
    Turn P w K (.Tuple elts kk tpos) (ItEt K a) [e, it] e (fun i h => (∃ old, IsEnum h e it ((i : Nat) : Int) old) ∧ h.IsTupleIter it a i ∧ e ≠ it) where
  mem := by simp
  obj := fun i h ⟨⟨old, he⟩, ⟨o, ho, hc, hd⟩, _⟩ b hb => by
    rcases (by simpa using hb : b = e ∨ b = it) with rfl | rfl
    · exact ⟨_, he, fun v q => nomatch q⟩
    · exact ⟨o, ho, fun v q => by rw [hd] at q; cases q⟩
  keep := fun i h h' ⟨⟨old, he⟩, hi, hne⟩ k => ⟨⟨old, k e (by simp) _ he⟩, hi.at fun o q => k it (by simp) o q, hne⟩
  item := by
    intro X hP hw hK hc i pins s σ H E I hf st hg
    subst hP hw hK
    obtain ⟨⟨old, he⟩, hit, hne⟩ := st
    obtain ⟨xs, x, hq, hx⟩ := hg
    obtain ⟨its, rv, p, _⟩ := I.tuple hq
    obtain ⟨u, hu, ru⟩ := rv.get hx
    have el : e < s.heap.objs.size := Heap.lt_size he
    have il : it < s.heap.objs.size := let ⟨_, q, _⟩ := hit; Heap.lt_size q
    refine enum_item (P := fun h' => h'.IsTupleIter it a (i + 1)) he hne (fun A' Q' E' z => RZ.nextOf_tuple_item hit (show s.heap.IsTuple a its.toArray from p) (x := u) (by simpa using hu) z) (fun h h' q z => q.at z) fun h' ho hit' hT keep => ?_
    refine ⟨_, rfl, wpAny_letOwnedTupleGo_enum (s := { s with heap := h', toks := s.toks + 1 }) ho fun h'' he' sb => ?_⟩
    have hT2 : h''.get? s.heap.objs.size = some { cls := .type "tuple", data := .seq #[.int i s.toks, u] } := (sb.2 _ (Nat.ne_of_gt el)).trans hT
    have I1 : Inv X pins σ (upd H s.heap.objs.size (.tup [.int (i : Nat), x])) { s with heap := h'', toks := s.toks + 1 } :=
      I.turnedNew (ch := [e, it]) (fun b ob hb q => (sb.2 b (fun z => hb (by simp [z]))).trans (keep b ob (fun z => hb (by simp [z])) (fun z => hb (by simp [z])) q)) hf (Nat.le_refl _)
        ⟨by show 2 ≤ sizeLine; decide, [.int i s.toks, u], .cons ⟨_, rfl⟩ (.cons ru .nil), ⟨_, hT2, rfl, _, rfl⟩⟩
    refine ⟨.ref s.heap.objs.size, _, I1, rfl, ⟨_, x, rfl, I.hok.fresh (Nat.le_refl _), rfl, fun ys hy => by rw [I.tuple_inj hy hq]; exact hx⟩, ⟨⟨u, ?_⟩, hit'.at fun o q => (sb.2 it (Ne.symm hne)).trans q, hne⟩, fun b hb => ?_⟩
    · rw [show ((i + 1 : Nat) : Int) = (i : Int) + 1 by omega]; exact he'
    · have lt : b < s.heap.objs.size := by
        rcases (by simpa using hb : b = e ∨ b = it) with rfl | rfl
        · exact el
        · exact il
      rw [upd_ne (Nat.ne_of_lt lt)]
      exact (hf b hb).1
  done := by
    intro X hP hw hK hc i pins s σ H E I hf ⟨⟨old, he⟩, hit, hne⟩ ⟨xs, hq, hx⟩
    subst hP hw hK
    obtain ⟨its, rv, p, _⟩ := I.tuple hq
    obtain ⟨f0, f1, f2, f3, f4, f5⟩ := hf it (by simp)
    have hl := rv.length
    exact enumT_end (I.ok.hd hc) he hit (show s.heap.IsTuple a its.toArray from p) (by simp; omega) fun h' eb => ⟨rfl, I.turned (t' := s.toks) (fun b o hb q => eb b o hb q) f0 f1 f3 f4 f5⟩
  self := fun A i s Q E ⟨⟨_, he⟩, _⟩ h => wpAny_pyIter_enum he h
/-- enumerate of a list or of a tuple -/
def iEnA (K : PySem.W.Frag) (ta : TA) : TI := fun σ H R => ta σ H fun vs H1 => ∃ a xs, vs = [.ref a] ∧ ((SqL K H1 a xs ∧ R (Ite K a) H1) ∨ (SqT K H1 a xs ∧ R (ItEt K a) H1))
theorem pi_enA {X : Cx} {e : Expr} {ta : TA} {p pos tpos : Pos} {elts : List Expr} {kk : Nat} (hg : Gl X "enumerate") (hm : X.mg "enumerate" = none) (ha : PA X [e] ta) (hs : starEach [e] X.env = [(false, eval e X.env)] := by rfl) :
    PI X (.Tuple elts kk tpos) (.Call (.Name "enumerate" p) [e] [] pos) (iEnA X.K ta) := by
  refine ⟨fun pins s σ H R I h => PyProof.Rows.Call_ (ld_blt I hg hm PyProof.Rows.boot_enumerate (PyProof.Rows.callWith_type1 (thn (ha.run pos pins s σ H _ I h) fun us s1 ⟨vs, H1, I1, r1, a, xs, ex, q⟩ => ?_) hs rfl))⟩
  subst ex
  obtain ⟨u, rfl, r⟩ := vals1 r1
  cases r
  have fresh : ∀ b, b ∈ [s1.heap.objs.size + 1, s1.heap.objs.size] → FpOk X pins H1 b := fun b hb => by
    have le : s1.heap.objs.size ≤ b := by
      rcases (by simpa using hb : b = s1.heap.objs.size + 1 ∨ b = s1.heap.objs.size) with rfl | rfl
      · exact Nat.le_add_right _ _
      · exact Nat.le_refl _
    exact I1.fpOk le (I1.hok.fresh le)
  rcases q with ⟨hq, q⟩ | ⟨hq, q⟩
  · obtain ⟨its, rv, p', _⟩ := I1.list hq
    exact call_enumerate_list p'.isList fun h' he hit hsz hk => wpAny_pyIter_enum he ⟨s1.heap.objs.size + 1, [s1.heap.objs.size + 1, s1.heap.objs.size], _, _, H1, rfl, I1.kept (t' := s1.toks) hk, turn_enum a (s1.heap.objs.size + 1) s1.heap.objs.size, ⟨⟨.none, he⟩, hit, Nat.succ_ne_self _⟩, fresh, q⟩
  · obtain ⟨its, rv, p', _⟩ := I1.tuple hq
    exact call_enumT (show s1.heap.IsTuple a its.toArray from p') fun h' he hit hk => wpAny_pyIter_enum he ⟨s1.heap.objs.size + 1, [s1.heap.objs.size + 1, s1.heap.objs.size], _, _, H1, rfl, I1.kept (t' := s1.toks) hk, turn_enT a (s1.heap.objs.size + 1) s1.heap.objs.size, ⟨⟨.none, he⟩, hit, Nat.succ_ne_self _⟩, fresh, q⟩
theorem walk_enT {K : PySem.W.Frag} {a : Addr} {xs : List V} : Walk (ItEt K a) xs.length (fun H => SqT K H a xs) (YPair (fun i => some (.int (i : Nat))) (fun i => xs[i]?)) :=
  ⟨fun i _ hi q => ⟨xs, xs[i], q, by simp [hi]⟩, fun _ q => ⟨xs, q, Nat.le_refl _⟩, fun i H v H' _ q ⟨p, x, h1, h2, h3, h4⟩ => ⟨p, .int (i : Nat), x, h1, h2, h3, rfl, h4 xs q⟩⟩
def enA (m : M D) : M (List D) := bnd m fun x => match x with
  | .list ds => ret (enD ds)
  | .tuple ds => ret (enD ds)
  | _ => stop
theorem en_it {T : Wd} {Hf : Hp} {ds : List D} {xs : List V} {J : It} {g : Hp → Prop} (ra : RpA T Hf ds xs) (w : Walk J xs.length g (YPair (fun i => some (.int (i : Nat))) (fun i => xs[i]?))) (hg : ∀ H, Same Hf H → g H) : ItOk T Hf J (enD ds) :=
  it_pair w hg (by simp [enD, RpA.length ra]) fun i d e => by
    obtain ⟨y, e2, rfl⟩ := en_get e
    obtain ⟨v, hv, rv⟩ := RpA.get ra e2
    refine ⟨_, _, rfl, fun x z hx hz => ?_⟩
    cases hx
    rw [hv] at hz; cases hz
    exact ⟨rp_int _, rv⟩
section
variable {C : DC} {n : Nm} {pos : Pos} {a b c : Expr} {ma mb mc : M D}
theorem di_enA {elts : List Expr} {kk : Nat} {tpos p : Pos} (S : Sc C n) (j : Nat) (hj : n.bs[j]? = some ("enumerate" : Str)) (ha : DE C a ma) : DI C (.Tuple elts kk tpos) (.Call (.Name "enumerate" p) [a] [] pos) (enA ma) :=
  ⟨PI.imp (pi_enA (S.bl hj).1 (S.bl hj).2 (pa_cons ha.pe pa_nil (star_ok ha.ok _ _)) (by rw [star_ok ha.ok]; rfl)) fun σ H R ⟨Hf, G, ρ, rr, h⟩ => post_bind rr h fun x d H1 Hf1 ρ1 s1 r1 rx p1 => (by
    split at p1
    · simp only [Rp] at rx
      obtain ⟨q, xs, rfl, s1, ra⟩ := rx
      exact ⟨q, xs, rfl, .inl ⟨r1.fz.seq s1, p1 _ H1 Hf1 (Same.refl _) r1 (en_it ra walk_enum fun H s => s.seq s1)⟩⟩
    · simp only [Rp] at rx
      obtain ⟨q, xs, rfl, s1, ra⟩ := rx
      exact ⟨q, xs, rfl, .inr ⟨Same.sqT r1.fz s1, p1 _ H1 Hf1 (Same.refl _) r1 (en_it ra walk_enT fun H s => Same.sqT s s1)⟩⟩
    · exact p1.elim), rfl⟩
@[simp ↓] theorem enA_eq (m : M D) (ρ : Rho) : enA m ρ = (bnd m fun x => match x with | .list ds => ret (enD ds) | .tuple ds => ret (enD ds) | _ => stop) ρ := id rfl
end
end DS
set_option maxHeartbeats 1000000
/-! zip of a list and a tuple -/
namespace DS
open PySem L2
section
variable {prog : Program} {w : World} {A : Around} {E : Value → Shared → Prop} {s : Shared}
section
variable {z ti tt i1 i2 l1 l2 : Addr} {k : Nat} {xs ys : Array Value} {x y a b : Value}
theorem zipM_item {Q : Option Value → Shared → Prop} (P : ZipApart z ti tt i1 i2 l1 l2)
    (hz : IsZip s.heap z ti tt .none) (hI : IsPair s.heap ti (.ref i1) (.ref i2)) (hO : IsPair s.heap tt a b)
    (j1 : s.heap.IsListIter i1 l1 k) (j2 : s.heap.IsTupleIter i2 l2 k) (m1 : s.heap.IsList l1 xs) (m2 : s.heap.IsTuple l2 ys) (gx : xs[k]? = some x) (gy : ys[k]? = some y)
    (hQ : ∀ h', IsZip h' z ti tt (rawInt s.heap.objs.size) → IsPair h' tt x y → h'.IsListIter i1 l1 (k + 1) → h'.IsTupleIter i2 l2 (k + 1) → IsPair h' s.heap.objs.size x y →
      (∀ c o, c ≠ z → c ≠ tt → c ≠ i1 → c ≠ i2 → s.heap.get? c = some o → h'.get? c = some o) → Q (some (.ref s.heap.objs.size)) { s with heap := h' }) :
    wpAny (model prog w) A (pyNext (.ref z)) Q E s := by
  have hT : s.TypeIs (.ref z) "zip" := ⟨_, hz, rfl⟩
  unfold pyNext
  refine wpAny_bind (wpAny_attempt (wpAny_callSpecial?_slot (name := Str.ofString "__next__") hT F.slot_zip_next (wpAny_call_entry F.slot_zip_next hT F.entry_zip_next ?_ (F.args_zip_next_1 _))))
  show wpAny _ _ (field (.ref z) 2 >>= _) _ _ _
  refine wpAny_bind (wpAny_field hz rfl (x := .bool false) rfl (show wpAny _ _ (field (.ref z) 3 >>= _) _ _ _ from wpAny_bind (wpAny_field hz rfl (x := .ref ti) rfl (wpAny_bind (wpAny_seqItems hI rfl ?_)))))
  show wpAny _ _ (Builtin.SmallTypes.ownedTupleIsFree (.ref z) >>= _) _ _ _
  refine wpAny_bind ?_
  unfold Builtin.SmallTypes.ownedTupleIsFree
  refine wpAny_bind (wpAny_field hz rfl (x := .none) rfl (wpAny_pure ?_))
  simp only [if_true]
  refine wpAny_bind (wpAny_rule (wpAny_bind (wpAny_field hz rfl (x := .ref tt) rfl (wpAny_bind (wpAny_setField_rec hz (by simp) fun g1 zz1 sb1 => ?_)))))
  have z1 : IsZip g1 z ti tt .ellipsis := zz1
  refine wpAny_bind ?_
  simp only [List.zipIdx_cons, List.zipIdx_nil, List.forIn_cons, List.forIn_nil]
  refine wpAny_bind (wpAny_bind (wpAny_onRaise (show wpAny _ _ (Builtin.SmallTypes.nextOf (.ref i1) >>= _) _ _ _ from ?_)))
  refine wpAny_bind (wpAny_nextOf_list_item (j1.extBut sb1.extBut P.i1z) (m1.extBut sb1.extBut P.l1z) gx fun g2 j1b sb2 => wpAny_pure ?_)
  have O2 : IsPair g2 tt a b := sb2.extBut _ _ P.TOi1 (sb1.extBut _ _ P.TOz hO)
  refine wpAny_bind (wpAny_seqItems O2 rfl (wpAny_bind (wpAny_updateSeq_pair O2 fun g3 OO3 sb3 => wpAny_bind (wpAny_letGo (wpAny_pure ?_)))))
  have O3 : IsPair g3 tt x b := OO3
  refine wpAny_bind (wpAny_bind (wpAny_onRaise (show wpAny _ _ (Builtin.SmallTypes.nextOf (.ref i2) >>= _) _ _ _ from ?_)))
  refine wpAny_bind (RZ.nextOf_tuple_item (((j2.extBut sb1.extBut P.i2z).extBut sb2.extBut P.i12.symm).extBut sb3.extBut P.TOi2.symm) (((m2.extBut sb1.extBut P.l2z).extBut sb2.extBut P.l2i1).extBut sb3.extBut P.l2TO) gy fun g4 j2b sb4 => wpAny_pure ?_)
  have O4 : IsPair g4 tt x b := sb4.extBut _ _ P.TOi2 O3
  refine wpAny_bind (wpAny_seqItems O4 rfl (wpAny_bind (wpAny_updateSeq_pair O4 fun g5 OO5 sb5 => wpAny_bind (wpAny_letGo (wpAny_pure (wpAny_pure ?_))))))
  have O5 : IsPair g5 tt x y := OO5
  refine wpAny_bind (wpAny_seqItems O5 rfl (wpAny_bind (wpAny_newTuple ?_)))
  have sz : g5.objs.size = s.heap.objs.size := by rw [sb5.1, sb4.1, sb3.1, sb2.1, sb1.1]
  have z5 : IsZip g5 z ti tt .ellipsis := sb5.extBut _ _ P.TOz.symm (sb4.extBut _ _ P.i2z.symm (sb3.extBut _ _ P.TOz.symm (sb2.extBut _ _ P.i1z.symm z1)))
  have kp5 : ∀ c o, c ≠ z → c ≠ tt → c ≠ i1 → c ≠ i2 → s.heap.get? c = some o → g5.get? c = some o := fun c o c1 c2 c3 c4 e => sb5.extBut _ _ c2 (sb4.extBut _ _ c4 (sb3.extBut _ _ c2 (sb2.extBut _ _ c3 (sb1.extBut _ _ c1 e))))
  have j15 : g5.IsListIter i1 l1 (k + 1) := ((j1b.extBut sb3.extBut P.TOi1.symm).extBut sb4.extBut P.i12).extBut sb5.extBut P.TOi1.symm
  have j25 : g5.IsTupleIter i2 l2 (k + 1) := j2b.extBut sb5.extBut P.TOi2.symm
  have zl : z < g5.objs.size := Heap.lt_size z5
  show wpAny _ _ (Builtin.SmallTypes.ownedTupleHandOut (.ref z) (.ref g5.objs.size) >>= _) _ _ _
  refine wpAny_bind ?_
  unfold Builtin.SmallTypes.ownedTupleHandOut
  have z6 : IsZip (g5.push { cls := .type "tuple", data := .seq #[x, y] }) z ti tt .ellipsis := Heap.get?_push_of_some _ z5
  refine wpAny_bind (wpAny_setField_rec z6 (by simp) fun g7 zz7 sb7 => ?_)
  have z7 : IsZip g7 z ti tt (rawInt g5.objs.size) := zz7
  refine wpAny_setField_rec z7 (by simp) fun g8 zz8 sb8 => ?_
  have z8 : IsZip g8 z ti tt (rawInt g5.objs.size) := zz8
  have up : ∀ c o, c ≠ z → g5.get? c = some o → g8.get? c = some o := fun c o c1 e => sb8.extBut _ _ c1 (sb7.extBut _ _ c1 (Heap.get?_push_of_some _ e))
  have new8 : IsPair g8 g5.objs.size x y := sb8.extBut _ _ (Nat.ne_of_gt zl) (sb7.extBut _ _ (Nat.ne_of_gt zl) (Heap.get?_push_size _ rfl))
  rw [sz] at z8 new8
  refine wpAny_pure ⟨_, rfl, wpAny_pure ?_⟩
  show Q (some (.ref g5.objs.size)) _
  rw [sz]
  exact hQ g8 z8 (up _ _ P.TOz O5) (j15.at fun o e => up _ o P.i1z e) (j25.at fun o e => up _ o P.i2z e) new8 fun c o c1 c2 c3 c4 e => up c o c1 (kp5 c o c1 c2 c3 c4 e)
theorem zipM_end {Q : Option Value → Shared → Prop} (hh : A.handled = none) (P : ZipApart z ti tt i1 i2 l1 l2)
    (hz : IsZip s.heap z ti tt .none) (hI : IsPair s.heap ti (.ref i1) (.ref i2)) (hO : IsPair s.heap tt a b)
    (j1 : s.heap.IsListIter i1 l1 k) (j2 : s.heap.IsTupleIter i2 l2 k) (m1 : s.heap.IsList l1 xs) (m2 : s.heap.IsTuple l2 ys) (fin : xs[k]? = none ∨ ys[k]? = none)
    (hQ : ∀ h', (∀ c o, c ≠ z → c ≠ tt → c ≠ i1 → c ≠ i2 → s.heap.get? c = some o → h'.get? c = some o) → Q none { s with heap := h' }) : wpAny (model prog w) A (pyNext (.ref z)) Q E s := by
  have hT : s.TypeIs (.ref z) "zip" := ⟨_, hz, rfl⟩
  unfold pyNext
  refine wpAny_bind (wpAny_attempt (wpAny_callSpecial?_slot (name := Str.ofString "__next__") hT F.slot_zip_next (wpAny_call_entry F.slot_zip_next hT F.entry_zip_next ?_ (F.args_zip_next_1 _))))
  have over : ∀ (g : Heap) (e : Addr), (∀ c o, c ≠ z → c ≠ tt → c ≠ i1 → c ≠ i2 → s.heap.get? c = some o → g.get? c = some o) → (∃ o, g.get? e = some o ∧ o.cls = .type "StopIteration") →
      ∀ g', Heap.SameBut z g g' → (∃ o, g.get? z = some o ∧ o.cls = .type "zip") → wpAny (model prog w) A (isInstance (.ref e) (.type "StopIteration") >>= fun c => if c = true then pure none else throw (.ref e)) Q E { s with heap := g' } := by
    intro g e kp ⟨o, ho, hc⟩ g' sb ⟨oz, hoz, hcz⟩
    have hne : e ≠ z := fun q => by subst q; rw [hoz] at ho; cases ho; rw [hcz] at hc; simp at hc
    refine wpAny_bind (wpAny_isInstance (T := "StopIteration") (b := true) ⟨o, sb.extBut _ _ hne ho, hc⟩ isSubtype_stop ?_)
    exact wpAny_pure (hQ _ fun c o c1 c2 c3 c4 q => sb.extBut _ _ c1 (kp c o c1 c2 c3 c4 q))
  show wpAny _ _ (field (.ref z) 2 >>= _) _ _ _
  refine wpAny_bind (wpAny_field hz rfl (x := .bool false) rfl (show wpAny _ _ (field (.ref z) 3 >>= _) _ _ _ from wpAny_bind (wpAny_field hz rfl (x := .ref ti) rfl (wpAny_bind (wpAny_seqItems hI rfl ?_)))))
  show wpAny _ _ (Builtin.SmallTypes.ownedTupleIsFree (.ref z) >>= _) _ _ _
  refine wpAny_bind ?_
  unfold Builtin.SmallTypes.ownedTupleIsFree
  refine wpAny_bind (wpAny_field hz rfl (x := .none) rfl (wpAny_pure ?_))
  simp only [if_true]
  refine wpAny_bind (wpAny_rule (wpAny_bind (wpAny_field hz rfl (x := .ref tt) rfl (wpAny_bind (wpAny_setField_rec hz (by simp) fun g1 zz1 sb1 => ?_)))))
  have z1 : IsZip g1 z ti tt .ellipsis := zz1
  refine wpAny_bind ?_
  simp only [List.zipIdx_cons, List.zipIdx_nil, List.forIn_cons, List.forIn_nil]
  refine wpAny_bind (wpAny_bind (wpAny_onRaise (show wpAny _ _ (Builtin.SmallTypes.nextOf (.ref i1) >>= _) _ _ _ from ?_)))
  cases gx : xs[k]? with
  | none =>
    refine wpAny_bind (wpAny_nextOf_list_end hh (j1.extBut sb1.extBut P.i1z) (m1.extBut sb1.extBut P.l1z) gx fun g2 e sb2 he => ?_)
    have z2 : IsZip g2 z ti tt .ellipsis := sb2 _ _ P.i1z.symm z1
    exact wpAny_setField_rec z2 (by simp) fun g3 _ sb3 => over g2 e (fun c o c1 _ c3 _ q => sb2 _ _ c3 (sb1.extBut _ _ c1 q)) he g3 sb3 ⟨_, z2, rfl⟩
  | some x =>
    have gy : ys[k]? = none := fin.resolve_left (by rw [gx]; simp)
    refine wpAny_bind (wpAny_nextOf_list_item (j1.extBut sb1.extBut P.i1z) (m1.extBut sb1.extBut P.l1z) gx fun g2 j1b sb2 => wpAny_pure ?_)
    have O2 : IsPair g2 tt a b := sb2.extBut _ _ P.TOi1 (sb1.extBut _ _ P.TOz hO)
    refine wpAny_bind (wpAny_seqItems O2 rfl (wpAny_bind (wpAny_updateSeq_pair O2 fun g3 OO3 sb3 => wpAny_bind (wpAny_letGo (wpAny_pure ?_)))))
    refine wpAny_bind (wpAny_bind (wpAny_onRaise (show wpAny _ _ (Builtin.SmallTypes.nextOf (.ref i2) >>= _) _ _ _ from ?_)))
    refine wpAny_bind (RZ.nextOf_tuple_end hh (((j2.extBut sb1.extBut P.i2z).extBut sb2.extBut P.i12.symm).extBut sb3.extBut P.TOi2.symm) (((m2.extBut sb1.extBut P.l2z).extBut sb2.extBut P.l2i1).extBut sb3.extBut P.l2TO) gy fun g4 e sb4 he => ?_)
    have z4 : IsZip g4 z ti tt .ellipsis := sb4 _ _ P.i2z.symm (sb3.extBut _ _ P.TOz.symm (sb2.extBut _ _ P.i1z.symm z1))
    exact wpAny_setField_rec z4 (by simp) fun g5 _ sb5 => over g4 e (fun c o c1 c2 c3 c4 q => sb4 _ _ c4 (sb3.extBut _ _ c2 (sb2.extBut _ _ c3 (sb1.extBut _ _ c1 q)))) he g5 sb5 ⟨_, z4, rfl⟩
end
end
end DS
set_option maxHeartbeats 1000000
namespace DS
open PySem L2
def zl1 (h : Heap) (p : Addr) : Heap := h.push { cls := .type "list_iterator", data := .fields #[.ref p, .int 0 0] }
def zl2 (h : Heap) (p q : Addr) : Heap := (zl1 h p).push { cls := .type "tuple_iterator", data := .fields #[.ref q, .int 0 0] }
def zl3 (h : Heap) (p q : Addr) : Heap := (zl2 h p q).push { cls := .type "tuple", data := .seq #[.ref h.objs.size, .ref (zl1 h p).objs.size] }
def zl4 (h : Heap) (p q : Addr) : Heap := (zl3 h p q).push { cls := .type "tuple", data := .seq #[.none, .none] }
def zl5 (h : Heap) (p q : Addr) : Heap := (zl4 h p q).push { cls := .type "zip", data := .fields #[.none, .bool false, .bool false, .ref (zl2 h p q).objs.size, .ref (zl3 h p q).objs.size] }
theorem new_zipM (p q : Addr) (xs ys : Array Value) : Meets (Builtin.«zip.__new__» ⟨[.type "zip", .ref p, .ref q], []⟩) (fun _ R s => s.heap.IsList p xs ∧ s.heap.IsTuple q ys ∧ R (.ok (.ret (.ref (zl4 s.heap p q).objs.size))) { s with heap := zl5 s.heap p q }) :=
  .of_wp fun prog w A R s ⟨m1, m2, h⟩ => by
    obtain ⟨hp, g, d, tk, os⟩ := s
    have sub := sub_zip
    have n1 : Heap.IsList (Shared.heap ⟨hp, g, d, tk, os⟩) p xs := m1
    have n2 : Heap.IsTuple (Shared.heap ⟨hp.push { cls := .type "list_iterator", data := .fields #[.ref p, .int 0 0] }, g, d, tk, os⟩) q ys := Heap.IsTuple.push m2 _
    wp_walk using wpAny_pyIter_list n1, wpAny_pyIter_tuple n2
    exact ⟨_, rfl, h⟩
section
variable {prog : Program} {w : World} {A : Around} {E : Value → Shared → Prop} {s : Shared}
theorem call_zipM {p q : Addr} {xs ys : Array Value} {Q : Value → Shared → Prop} (m1 : s.heap.IsList p xs) (m2 : s.heap.IsTuple q ys)
    (h : ∀ h', IsZip h' (s.heap.objs.size + 4) (s.heap.objs.size + 2) (s.heap.objs.size + 3) .none → IsPair h' (s.heap.objs.size + 2) (.ref s.heap.objs.size) (.ref (s.heap.objs.size + 1)) →
      IsPair h' (s.heap.objs.size + 3) .none .none → h'.IsListIter s.heap.objs.size p 0 → h'.IsTupleIter (s.heap.objs.size + 1) q 0 →
      (∀ c o, s.heap.get? c = some o → h'.get? c = some o) → Q (.ref (s.heap.objs.size + 4)) { s with heap := h' }) :
    wpAny (model prog w) A (call (.type "zip") [.ref p, .ref q]) Q E s := by
  refine callType_new F.called_zip (by decide) (F.typeCall_zip_2 _ _) (F.newCall_zip_2 _ _) (fun obj => F.args_object_init_3 obj _ _) F.entry_zip_new (new_zipM p q xs ys) ⟨m1, m2, ?_⟩
  have s1 : (zl1 s.heap p).objs.size = s.heap.objs.size + 1 := Heap.size_push ..
  have s2 : (zl2 s.heap p q).objs.size = s.heap.objs.size + 2 := by unfold zl2; rw [Heap.size_push, s1]
  have s3 : (zl3 s.heap p q).objs.size = s.heap.objs.size + 3 := by unfold zl3; rw [Heap.size_push, s2]
  have s4 : (zl4 s.heap p q).objs.size = s.heap.objs.size + 4 := by unfold zl4; rw [Heap.size_push, s3]
  have u5 : ∀ c o, (zl4 s.heap p q).get? c = some o → (zl5 s.heap p q).get? c = some o := fun c o x => Heap.get?_push_of_some _ x
  have u4 : ∀ c o, (zl3 s.heap p q).get? c = some o → (zl4 s.heap p q).get? c = some o := fun c o x => Heap.get?_push_of_some _ x
  have u3 : ∀ c o, (zl2 s.heap p q).get? c = some o → (zl3 s.heap p q).get? c = some o := fun c o x => Heap.get?_push_of_some _ x
  have u2 : ∀ c o, (zl1 s.heap p).get? c = some o → (zl2 s.heap p q).get? c = some o := fun c o x => Heap.get?_push_of_some _ x
  have u1 : ∀ c o, s.heap.get? c = some o → (zl1 s.heap p).get? c = some o := fun c o x => Heap.get?_push_of_some _ x
  have g5 : (zl5 s.heap p q).get? (zl4 s.heap p q).objs.size = some _ := Heap.get?_push_size _ rfl
  have g4 : (zl5 s.heap p q).get? (zl3 s.heap p q).objs.size = some _ := u5 _ _ (Heap.get?_push_size _ rfl)
  have g3 : (zl5 s.heap p q).get? (zl2 s.heap p q).objs.size = some _ := u5 _ _ (u4 _ _ (Heap.get?_push_size _ rfl))
  have g2 : (zl5 s.heap p q).get? (zl1 s.heap p).objs.size = some _ := u5 _ _ (u4 _ _ (u3 _ _ (Heap.get?_push_size _ rfl)))
  have g1 : (zl5 s.heap p q).get? s.heap.objs.size = some _ := u5 _ _ (u4 _ _ (u3 _ _ (u2 _ _ (Heap.get?_push_size _ rfl))))
  show _ ∧ _
  rw [s2, s3, s4] at g5
  rw [s1, s2] at g3
  rw [s3] at g4
  rw [s1] at g2
  rw [s4]
  exact ⟨⟨_, g5, rfl⟩, h _ g5 g3 g4 ⟨_, g1, rfl, rfl⟩ ⟨_, g2, rfl, rfl⟩ fun c o x => u5 _ _ (u4 _ _ (u3 _ _ (u2 _ _ (u1 _ _ x))))⟩
end
/-- the list at a and the tuple at b -/
def ItZm (K : PySem.W.Frag) (a b : Addr) : It :=
  ⟨fun i H => ∃ (xs ys : List V) (x y : V), SqL K H a xs ∧ SqT K H b ys ∧ xs[i]? = some x ∧ ys[i]? = some y,
    fun i H v H' => ∃ p x y, v = .ref p ∧ H p = none ∧ H' = upd H p (.tup [x, y]) ∧ (∀ xs, SqL K H a xs → xs[i]? = some x) ∧ ∀ ys, SqT K H b ys → ys[i]? = some y,
    fun i H => ∃ xs ys : List V, SqL K H a xs ∧ SqT K H b ys ∧ (xs.length ≤ i ∨ ys.length ≤ i)⟩
theorem turn_zipM {P : Program} {w : World} {K : PySem.W.Frag} {elts : List Expr} {kk : Nat} {tpos : Pos} {a b z ti tt i1 i2 : Addr} (D : ZipApart z ti tt i1 i2 a b) :
    Turn P w K (.Tuple elts kk tpos) (ItZm K a b) [z, ti, tt, i1, i2] z (fun i h => IsZip h z ti tt .none ∧ IsPair h ti (.ref i1) (.ref i2) ∧ (∃ x y, IsPair h tt x y) ∧ h.IsListIter i1 a i ∧ h.IsTupleIter i2 b i) where
  mem := by simp
  obj := fun i h ⟨hz, hI, ⟨x, y, hO⟩, ⟨o1, e1, _, d1⟩, ⟨o2, e2, _, d2⟩⟩ c hc => by
    rcases (by simpa using hc : c = z ∨ c = ti ∨ c = tt ∨ c = i1 ∨ c = i2) with rfl | rfl | rfl | rfl | rfl
    · exact ⟨_, hz, fun v q => nomatch q⟩
    · exact ⟨_, hI, fun v q => nomatch q⟩
    · exact ⟨_, hO, fun v q => nomatch q⟩
    · exact ⟨o1, e1, fun v q => by rw [d1] at q; cases q⟩
    · exact ⟨o2, e2, fun v q => by rw [d2] at q; cases q⟩
  keep := fun i h h' ⟨hz, hI, ⟨x, y, hO⟩, j1, j2⟩ k => ⟨k z (by simp) _ hz, k ti (by simp) _ hI, ⟨x, y, k tt (by simp) _ hO⟩, j1.at fun o q => k i1 (by simp) o q, j2.at fun o q => k i2 (by simp) o q⟩
  item := by
    intro X hP hw hK hc i pins s σ H E I hf ⟨hz, hI, ⟨x0, y0, hO⟩, j1, j2⟩ ⟨xs, ys, x, y, qx, qy, hx, hy⟩
    subst hP hw hK
    obtain ⟨its, rv, p, _⟩ := I.list qx
    obtain ⟨its2, rv2, p2, _⟩ := I.tuple qy
    obtain ⟨u, hu, ru⟩ := rv.get hx
    obtain ⟨u2, hu2, ru2⟩ := rv2.get hy
    have zl : z < s.heap.objs.size := Heap.lt_size hz
    have lts : ∀ c, c ∈ [z, ti, tt, i1, i2] → c < s.heap.objs.size := fun c hcm => by
      rcases (by simpa using hcm : c = z ∨ c = ti ∨ c = tt ∨ c = i1 ∨ c = i2) with rfl | rfl | rfl | rfl | rfl
      · exact zl
      · exact Heap.lt_size hI
      · exact Heap.lt_size hO
      · exact let ⟨_, e1, _⟩ := j1; Heap.lt_size e1
      · exact let ⟨_, e2, _⟩ := j2; Heap.lt_size e2
    refine zipM_item D hz hI hO j1 j2 p.isList (show s.heap.IsTuple b its2.toArray from p2) (x := u) (y := u2) (by simpa using hu) (by simpa using hu2) fun h' z' O' j1' j2' hT hk => ?_
    refine ⟨_, rfl, wpAny_letOwnedTupleGo_zip (s := { s with heap := h' }) z' fun h'' z'' sb => ?_⟩
    have hT2 : h''.get? s.heap.objs.size = some { cls := .type "tuple", data := .seq #[u, u2] } := (sb.2 _ (Nat.ne_of_gt zl)).trans hT
    have I1 : Inv X pins σ (upd H s.heap.objs.size (.tup [x, y])) { s with heap := h'' } :=
      I.turnedNew (t' := s.toks) (ch := [z, ti, tt, i1, i2]) (fun c o hb q => by
        have n : c ≠ z ∧ c ≠ ti ∧ c ≠ tt ∧ c ≠ i1 ∧ c ≠ i2 := by simpa using hb
        exact (sb.2 c n.1).trans (hk c o n.1 n.2.2.1 n.2.2.2.1 n.2.2.2.2 q)) hf (Nat.le_refl _) ⟨by show 2 ≤ sizeLine; decide, [u, u2], .cons ru (.cons ru2 .nil), ⟨_, hT2, rfl, _, rfl⟩⟩
    refine ⟨.ref s.heap.objs.size, _, I1, rfl, ⟨_, x, y, rfl, I.hok.fresh (Nat.le_refl _), rfl, fun l hl => by rw [I.list_inj hl qx]; exact hx, fun l hl => by rw [I.tuple_inj hl qy]; exact hy⟩, ⟨z'', ?_, ⟨u, u2, ?_⟩, ?_, ?_⟩, fun c hcm => ?_⟩
    · exact (sb.2 _ D.TIz).trans (hk _ _ D.TIz D.TITO D.TIi1 D.TIi2 hI)
    · exact (sb.2 _ D.TOz).trans O'
    · exact j1'.at fun o q => (sb.2 _ D.i1z).trans q
    · exact j2'.at fun o q => (sb.2 _ D.i2z).trans q
    · rw [upd_ne (Nat.ne_of_lt (lts c hcm))]
      exact (hf c hcm).1
  done := by
    intro X hP hw hK hc i pins s σ H E I hf ⟨hz, hI, ⟨x0, y0, hO⟩, j1, j2⟩ ⟨xs, ys, qx, qy, fin⟩
    subst hP hw hK
    obtain ⟨its, rv, p, _⟩ := I.list qx
    obtain ⟨its2, rv2, p2, _⟩ := I.tuple qy
    have n1 := rv.length
    have n2 := rv2.length
    have he : its.toArray[i]? = none ∨ its2.toArray[i]? = none := fin.imp (fun q => by simp; omega) fun q => by simp; omega
    exact zipM_end (I.ok.hd hc) D hz hI hO j1 j2 p.isList (show s.heap.IsTuple b its2.toArray from p2) he fun h' hk => ⟨rfl, I.turnedL (t' := s.toks) (ch := [z, ti, tt, i1, i2]) (fun c o hb q => by
      have n : c ≠ z ∧ c ≠ ti ∧ c ≠ tt ∧ c ≠ i1 ∧ c ≠ i2 := by simpa using hb
      exact hk c o n.1 n.2.2.1 n.2.2.2.1 n.2.2.2.2 q) hf⟩
  self := fun A i s Q E st h => wpAny_pyIter_zip st.1 h
def iZm (K : PySem.W.Frag) (ta : TA) : TI := fun σ H R => ta σ H fun vs H1 => ∃ a b xs ys, vs = [.ref a, .ref b] ∧ SqL K H1 a xs ∧ SqT K H1 b ys ∧ R (ItZm K a b) H1
theorem pi_zipM {X : Cx} {e e2 : Expr} {ta : TA} {p pos tpos : Pos} {elts : List Expr} {kk : Nat} (hg : Gl X "zip") (hm : X.mg "zip" = none) (ha : PA X [e, e2] ta)
    (hs : starEach [e, e2] X.env = (false, eval e X.env) :: starEach [e2] X.env := by rfl) (hpl : (backTo pos (starEach [e2] X.env)).any (·.1) = false := by rfl) :
    PI X (.Tuple elts kk tpos) (.Call (.Name "zip" p) [e, e2] [] pos) (iZm X.K ta) := by
  refine ⟨fun pins s σ H R I h => PyProof.Rows.Call_ (ld_blt I hg hm PyProof.Rows.boot_zip (PyProof.Rows.callWith_type1 (thn (ha.run pos pins s σ H _ I h) fun us s1 ⟨vs, H1, I1, r1, a, b, xs, ys, ex, qx, qy, q⟩ => ?_) hs hpl))⟩
  subst ex
  cases r1 with
  | cons r rr =>
    obtain ⟨u, rfl, r'⟩ := vals1 rr
    cases r
    cases r'
    obtain ⟨its, rv, p1, _⟩ := I1.list qx
    obtain ⟨its2, rv2, p2, _⟩ := I1.tuple qy
    obtain ⟨o2, ho2, _⟩ := id p2
    refine call_zipM p1.isList (show s1.heap.IsTuple b its2.toArray from p2) fun h' hz hI hO j1 j2 hk => wpAny_pyIter_zip hz ?_
    refine ⟨s1.heap.objs.size + 4, [s1.heap.objs.size + 4, s1.heap.objs.size + 2, s1.heap.objs.size + 3, s1.heap.objs.size, s1.heap.objs.size + 1], _, _, H1, rfl, I1.kept (t' := s1.toks) hk, turn_zipM (PySem.W.ktu_apart s1.heap.objs.size a b p1.lt (Heap.lt_size ho2)), ⟨hz, hI, ⟨_, _, hO⟩, j1, j2⟩, fun c hcm => ?_, q⟩
    have le : s1.heap.objs.size ≤ c := by
      have := (by simpa using hcm : c = s1.heap.objs.size + 4 ∨ c = s1.heap.objs.size + 2 ∨ c = s1.heap.objs.size + 3 ∨ c = s1.heap.objs.size ∨ c = s1.heap.objs.size + 1)
      rcases this with rfl | rfl | rfl | rfl | rfl <;> first | exact Nat.le_add_right _ _ | exact Nat.le_refl _
    exact I1.fpOk le (I1.hok.fresh le)
theorem walk_zipM {K : PySem.W.Frag} {a b : Addr} {xs ys : List V} {n : Nat} (hn : n = min xs.length ys.length) : Walk (ItZm K a b) n (fun H => SqL K H a xs ∧ SqT K H b ys) (YPair (fun i => xs[i]?) (fun i => ys[i]?)) := by
  subst hn
  refine ⟨fun i _ hi q => ?_, fun _ q => ⟨xs, ys, q.1, q.2, by omega⟩, fun i H v H' _ q ⟨p, x, y, h1, h2, h3, h4, h5⟩ => ⟨p, x, y, h1, h2, h3, h4 xs q.1, h5 ys q.2⟩⟩
  have l1 : i < xs.length := by omega
  have l2 : i < ys.length := by omega
  exact ⟨xs, ys, xs[i], ys[i], q.1, q.2, by simp [l1], by simp [l2]⟩
def zipD (a b : List D) : List D := List.zipWith (fun x y => .tuple [x, y]) a b
def zipM (ma mb : M D) : M (List D) := bnd ma fun x => bnd mb fun y => match x, y with
  | .list a, .tuple b => ret (zipD a b)
  | _, _ => stop
section
variable {C : DC} {n : Nm} {pos : Pos} {a b c : Expr} {ma mb mc : M D}
theorem di_zip {elts : List Expr} {kk : Nat} {tpos p : Pos} (S : Sc C n) (j : Nat) (hj : n.bs[j]? = some ("zip" : Str)) (ha : DE C a ma) (hb : DE C b mb) : DI C (.Tuple elts kk tpos) (.Call (.Name "zip" p) [a, b] [] pos) (zipM ma mb) :=
  ⟨PI.imp (pi_zipM (S.bl hj).1 (S.bl hj).2 (pa_cons ha.pe (pa_cons hb.pe pa_nil (star_ok hb.ok _ _)) (star_ok ha.ok _ _)) (star_ok ha.ok _ _) (by rw [star_ok hb.ok]; rfl)) fun σ H R ⟨Hf, G, ρ, rr, h⟩ => post_bind rr h fun x d H1 Hf1 ρ1 s1 r1 rx p1 => post_bind r1 p1 fun y d2 H2 Hf2 ρ2 s2 r2 ry p2 => (by
    split at p2
    · rename_i da db
      have rx := Rp.mono s2 _ _ rx
      simp only [Rp] at rx ry
      obtain ⟨q, xs, rfl, sx, ra⟩ := rx
      obtain ⟨q2, ys, rfl, sy, rb⟩ := ry
      refine ⟨q, q2, xs, ys, rfl, r2.fz.seq sx, Same.sqT r2.fz sy, p2 _ H2 Hf2 (Same.refl _) r2 (it_pair (walk_zipM rfl) (fun H s => ⟨s.seq sx, Same.sqT s sy⟩) (by simp [zipD, RpA.length ra, RpA.length rb]) fun i d e => ?_)⟩
      unfold zipD at e
      rw [List.getElem?_zipWith] at e
      cases ea : da[i]? with
      | none => rw [ea] at e; cases e
      | some v1 =>
        cases eb : db[i]? with
        | none => rw [ea, eb] at e; cases e
        | some v2 =>
          rw [ea, eb] at e
          cases e
          obtain ⟨w1, hw1, rw1⟩ := RpA.get ra ea
          obtain ⟨w2, hw2, rw2⟩ := RpA.get rb eb
          refine ⟨_, _, rfl, fun x y hx hy => ?_⟩
          rw [hw1] at hx
          rw [hw2] at hy
          cases hx
          cases hy
          exact ⟨rw1, rw2⟩
    · exact p2.elim), rfl⟩
@[simp ↓] theorem zipM_eq (ma mb : M D) (ρ : Rho) : zipM ma mb ρ = (bnd ma fun x => bnd mb fun y => match x, y with | .list a, .tuple b => ret (zipD a b) | _, _ => stop) ρ := id rfl
/-! ### range with a step -/
theorem it_fnC {T : Wd} {Hf : Hp} {lo c : Int} {k : Nat} : ItOk T Hf (Itc lo c k) (rgD lo k c) := by
  have hl : (rgD lo k c).length = k := by simp [rgD]
  refine ⟨fun i H s hi => by rw [hl] at hi; exact hi, fun i H x H' d s e y => .inl ?_, fun H s => by rw [hl]; exact Nat.le_refl _⟩
  obtain ⟨hi, rfl⟩ := rg_get e
  obtain ⟨e1, e2⟩ := y
  subst e2
  exact ⟨e1, rp_int _⟩
noncomputable def rg3 (ma mb : M D) : M (List D) := bnd ma fun x => bnd mb fun y => match x, y with
  | .int i, .int j => if inR i && inR j then ret (rgD i (i - j).toNat (-1)) else stop
  | _, _ => stop
theorem di_rg3 {tg : Expr} {p : Pos} (S : Sc C n) (j : Nat) (hj : n.bs[j]? = some ("range" : Str)) (ha : DE C a ma) (hb : DE C b mb) (hc : DE C c (c1 negD (ret (.int 1)))) : DI C tg (.Call (.Name "range" p) [a, b, c] [] pos) (rg3 ma mb) :=
  ⟨PI.imp (pi_range3 (S.bl hj).1 (S.bl hj).2 (pa_cons ha.pe (pa_cons hb.pe (pa_cons hc.pe pa_nil (star_ok hc.ok _ _)) (star_ok hb.ok _ _)) (star_ok ha.ok _ _)) (star_ok ha.ok _ _) (by rw [star_ok hb.ok, star_ok hc.ok]; rfl)) fun σ H R ⟨Hf, G, ρ, rr, h⟩ => post_bind rr h fun x d H1 Hf1 ρ1 s1 r1 rx p1 => post_bind r1 p1 fun y d2 H2 Hf2 ρ2 s2 r2 ry p2 => (by
    split at p2
    · rename_i i j
      split at p2
      · rename_i hr
        rw [Bool.and_eq_true] at hr
        have e1 : x = .int i := by simpa only [Rp] using rx
        have e2 : y = .int j := by simpa only [Rp] using ry
        subst e1 e2
        refine ⟨Hf2, G, ρ2, r2, ?_⟩
        exact fun v H3 Hf3 s3 r3 rv => by
          have e3 : v = .int (-1) := by simpa only [Rp] using rv
          subst e3
          exact ⟨i, j, -1, (i - j).toNat, rfl, RgC.neg (inR_ok hr.1).1 (inR_ok hr.1).2 (inR_ok hr.2).1 (inR_ok hr.2).2, p2 _ H3 Hf3 s3 r3 it_fnC⟩
      · exact p2.elim
    · exact p2.elim), rfl⟩
@[simp ↓] theorem rg3_eq (a b : M D) (ρ : Rho) : rg3 a b ρ = (bnd a fun x => bnd b fun y => match x, y with | .int i, .int j => if inR i && inR j then ret (rgD i (i - j).toNat (-1)) else stop | _, _ => stop) ρ := id rfl
end
end DS
namespace DS
open PySem L2
open PySem.AutoSeq1 in
theorem ext_tup (l : Addr) (items : Array Value) (n : Nat) (b : Addr) (items2 : Array Value) (n2 : Nat) (dct : Option Addr) (sl : Array (Option Value)) (h0 : ¬(!items.isEmpty && Builtin.List.listTooLong (items.size + items2.size)) = true) (h1 : items.size ≤ sizeLine) (h2 : items.size + items2.size ≤ sizeLine + 1) :
    Meets (Builtin.«list.extend» ⟨[.ref l, .ref b], []⟩) (fun _ R s => s.heap.get? l = some { cls := .type "list", dict := none, data := .seq items n, slots := #[] } ∧ s.heap.get? b = some { cls := .type "tuple", dict := dct, data := .seq items2 n2, slots := sl } ∧
      R (.ok (.ret Value.none)) { s with heap := s.heap.update l (Obj.mapSeq fun x => x ++ items2), toks := s.toks }) :=
  .of_wp fun prog w A R s ⟨hl, hb, h⟩ => by
    obtain ⟨hp, g, d, tk, os⟩ := s
    have f1 := idx_int; have f2 := sub_tuple_tuple; have f3 := sub_list_list; have f4 := sub_tuple_list; have f5 := sub_list_tuple
    have hz : (items ++ items2).size ≤ sizeLine + 1 := by rw [Array.size_append]; exact h2
    wp_walk using (wpAny_updateSeq hl rfl (hz := h1) (_hz' := hz)), wpAny_loadPart' hl, wpAny_loadPart' hb
    exact ⟨_, rfl, h⟩
open PySem.AutoSeq1 in
theorem ext_lst (l : Addr) (items : Array Value) (n : Nat) (b : Addr) (items2 : Array Value) (n2 : Nat) (dct : Option Addr) (sl : Array (Option Value)) (h0 : ¬(!items.isEmpty && Builtin.List.listTooLong (items.size + items2.size)) = true) (h1 : items.size ≤ sizeLine) (h2 : items.size + items2.size ≤ sizeLine + 1) :
    Meets (Builtin.«list.extend» ⟨[.ref l, .ref b], []⟩) (fun _ R s => s.heap.get? l = some { cls := .type "list", dict := none, data := .seq items n, slots := #[] } ∧ s.heap.get? b = some { cls := .type "list", dict := dct, data := .seq items2 n2, slots := sl } ∧
      R (.ok (.ret Value.none)) { s with heap := s.heap.update l (Obj.mapSeq fun x => x ++ items2), toks := s.toks }) :=
  .of_wp fun prog w A R s ⟨hl, hb, h⟩ => by
    obtain ⟨hp, g, d, tk, os⟩ := s
    have f1 := idx_int; have f2 := sub_tuple_tuple; have f3 := sub_list_list; have f4 := sub_tuple_list; have f5 := sub_list_tuple
    have hz : (items ++ items2).size ≤ sizeLine + 1 := by rw [Array.size_append]; exact h2
    wp_walk using (wpAny_updateSeq hl rfl (hz := h1) (_hz' := hz)), wpAny_loadPart' hl, wpAny_loadPart' hb
    exact ⟨_, rfl, h⟩
/-- l.extend(x), x a list or a tuple -/
def rExt (K : PySem.W.Frag) : V → List V → Hp → VK → Prop := fun x vs H Q => ∃ l b xs zs, x = .ref l ∧ vs = [.ref b] ∧ H l = some (.lst xs) ∧ (SqL K H b zs ∨ SqT K H b zs) ∧ xs.length + zs.length ≤ sizeLine ∧ Q .non (upd H l (.lst (xs ++ zs)))
theorem mt_ext {X : Cx} : MtM X "list.extend" (rExt X.K) := by
  intro pins s σ H x vs v us Q I rx rv h
  obtain ⟨l, b, xs, zs, rfl, rfl, hH, hB, hz, q⟩ := h
  cases rx
  obtain ⟨u, rfl, ru⟩ := rv.one
  cases ru
  obtain ⟨z, its, n, r, hl, e⟩ := I.lstM hH
  have go : ∀ (its2 : List Value), Vals zs its2 → (its.toArray.size + its2.toArray.size ≤ sizeLine → ¬ (!its.toArray.isEmpty && Builtin.List.listTooLong (its.toArray.size + its2.toArray.size)) = true → wpAny (model X.prog X.w) X.A (call (.builtin "list.extend") [.ref l, .ref b]) (EP X pins σ Q) X.xe s) →
      wpAny (model X.prog X.w) X.A (call (.builtin "list.extend") [.ref l, .ref b]) (EP X pins σ Q) X.xe s := fun its2 r2 k => by
    have h2 := r2.length
    have hs : its.toArray.size + its2.toArray.size ≤ sizeLine := by rw [List.size_toArray, List.size_toArray]; omega
    exact k hs (by rw [notLongL hs, Bool.and_false]; exact Bool.false_ne_true)
  have fin : ∀ (its2 : List Value), Vals zs its2 → EP X pins σ Q Value.none { s with heap := s.heap.update l (Obj.mapSeq fun x => x ++ its2.toArray), toks := s.toks } := fun its2 r2 =>
    ⟨.non, _, I.lset (its' := its ++ its2) hH e (by simp) (r.append r2) (by rw [List.length_append]; exact hz), rfl, q⟩
  rcases hB with hB | hB
  · obtain ⟨its2, r2, ⟨⟨c, dc, dt, sl⟩, n2, e2, k1, k2, k3⟩, _⟩ := I.list hB
    dsimp only at k1 k2 k3
    subst k1 k2 k3
    exact go its2 r2 fun hs hl2 => call_meets F.slot_list_extend ⟨_, e, rfl⟩ F.entry_list_extend (F.args_list_extend_2 _ _) (ext_lst l its.toArray n b its2.toArray n2 none sl hl2 (by rw [List.size_toArray]; omega) (by omega)) ⟨e, e2, fin its2 r2⟩
  · obtain ⟨its2, r2, ⟨⟨c, dc, dt, sl⟩, e2, k1, n2, k2⟩, _⟩ := I.tuple hB
    dsimp only at k1 k2
    subst k1 k2
    exact go its2 r2 fun hs hl2 => call_meets F.slot_list_extend ⟨_, e, rfl⟩ F.entry_list_extend (F.args_list_extend_2 _ _) (ext_tup l its.toArray n b its2.toArray n2 dc sl hl2 (by rw [List.size_toArray]; omega) (by omega)) ⟨e, e2, fin its2 r2⟩
def exL (i : Nat) (me : M D) : M Flow := bnd (apM.pkL i) fun _ => bnd me fun d => fun ρ => match ρ[i]?, itemsD d with
  | some (.ml ds), some es => if ds.length + es.length ≤ sizeLine then .ok .nx (ρ.set i (.ml (ds ++ es))) else .no
  | _, _ => .no
@[simp ↓] theorem exL_eq (i : Nat) (me : M D) (ρ : Rho) : exL i me ρ = (bnd (apM.pkL i) fun _ => bnd me fun d => fun ρ => match ρ[i]?, itemsD d with
  | some (.ml ds), some es => if ds.length + es.length ≤ sizeLine then .ok .nx (ρ.set i (.ml (ds ++ es))) else .no
  | _, _ => .no) ρ := id rfl
section
variable {C : DC} {n : Nm} {pos : Pos} {a b c : Expr} {ma mb mc : M D}
theorem ds_ext {x : Str} {px ap cp : Pos} {e : Expr} {me : M D} (S : Sc C n) (i : Nat) (hi : i ∈ n.vs) (hx : n.N[i]? = some x) (he : DE C e me) (hline : (ap.endLine == cp.line) = true) : DS C (.Expr (.Call (.Attribute (.Name x px) "extend" ap) [e] [] cp) pos) (exL i me) :=
  ⟨PS.imp (ps_expr (pe_bm PySem.F.plainAttrs_list PySem.F.slot_list_extend PySem.F.type_list_extend mt_ext (pv_ok S i hi hx) (pa_cons he.pe pa_nil (star_ok he.ok _ _)) rfl (few_ok he.ok) hline (star_ok he.ok _ _) rfl) rfl) fun E σ H ⟨Hf, G, ρ, rr, h⟩ => by
    obtain ⟨q, us, hq, hH, p⟩ := posts_pkL rr h
    refine ⟨.ref q, hq, .inl ⟨rfl, us, SqL.of hH⟩, ?_⟩
    refine posts_bind rr p fun v d H1 Hf1 ρ1 s1 r1 rv p1 => ?_
    split at p1
    · rename_i ds es e1 e2
      split at p1
      · rename_i hl
        have hs := r1.sl i _ e1
        rw [hq] at hs
        obtain ⟨q', ws, a, b, c, hq', ra⟩ := hs
        cases a
        have go : ∀ zs, RpA C.T Hf1 es zs → (∃ q2, v = .ref q2 ∧ (SqL C.X.K H1 q2 zs ∨ SqT C.X.K H1 q2 zs)) → rExt C.X.K (.ref q) [v] H1 fun _ H' => E.nx σ H' := fun zs rz ⟨q2, e3, sq⟩ => by
          subst e3
          refine ⟨q, q2, ws, zs, rfl, rfl, hq', sq, by rw [RpA.length ra, RpA.length rz]; exact hl, ?_⟩
          exact p1 σ _ Hf1 (Same.refl _) (r1.wr (y := .ml (ds ++ es)) e1 rfl hq ⟨q, _, rfl, b, c, upd_same, RpA.append ra rz⟩)
        unfold itemsD at e2
        split at e2
        · cases e2
          simp only [Rp] at rv
          obtain ⟨q2, zs, e3, sq, rz⟩ := rv
          exact go zs rz ⟨q2, e3, .inl (r1.fz.seq sq)⟩
        · cases e2
          simp only [Rp] at rv
          obtain ⟨q2, zs, e3, sq, rz⟩ := rv
          exact go zs rz ⟨q2, e3, .inr (Same.sqT r1.fz sq)⟩
        · cases e2
      · exact p1.elim
    · exact p1.elim⟩
/-! ### int(x) -/
def intD : D → Option D
  | .int i => some (.int i)
  | .bool b => some (.int (if b then 1 else 0))
  | _ => none
theorem de_int1 {p : Pos} (S : Sc C n) (j : Nat) (hj : n.bs[j]? = some ("int" : Str)) (ha : DE C a ma) : DE C (.Call (.Name "int" p) [a] [] pos) (c1 intD ma) :=
  ⟨PE.imp (pe_callTy call_int1 (S.bl hj).1 (S.bl hj).2 (by decide +kernel) (pa_cons ha.pe pa_nil (star_ok ha.ok _ _)) (by decide) (by decide) (star_ok ha.ok _ _) rfl) fun σ H Q ⟨Hf, G, ρ, rr, h⟩ => post_bind rr h fun x d H1 Hf1 ρ1 s1 r1 rx p1 => (by
    obtain ⟨z, e, q⟩ := opt_post p1
    unfold intD at e
    split at e
    · cases e
      exact .inl ⟨_, by rw [show x = _ by simpa only [Rp] using rx], q _ H1 Hf1 (Same.refl _) r1 (rp_int _)⟩
    · cases e
      exact .inr ⟨_, by rw [show x = _ by simpa only [Rp] using rx], q _ H1 Hf1 (Same.refl _) r1 (rp_int _)⟩
    · cases e), rfl⟩
@[simp ↓] theorem intD_int (i : Int) : intD (.int i) = some (.int i) := id rfl
@[simp ↓] theorem intD_bool (b : Bool) : intD (.bool b) = some (.int (if b then 1 else 0)) := id rfl
/-! ### min(x) of a list of data -/
def minOk (ds : List D) : Bool := (ds.all fun d => ds.all fun e => PySem.W.alike d e) && decide (PyData.depthAll ds ≤ 64) && noObjA ds && ds.all fun d => match d with | .none => false | _ => true
def minLD : D → Option D
  | .list (x :: xs) => if minOk (x :: xs) then some (PySem.W.minD x xs) else none
  | _ => none
def rMinDt (K : PySem.W.Frag) : List V → Hp → VK → Prop := fun vs H Q => ∃ (a : Addr) (xs : List V) (d : D) (ds : List D), vs = [.ref a] ∧ SqL K H a xs ∧ DpAll K H xs (d :: ds) ∧ minOk (d :: ds) = true ∧
  ∀ (i : Nat) (v : V), xs[i]? = some v → (d :: ds)[i]? = some (PySem.W.minD d ds) → Q v H
theorem dpall_get {K : PySem.W.Frag} {H : Hp} : ∀ {vs : List V} {es : List D} {i : Nat} {v : V} {e : D}, DpAll K H vs es → vs[i]? = some v → es[i]? = some e → Dp K H v e
  | _, _, i, _, _, .nil, h, _ => by simp at h
  | _, _, 0, _, _, .cons hx _, h, h2 => by
    simp at h h2
    subst h h2
    exact hx
  | _, _, i + 1, _, _, .cons _ t, h, h2 => dpall_get (i := i) t (by simpa using h) (by simpa using h2)
theorem cr_minD {X : Cx} (hc : X.calm = true) (hu : X.A.units + 100 < cLine) : CallR X (.builtin "min") (rMinDt X.K) := by
  intro pins s σ H vs us Q I r h
  obtain ⟨a, xs, d, ds, rfl, hs, hd, ok, q⟩ := h
  obtain ⟨its, rv, hl, hz⟩ := I.list hs
  rw [Vals.ref1 r]
  obtain ⟨as, ra⟩ := Dp.readsAll I (d :: ds) xs its hd rv
  unfold minOk at ok
  simp only [Bool.and_eq_true, decide_eq_true_eq, List.all_eq_true] at ok
  obtain ⟨⟨⟨o1, o2⟩, o3⟩, o4⟩ := ok
  refine PySem.W.min_list_data (I.ok.hd hc) hl.isList (by simpa using ra) ⟨fun x hx y hy => o1 x hx y hy, fun x hx e => ?_⟩ (by omega) fun i v h' tk bs hv hr hk => ?_
  · subst e
    exact Bool.noConfusion (o4 _ hx)
  · have hv' : its[i]? = some v := by simpa using hv
    have hi : i < its.length := lt_of_get hv'
    have hlx : i < xs.length := by rw [rv.length]; exact hi
    obtain ⟨u, hu2, ru⟩ := rv.get (List.getElem?_eq_getElem hlx)
    rw [hv'] at hu2
    cases hu2
    have hdl : (d :: ds).length = xs.length := (dpall_len hd).symm
    have hdi : (d :: ds)[i]? = some (d :: ds)[i] := List.getElem?_eq_getElem (by rw [hdl]; exact hlx)
    have hdp : Dp X.K H xs[i] (d :: ds)[i] := dpall_get hd (List.getElem?_eq_getElem hlx) hdi
    obtain ⟨as2, r2⟩ := Dp.reads I _ _ _ hdp ru
    have eq := (Reads.unique (PySem.W.reads_keeps hk r2) _ _ hr).1
    exact ⟨xs[i], H, I.kept (t' := tk) hk, ru, q i _ (List.getElem?_eq_getElem hlx) (by rw [hdi, eq])⟩
theorem de_min1 {p : Pos} (S : Sc C n) (j : Nat) (hj : n.bs[j]? = some ("min" : Str)) (ha : DE C a ma) : DE C (.Call (.Name "min" p) [a] [] pos) (c1 minLD ma) :=
  ⟨PE.imp (pe_callB (cr_minD S.calm (by have := S.room.un; omega)) (S.bl hj).1 (S.bl hj).2 (by decide +kernel) (pa_cons ha.pe pa_nil (star_ok ha.ok _ _)) (by decide) (by decide) (star_ok ha.ok _ _) rfl) fun σ H Q ⟨Hf, G, ρ, rr, h⟩ => post_bind rr h fun x d H1 Hf1 ρ1 s1 r1 rx p1 => (by
    obtain ⟨z, e, q⟩ := opt_post p1
    unfold minLD at e
    split at e
    · split at e
      · rename_i y ys ok
        cases e
        simp only [Rp] at rx
        obtain ⟨a, xs, e1, sa, ra⟩ := rx
        subst e1
        have ok' := ok
        unfold minOk at ok'
        simp only [Bool.and_eq_true] at ok'
        obtain ⟨cl, hdp⟩ := RpA.lay (y :: ys) xs (RpA.mono r1.fz _ _ ra) ok'.1.2
        refine ⟨a, xs, y, ys, rfl, r1.fz.seq sa, hdp, ok, fun i v hv hm => ?_⟩
        obtain ⟨w, hw, rw⟩ := RpA.get ra hm
        rw [hv] at hw
        cases hw
        exact q v H1 Hf1 (Same.refl _) r1 rw
      · cases e
    · cases e), rfl⟩
end
end DS
/-! Comprehensions and loops over typed lists. -/
namespace DS
open PySem L2
theorem le_sz {n : Nat} (h : n ≤ 1000000) : n ≤ sizeLine := Nat.le_trans h (by decide)
theorem lt_sz {n : Nat} (h : n < 1000000) : n < sizeLine := Nat.lt_of_lt_of_le h (by decide)
theorem mulD_list (ds : List D) (k : Nat) (h : ds.length * k ≤ 1000000) (hk : k ≤ 1000000) : mulD (.list ds) (.int (k : Int)) = some (.list (List.replicate k ds).flatten) := by
  have hb : big (-(2 ^ 63) ≤ (k : Int) ∧ (k : Int) < 2 ^ 63 ∧ ds.length * (k : Int).toNat ≤ sizeLine) = true := big_ok ⟨by omega, by omega, by rw [Int.toNat_natCast]; exact le_sz h⟩
  show (if big (-(2 ^ 63) ≤ (k : Int) ∧ (k : Int) < 2 ^ 63 ∧ ds.length * (k : Int).toNat ≤ sizeLine) = true then _ else _) = _
  rw [if_pos hb, Int.toNat_natCast]
@[simp ↓] theorem auM_eq (g : D → D → Option D) (i : Nat) (me : M D) (ρ : Rho) : auM g i me ρ = (bnd (pk i) fun x => bnd me fun y => bnd (opt (g x y)) fun z => fun ρ => .ok .nx (ρ.set i (.im z))) ρ := id rfl
@[simp ↓] theorem addI_int (i j : Int) : addI (.int i) (.int j) = some (.int (i + j)) := id rfl
theorem whM_step {t : M Bool} {b : M Flow} {k : Nat} {ρ ρ1 ρ2 : Rho} (h1 : t ρ = .ok true ρ1) (h2 : b ρ1 = .ok .nx ρ2) : whM t b (k + 1) ρ = whM t b k ρ2 := by
  conv => lhs; unfold whM
  unfold bnd
  simp only [h1, if_pos, h2]
theorem whM_end {t : M Bool} {b : M Flow} {k : Nat} {ρ ρ1 : Rho} (h1 : t ρ = .ok false ρ1) : whM t b (k + 1) ρ = .ok .nx ρ1 := by
  conv => lhs; unfold whM
  unfold bnd
  simp only [h1, Bool.false_eq_true, if_false]
theorem whM_ret {t : M Bool} {b : M Flow} {k : Nat} {d : D} {ρ ρ1 ρ2 : Rho} (h1 : t ρ = .ok true ρ1) (h2 : b ρ1 = .ok (.rt d) ρ2) : whM t b (k + 1) ρ = .ok (.rt d) ρ2 := by
  conv => lhs; unfold whM
  unfold bnd
  simp only [h1, if_pos, h2]
theorem rg_get' {b j : Nat} {d : D} (h : (rgD 0 b 1)[j]? = some d) : j < b ∧ d = .int (j : Int) := by
  obtain ⟨h1, h2⟩ := rg_get h
  exact ⟨h1, by rw [h2]; simp⟩
@[simp] theorem rg_len (lo c : Int) (k : Nat) : (rgD lo k c).length = k := by simp [rgD]
theorem inR_nat {k : Nat} (h : k ≤ 1000000) : inR (k : Int) = true := big_ok (by omega)
theorem cut_to (l : List Int) (k : Nat) : cutL (nI l) none (some (k : Int)) = nI (l.take k) := by rw [cutL_to, nI_take]
theorem cut_from (l : List Int) (k : Nat) : cutL (nI l) (some ((k : Int) + 1)) none = nI (l.drop (k + 1)) := by
  rw [show (k : Int) + 1 = ((k + 1 : Nat) : Int) by omega, cutL_from, nI_drop]
theorem cutL_fromS (l : List D) (k : Nat) : cutL l (some ((k : Int) + 1)) none = l.drop (k + 1) := by
  rw [show (k : Int) + 1 = ((k + 1 : Nat) : Int) by omega, cutL_from]
theorem nI_inj {a b : List Int} (h : nI a = nI b) : a = b := by
  have := congrArg (List.map iO) h
  simpa [nI, Function.comp_def] using this
theorem alike_nI : ∀ a b : List Int, PySem.W.alikeAll (nI a) (nI b) = true
  | [], b => by cases b <;> rfl
  | _ :: _, [] => rfl
  | x :: a, y :: b => by rw [nI_cons, nI_cons, PySem.W.alikeAll, alike_nI a b]; rfl
theorem depthAll_nI : ∀ a : List Int, PyData.depthAll (nI a) = 0
  | [] => rfl
  | x :: a => by rw [nI_cons, PyData.depthAll, depthAll_nI a]; rfl
/-- rows as data -/
def rows (ls : List (List Int)) : List D := ls.map fun l => .list (nI l)
@[simp] theorem rows_length (ls : List (List Int)) : (rows ls).length = ls.length := by simp [rows]
theorem rows_append (a b : List (List Int)) : rows (a ++ b) = rows a ++ rows b := by simp [rows]
theorem noObj_rows (ls : List (List Int)) : noObjA (rows ls) = true := by
  induction ls with
  | nil => rfl
  | cons l ls ih =>
    show (noObj (.list (nI l)) && noObjA (rows ls)) = true
    rw [ih, noObj, noObj_nI]
    rfl
theorem dataLt_nI (a b : List Int) : PySem.W.dataLt (.list (nI a)) (.list (nI b)) = decide (a < b) := by
  rw [PySem.W.dataLt_list]
  exact PySem.W.dataLt_ints a b
theorem depthAll_rows : ∀ ls : List (List Int), PyData.depthAll (rows ls) ≤ 1
  | [] => by simp [rows, PyData.depthAll]
  | l :: ls => by
    have := depthAll_rows ls
    show max (PyData.depth (.list (nI l))) (PyData.depthAll (rows ls)) ≤ 1
    rw [PyData.depth, depthAll_nI]
    omega
theorem minOk_rows (ls : List (List Int)) : minOk (rows ls) = true := by
  unfold minOk
  simp only [Bool.and_eq_true, List.all_eq_true, decide_eq_true_eq, noObj_rows, and_true]
  refine ⟨⟨fun d hd e he => ?_, ?_⟩, fun d hd => ?_⟩
  · obtain ⟨l, _, rfl⟩ := List.mem_map.mp hd
    obtain ⟨m, _, rfl⟩ := List.mem_map.mp he
    exact alike_nI l m
  · have := depthAll_rows ls
    omega
  · obtain ⟨l, _, rfl⟩ := List.mem_map.mp hd
    rfl
/-- the least row, where one is below all -/
theorem min_rows {ls : List (List Int)} {m : List Int} (hm : m ∈ ls) (hle : ∀ l ∈ ls, m = l ∨ m < l) : minLD (.list (rows ls)) = some (.list (nI m)) := by
  cases ls with
  | nil => cases hm
  | cons x xs =>
    have ok := minOk_rows (x :: xs)
    have key : ∀ (xs : List (List Int)) (x : List Int), (m = x ∨ m < x) → (∀ l ∈ xs, m = l ∨ m < l) → (m = x ∨ m ∈ xs) → PySem.W.minD (.list (nI x)) (rows xs) = .list (nI m) := by
      intro xs
      induction xs with
      | nil => intro x _ _ h; rcases h with rfl | h
               · rfl
               · cases h
      | cons y ys ih =>
        intro x hx hl h
        show (rows ys).foldl _ (if PySem.W.dataLt (.list (nI y)) (.list (nI x)) = true then PyData.list (nI y) else PyData.list (nI x)) = _
        rw [dataLt_nI]
        by_cases hyx : y < x
        · rw [decide_eq_true hyx, if_pos rfl]
          refine ih y (hl y List.mem_cons_self) (fun l hl' => hl l (List.mem_cons_of_mem _ hl')) ?_
          rcases h with rfl | h
          · rcases hl y List.mem_cons_self with e | e
            · exact .inl e
            · exact absurd (List.lt_trans hyx e) (List.lt_irrefl _)
          · rcases List.mem_cons.mp h with e | h
            · exact .inl e
            · exact .inr h
        · rw [decide_eq_false hyx, if_neg Bool.false_ne_true]
          refine ih x hx (fun l hl' => hl l (List.mem_cons_of_mem _ hl')) ?_
          rcases h with rfl | h
          · exact .inl rfl
          · rcases List.mem_cons.mp h with rfl | h
            · rcases hx with e | e
              · exact .inl e
              · exact absurd e hyx
            · exact .inr h
    show (if minOk (rows (x :: xs)) = true then _ else _) = _
    rw [if_pos ok]
    congr 1
    refine key xs x (hle x List.mem_cons_self) (fun l hl => hle l (List.mem_cons_of_mem _ hl)) ?_
    rcases List.mem_cons.mp hm with e | h
    · exact .inl e
    · exact .inr h
theorem in_rows {ls : List (List Int)} {l : List Int} (h : l ∈ ls) : inD (.list (nI l)) (.list (rows ls)) = some (.bool true) := by
  have h1 : inOk (.list (nI l)) (rows ls) = true := by
    unfold inOk
    simp only [Bool.and_eq_true, decide_eq_true_eq, noObj_rows, and_true]
    refine ⟨?_, by rw [noObj]; exact noObj_nI l⟩
    have := depthAll_rows ls
    omega
  show (if inOk (.list (nI l)) (rows ls) = true then some (PyData.bool ((rows ls).any fun y => PyData.eqv y (.list (nI l)))) else none) = _
  rw [if_pos h1]
  congr 2
  rw [List.any_eq_true]
  exact ⟨_, List.mem_map.mpr ⟨l, h, rfl⟩, (PySem.W.Datum.eqv l l).trans (by simp)⟩
section
variable {α β σ : Type} {vs : List Nat} {f : D → M Unit} {t : M Bool} {el : M D} {b : M Flow}
/-- a comprehension whose turns leave no trace -/
theorem lc_flt (g : α → D) (c : α → Bool) (h : α → D) (R : α → Rho) {ρ ρ0 : Rho} (hw : wpR ρ vs = ρ0) : ∀ (xs : List α) (acc : List D), acc.length + xs.length ≤ sizeLine →
    (∀ x ∈ xs, f (g x) ρ0 = .ok () (R x) ∧ wpR (R x) vs = ρ0 ∧ t (R x) = .ok (c x) (R x) ∧ (c x = true → el (R x) = .ok (h x) (R x))) → lcA vs f t el acc (xs.map g) ρ = .ok (acc ++ (xs.filter c).map h) ρ0 := by
  intro xs acc hl st
  have key : ∀ (xs : List α) (acc : List D) (ρ : Rho), wpR ρ vs = ρ0 → acc.length + xs.length ≤ sizeLine →
    (∀ x ∈ xs, f (g x) ρ0 = .ok () (R x) ∧ wpR (R x) vs = ρ0 ∧ t (R x) = .ok (c x) (R x) ∧ (c x = true → el (R x) = .ok (h x) (R x))) → lcA vs f t el acc (xs.map g) ρ = .ok (acc ++ (xs.filter c).map h) ρ0 := by
    intro xs
    induction xs with
    | nil => intro acc ρ hw _ _; simp [lcA, hw]
    | cons x xs ih =>
      intro acc ρ hw hl st
      obtain ⟨h1, h2, h3, h4⟩ := st x List.mem_cons_self
      simp only [List.length_cons] at hl
      have hl2 : acc.length < sizeLine := by omega
      rw [List.map_cons]
      cases hc : c x with
      | true =>
        rw [lcA_step (lcStep_t hw h1 (by rw [h3, hc]) (h4 hc)) hl2, ih _ _ h2 (by simp; omega) fun y hy => st y (List.mem_cons_of_mem _ hy)]
        simp [List.filter_cons, hc]
      | false =>
        rw [lcA_step (lcStep_f hw h1 (by rw [h3, hc])) hl2, ih _ _ h2 (by simp; omega) fun y hy => st y (List.mem_cons_of_mem _ hy)]
        simp [List.filter_cons, hc]
  exact key xs acc ρ hw hl st
theorem lc_map (g : α → D) (h : α → D) (R : α → Rho) {ρ ρ0 : Rho} (hw : wpR ρ vs = ρ0) (xs : List α) (hl : xs.length ≤ sizeLine)
    (st : ∀ x ∈ xs, f (g x) ρ0 = .ok () (R x) ∧ wpR (R x) vs = ρ0 ∧ el (R x) = .ok (h x) (R x)) : lcA vs f (ret true) el [] (xs.map g) ρ = .ok (xs.map h) ρ0 := by
  rw [lc_flt g (fun _ => true) h R hw xs [] (by simpa using hl) fun x hx => ⟨(st x hx).1, (st x hx).2.1, rfl, fun _ => (st x hx).2.2⟩, List.filter_eq_self.mpr fun _ _ => rfl]
  rfl
/-- a loop over a typed list, what is done ahead -/
theorem for_pre (g : α → D) (I : List α → Rho → Prop) (xs : List α) (ρ : Rho) (i0 : I [] ρ)
    (st : ∀ pre x post ρ, xs = pre ++ x :: post → I pre ρ → ∃ ρ', forStep f b (g x) ρ = .ok .nx ρ' ∧ I (pre ++ [x]) ρ') : ∃ ρ', forM f b (xs.map g) ρ = .ok .nx ρ' ∧ I xs ρ' := by
  have key : ∀ (post pre : List α) (ρ : Rho), xs = pre ++ post → I pre ρ → ∃ ρ', forM f b (post.map g) ρ = .ok .nx ρ' ∧ I xs ρ' := by
    intro post
    induction post with
    | nil => intro pre ρ e i; exact ⟨ρ, rfl, by rw [e, List.append_nil]; exact i⟩
    | cons x post ih =>
      intro pre ρ e i
      obtain ⟨ρ1, e1, i1⟩ := st pre x post ρ e i
      obtain ⟨ρ2, e2, i2⟩ := ih (pre ++ [x]) ρ1 (by rw [e]; simp) i1
      exact ⟨ρ2, by rw [List.map_cons, forM_step e1]; exact e2, i2⟩
  exact key xs [] ρ rfl i0
/-- a loop that may end by return or break at some item -/
theorem for_stop {f : D → M Unit} {b : M Flow} {d : D} {ds : List D} {ρ ρ' : Rho} {x : D} (h : forStep f b d ρ = .ok (.rt x) ρ') : forM f b (d :: ds) ρ = .ok (.rt x) ρ' := by
  conv => lhs; unfold forM
  unfold forStep at h
  cases e1 : f d ρ with
  | ok u ρ1 =>
    simp only [e1] at h
    simp only [h]
  | ex _ _ => simp only [e1] at h; cases h
  | no => simp only [e1] at h; cases h
theorem for_break {f : D → M Unit} {b : M Flow} {d : D} {ds : List D} {ρ ρ' : Rho} (h : forStep f b d ρ = .ok .bk ρ') : forM f b (d :: ds) ρ = .ok .nx ρ' := by
  conv => lhs; unfold forM
  unfold forStep at h
  cases e1 : f d ρ with
  | ok u ρ1 =>
    simp only [e1] at h
    simp only [h]
  | ex _ _ => simp only [e1] at h; cases h
  | no => simp only [e1] at h; cases h
end
end DS
/-! Defs that may raise. -/
namespace DS
open PySem L2
section
variable {P : Program} {w : World} {K : PySem.W.Frag} {mg : Str → Option Value} {base : Heap} {tb : List (Addr × Str)}
theorem runX_len {np nn : Nat} {mp : List Nat} {m : M Flow} {T : Wd} {vs : List V} {H : Hp} {Q : VK} {E : XK} (h : fsp T (runX np nn mp m) vs H Q E) : vs.length = np := by
  obtain ⟨Hf, G, args, _, _, _, _, hl, _, _, h⟩ := h
  unfold runX at h
  by_cases hc : (args.length = np && ownAt mp 0 args) = true
  · simp only [Bool.and_eq_true, decide_eq_true_eq] at hc
    rw [← hl]; exact hc.1
  · rw [if_neg hc] at h; exact h.elim
theorem fn_okXG {x qual : Str} {sd : Stmt} {f : Addr} {ps : List Str} {n : Nm} {m : M Flow} {oc dV kV doc pm cdv ct : Value} {od an : Option Addr} {osl : Array (Option Value)} (Zp : DC → Prop)
    (lk : K.lookup f = some ⟨oc, od, .func (PySem.W.fnOf x qual (defArgs sd) (defBody sd) (defScope sd) dV kV doc pm an cdv ct), osl⟩) (hcd : PySem.W.codeIn K cdv qual = true) (S : FnScope n.N ps (defScope sd)) (hp : ps.length ≤ n.N.length)
    (ck : scB n (defScope sd) = true) (bno : ∀ x ∈ n.bn, mg x = none) (fs : n.fs ⟨P, w, K, mg, base, tb⟩)
    (hZ : ∀ A outer s H vs E, Zp ⟨cxOf (L2.CX P w) P w K mg base n.N qual (defScope sd) f cdv A outer s H E, fun cls d _ H => E cls d H, n.mp, L2.start n.N vs, tb⟩) (hD : ∀ C, Sc C n → LkSc C (defScope sd) → Zp C → DSs C (defBody sd) m) :
    FnOk P w K mg base (L2.CX P w) (n.lv + 1) f (PySem.W.fnOf x qual (defArgs sd) (defBody sd) (defScope sd) dV kV doc pm an cdv ct) ps (fsp ⟨P, w, K, mg, base, tb⟩ (runX ps.length n.N.length n.mp m)) := by
  refine fn_of lk hcd S (fun vs H Q E h => runX_len h) fun A outer s H vs Q E hr h => ?_
  have hlen := runX_len h
  let C : DC := ⟨cxOf (L2.CX P w) P w K mg base n.N qual (defScope sd) f cdv A outer s H E, fun cls d _ H => E cls d H, n.mp, L2.start n.N vs, tb⟩
  have SC : Sc C n := ⟨rfl, S.nd, ck, S.kind, rfl, fun _ _ _ _ _ => rfl, rfl, passes_of rfl, hr, bno, fs, takes_of rfl rfl rfl rfl, fun _ => ⟨rfl, rfl, rfl⟩⟩
  refine ⟨_, (hD C SC (.inl rfl) (hZ A outer s H vs E)).pss, ?_⟩
  obtain ⟨Hf, G, args, s1, s2, dj, tf, hl, hs, hd, h⟩ := h
  have rr : RR C.F Hf G (L2.start n.N vs) H (args ++ List.replicate (n.N.length - args.length) .un) := rr_start s1 s2 dj tf hl (by omega) hs hd
  unfold runX at h
  by_cases hc : (args.length = ps.length && ownAt n.mp 0 args) = true
  case neg => rw [if_neg hc] at h; exact h.elim
  rw [if_pos hc] at h
  simp only [Bool.and_eq_true, decide_eq_true_eq] at hc
  rw [hc.1] at rr
  refine ⟨Hf, G, _, rr, ?_⟩
  have own : ∀ {i : Nat} {x : Sl} {p : Addr} {ρ' : Rho} {σ' : St} {H' Hf' : Hp}, RR C.F Hf' G σ' H' ρ' → args[i]? = some x → owns x = true → vs[i]? = some (.ref p) → i ∈ n.mp ∧ σ'[i]? = some (some (.ref p)) := fun {i x p ρ' σ' H' Hf'} r ex ox hv => by
    have hm : i ∈ n.mp := by simpa using ownAt_get hc.2 ex ox
    exact ⟨hm, (r.kp i hm).trans (start_get hv)⟩
  have fin : ∀ {ρ' : Rho} {σ' : St} {H' Hf' : Hp}, RR C.F Hf' G σ' H' ρ' → ∀ (i : Nat) p x x', args[i]? = some x → owns x = true → vs[i]? = some (.ref p) → (ρ'.take ps.length)[i]? = some x' → SlOk ⟨P, w, K, mg, base, tb⟩ Hf' G H' (some (some (.ref p))) x' := fun {ρ' σ' H' Hf'} r i p x x' ex ox hv ex' => by
    have hk := (own r ex ox hv).2
    have e' : ρ'[i]? = some x' := by
      rw [List.getElem?_take] at ex'
      split at ex'
      · exact ex'
      · cases ex'
    have := r.sl i x' e'
    rwa [hk] at this
  cases e : m (args ++ List.replicate (n.N.length - ps.length) .un) with
  | no => rw [e] at h; exact h.elim
  | ex x ρ' => rw [e] at h; exact fun cls dd σ' H' Hf' s' r xr => h cls dd H' Hf' s' r.fz r.fg r.dj r.tb xr
  | ok fl ρ' =>
    rw [e] at h
    cases fl with
    | bk => exact h.elim
    | ct => exact h.elim
    | nx => exact fun σ' H' Hf' s' r => h .non H' Hf' s' r.fz r.fg r.dj r.tb rp_none (fin r)
    | rt d => exact fun v σ' H' Hf' s' r rv => h v H' Hf' s' r.fz r.fg r.dj r.tb rv (fin r)
    | ro ds =>
      intro p vq σ' H' Hf' s' r hfp hgp hmp hq ra
      have hsm : Same Hf' (upd Hf' p (.lst vq)) := Same.updN hfp
      have inH : Same (upd Hf' p (.lst vq)) H' := fun b u eb => by
        by_cases hb : b = p
        · subst hb; rw [upd_same] at eb; rw [hq]; exact eb
        · rw [upd_ne hb] at eb; exact r.fz b u eb
      have dj' : ∀ b o, G b = some o → upd Hf' p (.lst vq) b = none := fun b u eb => by
        rw [upd_ne fun z => by subst z; rw [hgp] at eb; cases eb]
        exact r.dj b u eb
      refine h (.ref p) H' (upd Hf' p (.lst vq)) (s'.trans hsm) inH r.fg dj' (r.tb.fup hfp (r.tb.ne hq fun ps z => by cases z)) (rp_list (SqL.of upd_same) (RpA.mono hsm _ _ ra)) fun i q x x' ex ox hv ex' => ?_
      obtain ⟨hm, hk⟩ := own r ex ox hv
      have sl := fin r i q x x' ex ox hv ex'
      refine sl.fz hsm fun q' ho' hq' => ?_
      cases hq'
      rw [upd_ne fun z => by subst z; exact hmp i hm hk]
      cases x' with
      | un => cases ho'
      | im d => cases ho'
      | ml ds' => obtain ⟨_, _, a, b, _⟩ := sl; cases a; exact b
      | md kvs => obtain ⟨_, a, b, _⟩ := sl; cases a; exact b
      | mi c fs => obtain ⟨_, _, _, _, a, b, _⟩ := sl; cases a; exact b
theorem fn_okXZ {x qual : Str} {sd : Stmt} {f : Addr} {fd : FuncData} {ps : List Str} {n : Nm} {m : M Flow} (Zp : DC → Prop) (F : Fun K x qual sd f fd) (S : FnScope n.N ps (defScope sd)) (hp : ps.length ≤ n.N.length)
    (ck : scB n (defScope sd) = true) (bno : ∀ x ∈ n.bn, mg x = none) (fs : n.fs ⟨P, w, K, mg, base, tb⟩)
    (hZ : ∀ A outer s H vs E, Zp ⟨cxOf (L2.CX P w) P w K mg base n.N qual (defScope sd) f fd.code A outer s H E, fun cls d _ H => E cls d H, n.mp, L2.start n.N vs, tb⟩) (hD : ∀ C, Sc C n → LkSc C (defScope sd) → Zp C → DSs C (defBody sd) m) :
    FnOk P w K mg base (L2.CX P w) (n.lv + 1) f fd ps (fsp ⟨P, w, K, mg, base, tb⟩ (runX ps.length n.N.length n.mp m)) := by
  obtain ⟨oc, od, kV, doc, pm, an, cdv, ct, osl, hfd, lk, hcd⟩ := F.ex
  have hcv : fd.code = cdv := by rw [hfd]
  rw [hcv] at hZ
  rw [hfd] at lk ⊢
  exact fn_okXG Zp lk hcd S hp ck bno fs hZ hD
theorem fn_okX {x qual : Str} {sd : Stmt} {f : Addr} {fd : FuncData} {ps : List Str} {n : Nm} {m : M Flow} (F : Fun K x qual sd f fd) (S : FnScope n.N ps (defScope sd)) (hp : ps.length ≤ n.N.length)
    (ck : scB n (defScope sd) = true) (bno : ∀ x ∈ n.bn, mg x = none) (fs : n.fs ⟨P, w, K, mg, base, tb⟩) (hD : ∀ C, Sc C n → LkSc C (defScope sd) → DSs C (defBody sd) m) :
    FnOk P w K mg base (L2.CX P w) (n.lv + 1) f fd ps (fsp ⟨P, w, K, mg, base, tb⟩ (runX ps.length n.N.length n.mp m)) :=
  fn_okXZ (fun _ => True) F S hp ck bno fs (fun _ _ _ _ _ _ => trivial) fun C S L _ => hD C S L
end
/-- a def that may raise -/
structure HasX (T : Wd) (x : Str) (k : Nat) (F : List Sl → Res D) : Prop where
  ex : ∃ f fd ps, FnOk T.P T.w T.K T.mg T.base (L2.CX T.P T.w) k f fd ps (fsp T F) ∧ T.mg x = some (.ref f) ∧ PySem.W.keepIn T.K (.ref f) = true ∧ Binds T.K fd ps []
section
variable {C : DC} {n : Nm} {pos : Pos}
theorem de_callX {x : Str} {p : Pos} {e : Expr} {es : List Expr} {k : Nat} {F : List Sl → Res D} {m : M (List AV)} (S : Sc C n) (j : Nat) (hj : n.gs[j]? = some x) (h : HasX C.T x k F) (hk : k ≤ n.lv) (ha : DV C (e :: es) m) :
    DE C (.Call (.Name x p) (e :: es) [] pos) (bnd m (callM F)) := by
  obtain ⟨f, fd, ps, hf, hm, hkp, hb⟩ := h.ex
  have hok := ha.ok
  rw [List.all_cons, Bool.and_eq_true] at hok
  exact ⟨PE.imp (pe_callSD hf (S.room.mono hk) (S.gl hj).1 hm hkp hb .nil (fun σ => passAt S.tk σ) ha.pa (plB_d (S.gl hj).2).1 (star_ok hok.1 _ _) (all_star hok.2)) fun σ H Q hh => lft_call σ H Q hh, rfl⟩
/-! ### raise -/
/-- what the text says of an own class of exceptions without an __init__ -/
structure XCls (T : Wd) (x : Str) : Prop where
  ex : ∃ c bm, ExcBaseFacts "ArithmeticError" "ArithmeticError.__new__" "ArithmeticError.__init__" bm ∧ PySem.W.excIn T.K c bm "ArithmeticError.__new__" = true ∧ T.mg x = some (.ref c) ∧ PySem.W.keepIn T.K (.ref c) = true ∧
    PySem.W.subIn T.K (.ref c) (.type "BaseException") = some true ∧ PySem.W.typeIn T.K (.ref c) = some (.type "type")
def raM (x : Str) : M Flow := fun ρ => .ex ⟨x, []⟩ ρ
@[simp ↓] theorem raM_eq (x : Str) (ρ : Rho) : raM x ρ = .ex ⟨x, []⟩ ρ := id rfl
theorem ds_raise {x m : Str} {q : Nat} {p p2 pos' : Pos} (S : Sc C n) (j : Nat) (hj : n.gs[j]? = some x) (h : XCls C.T x) : DS C (.Raise (some (.Call (.Name x p) [.Constant (.str m) q p2] [] pos')) none pos) (raM x) := by
  obtain ⟨c, bm, F, hx, hm, hk, hs, ht⟩ := h.ex
  exact ⟨PS.imp (ps_raise S.calm S.tk (pmk_own F hx hm hk (raises_own hs ht) (S.gl hj).1 (plB_d (S.gl hj).2).1)) fun E σ H ⟨Hf, G, ρ, rr, h⟩ => h (.ref c) none σ H Hf (Same.refl _) rr ⟨hm, .inl ⟨rfl, rfl⟩⟩⟩
end
section
variable {P : Program} {w : World} {K : PySem.W.Frag} {mg : Str → Option Value} {base : Heap} {tb : List (Addr × Str)}
theorem hasX_mk {x qual : Str} {sd : Stmt} {f : Addr} {fd : FuncData} {ps : List Str} {n : Nm} {m : M Flow} (F : Fun K x qual sd f fd) (hm : mg x = some (.ref f)) (hb : Binds K fd ps []) (S : FnScope n.N ps (defScope sd)) (hp : ps.length ≤ n.N.length)
    (ck : scB n (defScope sd) = true) (bno : ∀ x ∈ n.bn, mg x = none) (fs : n.fs ⟨P, w, K, mg, base, tb⟩) (hD : ∀ C, Sc C n → LkSc C (defScope sd) → DSs C (defBody sd) m) : HasX ⟨P, w, K, mg, base, tb⟩ x (n.lv + 1) (runX ps.length n.N.length n.mp m) :=
  ⟨f, fd, ps, fn_okX F S hp ck bno fs hD, hm, F.kp, hb⟩
end
end DS
set_option maxHeartbeats 1000000
/-! A caught exception that is kept: try: .. except X as n: y = n. -/
namespace DS
open PySem PySem.Spec PyProof.Rows L2
section
variable {X : Cx} {pins : List (Addr × Obj)} {σ : L2.St} {H : Hp} {s : Shared} {a : Addr}
/-- an object that is new since the def's start is tracked from here on -/
theorem inv_track (o : HO) (I : Inv X pins σ H s) (hn : H a = none) (h0 : X.s_0.heap.get? a = none) (hL : a ≠ X.env.locals) (hc : ∀ x c, X.env.cells.lookup x = some c → c ≠ a)
    (hp : ∀ p ∈ X.pn ++ pins, p.1 ≠ a) (ok : ObjOk X.prog X.w (upd H a o) s.heap a o) : Inv X pins σ (upd H a o) s := by
  have old : ∀ {b : Addr} {u : HO}, H b = some u → upd H a o b = some u := fun {b u} e => by rw [upd_ne (ne_of_none e hn)]; exact e
  refine ⟨I.ok, I.os, I.bare, ⟨I.base.keep, I.base.slot, fun b ob e n hx => ?_, I.base.there, fun b xs e => old (I.base.tups b xs e), fun b ob u e => old (I.base.frzs b ob u e), fun b ps e => ?_⟩, I.loc, I.cell, ?_, fun x c e => ?_, fun p hm => ?_, fun b u e => ?_, I.len⟩
  · have : b ≠ a := fun z => by subst z; rw [h0] at e; cases e
    rw [upd_ne this]
    exact I.base.free b ob e n hx
  · obtain ⟨more, q⟩ := I.base.tbls b ps e
    exact ⟨more, old q⟩
  · rw [upd_ne (Ne.symm hL)]; exact I.free
  · rw [upd_ne (hc x c e)]; exact I.freeC x c e
  · obtain ⟨p1, p2, p3⟩ := I.pin p hm
    exact ⟨p1, by rw [upd_ne (hp p hm)]; exact p2, p3⟩
  · by_cases hb : b = a
    · subst hb
      rw [upd_same] at e
      cases e
      exact ok
    · rw [upd_ne hb] at e
      exact (I.hok b u e).stay (fun _ _ _ z => z) (fun _ z => old z) fun _ _ z => old z
end
/-- the wish of the clause -/
def wKeep (K : PySem.W.Frag) (c : Value) (i j : Nat) (E : Ends) : WX := fun cls d σ H =>
  PySem.W.exmOne K cls c = some true ∧ ∃ C, cls = .ref C ∧ ∀ a, H a = none → E.nx ((σ.set j (some (.ref a))).set i none) (upd H a (XO a C d))
section
variable {X : Cx} {x n y : Str} {c : Value} {i j : Nat} {body : List Stmt} {np py pn pa pos pos' : Pos} {tb : WX → TS}
/-- y = n within the suite -/
theorem suite_keep {a : Addr} {oe : Obj} {q : List (Addr × Obj)} (hN : X.N.Nodup) (hi : X.N[i]? = some n) (hl : X.env.kindOf n = some .local) (hj : X.N[j]? = some y) (hy : X.env.kindOf y = some .local)
    (hd : (n == ("__debug__" : Str)) = false ∧ (n == ("__classdict__" : Str)) = false) : PSs (X.suite a ((a, oe) :: q)) [.Assign [.Name y py] (.Name n pn) pa] (tAsg (tVar i) (gName j)) :=
  pss_one (ps_asg (pe_var (X := X.suite a ((a, oe) :: q)) hi (.inl hl) hd.1 hd.2) (pg_name (X := X.suite a ((a, oe) :: q)) hN hj (.inl hy) (.inr hy)) rfl rfl rfl)
theorem ps_try_keep (hs : X.stack = X.env :: X.outer) (hf : X.env.frame = some X.env.locals) (hN : X.N.Nodup) (hi : X.N[i]? = some n) (hl : X.env.kindOf n = some .local) (hj : X.N[j]? = some y) (hy : X.env.kindOf y = some .local)
    (hex : X.ex = []) (hd : (n == ("__debug__" : Str)) = false ∧ (n == ("__classdict__" : Str)) = false) (hij : i ≠ j) (hc : Names X x c)
    (hb : ∀ (W : WX) (pn : List (Addr × Obj)) (xe : Value → Shared → Prop), Takes (X.tr pn xe) W → PassesOwn (model X.prog X.w) X.A X.env xe → PSs (X.tr pn xe) body (tb W)) :
    PS X (.Try body [.ExceptHandler (some (.Name x np)) (some n) [.Assign [.Name y py] (.Name n pn) pa] pos'] [] [] pos) (fun D σ H => tb (wKeep X.K c i j D) D σ H) := by
  refine ⟨fun pins s σ H E I h => wpAny_Try_except ?_⟩
  have ok := I.ok
  have fr : X.A.frames = some (X.env :: X.outer) := by rw [ok.frames, hs]
  refine wpAny_mono ((hb (wKeep X.K c i j E) (X.pn ++ pins) _ ?take PassesOwn.looking).run [] s σ H E (I.toTry _) h) ?through fun _ _ z => z
  case through =>
    intro f s1 r
    cases f with
    | next => obtain ⟨σ1, H1, J, q⟩ := r; exact wpAny_execs_nil ⟨σ1, H1, J.ofTry ok, q⟩
    | brk => obtain ⟨σ1, H1, J, q⟩ := r; exact ⟨σ1, H1, J.ofTry ok, q⟩
    | cont => obtain ⟨σ1, H1, J, q⟩ := r; exact ⟨σ1, H1, J.ofTry ok, q⟩
    | ret u => obtain ⟨v, σ1, H1, J, r, q⟩ := r; exact ⟨v, σ1, H1, J.ofTry ok, r, q⟩
  case take =>
    rintro u s1 ⟨a, B, s0, ps, σ1, H1, cls, d, rfl, J0, ground, up0, sky, hna, os, bare, hm, C, rfl, hw⟩
    have J : Inv X pins σ1 H1 s0 := J0.ofTry ok
    have sky : Sky B (X.env :: X.outer) a (Zc (.ref C) d) X.env.locals s1.heap := by
      have := sky
      rw [show (X.tr (X.pn ++ pins) _).stack = X.stack from rfl, hs] at this
      exact this
    refine Sky.land Zc.steady fr hf sky fun h2 fly2 up2 => ?_
    have land : ∀ {h' : Heap}, HandSPX.FlyingZ B (X.env :: X.outer) a (Zc (.ref C) d) h' → s0.heap.UpToSlots h' → Inv X pins σ1 H1 { s1 with heap := h' } := fun fl up => J.landed ground fl.1 up os bare
    obtain ⟨o2, v2, get2, z2, d2⟩ := fly2.there
    have notFrame : a ∉ frs (X.env :: X.outer) := fun hm => by
      obtain ⟨_, o', e', nf⟩ := fly2.2.2.1.mem hm
      rw [get2] at e'
      cases e'
      exact nf _ d2
    have isNew : s0.heap.get? a = none := by
      cases e : s0.heap.get? a with
      | none => rfl
      | some o' =>
        have := ground a o' e (by rw [show (X.tr (X.pn ++ pins) _).stack = X.stack from rfl, hs]; exact notFrame)
        rw [fly2.2.1] at this
        cases this
    have nL : a ≠ X.env.locals := fun z => notFrame (List.mem_filterMap.mpr ⟨X.env, List.mem_cons_self, by rw [hf, z]⟩)
    have nF : a ∉ X.fs := fun hm => by
      obtain ⟨e, he, q⟩ := List.mem_filterMap.mp hm
      exact notFrame (List.mem_filterMap.mpr ⟨e, List.mem_cons_of_mem _ he, q⟩)
    have J2 := land fly2 (up0.trans up2)
    have S2 := J2.suite get2 d2 hna nL nF
    refine wpAny_handleBy_cons (codeAny_handlers_test ?_) (by intro z; cases z)
    have name : ∀ {Q : Value → Shared → Prop} {R : Value → Shared → Prop}, Q c { s1 with heap := h2 } → wpAny (model X.prog X.w) (X.A.mark (some (.ref a))) (eval (.Name x np) X.env) Q R { s1 with heap := h2 } := by
      intro Q R q
      obtain ⟨g, dbg, m | ⟨m, v, nn⟩⟩ := hc
      · exact ld_glob S2 g m q dbg
      · exact ld_blt S2 g m v q nn dbg
    have hit := PySem.W.exm_one (M := model X.prog X.w) J2.kIn (fun A Q R s' k q => wpAny_typeOf_ref (k _ _ get2) (by rw [z2.1]; exact q)) hm
    refine name (hit.here (codeAny_handlers_suite_as (HandSPX.lands_againZ fly2 fun h3 fly3 up3 => ?_)))
    obtain ⟨o3, v3, get3, z3, d3⟩ := fly3.there
    have J3 := land fly3 ((up0.trans up2).trans up3)
    have S3 := J3.suite get3 d3 hna nL nF
    refine store_ok (X := X.suite a ((a, o3) :: (X.pn ++ pins))) (v := .ref a) S3 hN hi (.inl hl) rfl (fun s4 S4 => ?_) (.inr hl)
    have run := (suite_keep (py := py) (pn := pn) (pa := pa) (a := a) (oe := o3) (q := X.pn ++ pins) hN hi hl hj hy hd).run [] s4 _ H1 { nx := fun σ' H' => σ' = (σ1.set i (some (.ref a))).set j (some (.ref a)) ∧ H' = H1, rt := fun _ _ => False, bk := fun _ _ => False, ct := fun _ _ => False } S4
      ⟨.ref a, List.getElem?_set_self (by rw [J.len]; exact (List.getElem?_eq_some_iff.mp hi).1), rfl, rfl⟩
    refine wpAny_mono run (fun f s5 r => ?_) (fun _ _ z => False.elim z)
    cases f with
    | brk => obtain ⟨σ5, H5, S5, q⟩ := r; exact gone_ok (S5.unsuite ok) hN hi hl fun s6 J6 => ⟨_, _, J6, q.elim⟩
    | cont => obtain ⟨σ5, H5, S5, q⟩ := r; exact gone_ok (S5.unsuite ok) hN hi hl fun s6 J6 => ⟨_, _, J6, q.elim⟩
    | ret u => obtain ⟨v, σ5, H5, S5, rv, q⟩ := r; exact gone_ok (S5.unsuite ok) hN hi hl fun s6 J6 => ⟨_, _, _, J6, rv, q.elim⟩
    | next =>
      obtain ⟨σ5, H5, S5, rfl, rfl⟩ := r
      have there : s5.heap.get? a = some o3 := (S5.pin (a, o3) (List.mem_append_left _ List.mem_cons_self)).1
      have J5 : Inv X pins _ H5 s5 := S5.unsuite ok
      have T5 := inv_track (XO a C d) J5 hna (by
          cases e : X.s_0.heap.get? a with
          | none => rfl
          | some o' =>
            exfalso
            obtain ⟨o'', q⟩ := J.base.there a o' e (by rw [hex]; simp)
            rw [isNew] at q
            cases q) nL (fun z cc e w => by
          obtain ⟨v, q⟩ := J.cell z cc e
          unfold Heap.IsCell at q
          rw [w] at q
          obtain ⟨o', q, _⟩ := q
          rw [isNew] at q
          cases q) (fun p hm w => by
          have := (J.pin p hm).1
          rw [w, isNew] at this
          cases this) ⟨⟨o3, v3, there, z3.1, z3.2, d3⟩, ⟨o3, there⟩, fun h1 h2 ⟨oe, vs, e1, e2⟩ k => ⟨oe, vs, k _ e1, e2⟩⟩
      refine gone_ok T5 hN hi hl fun s6 J6 => ⟨_, _, J6, ?_⟩
      have fin := hw a hna
      rw [List.set_comm _ _ hij, List.set_set]
      exact fin
end
end DS
/-! try .. except X as n: y = n, over data; isinstance of what is kept. -/
namespace DS
open PySem L2
/-- the context of a try's body -/
@[reducible] def DC.tr (C : DC) (W : WX) (pn : List (Addr × Obj)) (xe : Value → Shared → Prop) : DC := ⟨C.X.tr pn xe, W, C.mp, C.s0, C.tb⟩
theorem Sc.tr {C : DC} {n : Nm} (S : Sc C n) {W : WX} {pn : List (Addr × Obj)} {xe : Value → Shared → Prop} (tk : Takes (C.X.tr pn xe) W) (po : PassesOwn (model C.X.prog C.X.w) C.X.A C.X.env xe) : Sc (C.tr W pn xe) n :=
  ⟨S.hN, S.nd, S.ck, S.kd, S.calm, S.fnc, S.mpe, po, S.room, S.bno, S.fs, tk, S.tp⟩
theorem LkSc.tr {C : DC} {sc : Scope} (L : LkSc C sc) (W : WX) (pn : List (Addr × Obj)) (xe : Value → Shared → Prop) : LkSc (C.tr W pn xe) sc := L
/-- the classes of exceptions that a clause takes -/
structure ExF (T : Wd) (x : Str) (tab : List Str) : Prop where
  ex : ∃ c, T.mg x = some c ∧ ∀ y ∈ tab, ∃ C, T.mg y = some (.ref C) ∧ PySem.W.exmOne T.K (.ref C) c = some true
def tryV (tab : List Str) (i j : Nat) (m : M Flow) : M Flow := fun ρ => match m ρ with
  | .ex e r => if tab.contains e.cls then .ok .nx ((r.set j (.im (.dict [(.str e.cls, .bool e.fs.isEmpty)]))).set i .un) else .no
  | r => r
@[simp ↓] theorem tryV_eq (tab : List Str) (i j : Nat) (m : M Flow) (ρ : Rho) : tryV tab i j m ρ = match m ρ with
  | .ex e r => if tab.contains e.cls then .ok .nx ((r.set j (.im (.dict [(.str e.cls, .bool e.fs.isEmpty)]))).set i .un) else .no
  | r => r := id rfl
section
variable {C : DC} {n : Nm} {pos : Pos}
theorem ds_tryV {x nm y : Str} {sc : Scope} {tab : List Str} {m : M Flow} {body : List Stmt} {np py pn pa pos' : Pos} (S : Sc C n) (L : LkSc C sc) (i j k : Nat) (ht : n.top = true) (hi : i ∈ n.ws) (li : i ∈ n.ls) (hx : n.N[i]? = some nm) (hj : j ∈ n.ws) (lj : j ∈ n.ls) (hy : n.N[j]? = some y)
    (hij : i ≠ j) (hd : plB nm = true) (hk : n.gs[k]? = some x) (hX : ExF C.T x tab) (hb : ∀ C', Sc C' n → LkSc C' sc → DSs C' body m) :
    DS C (.Try body [.ExceptHandler (some (.Name x np)) (some nm) [.Assign [.Name y py] (.Name nm pn) pa] pos'] [] [] pos) (tryV tab i j m) := by
  obtain ⟨hs, hf, hex⟩ := S.tp ht
  obtain ⟨c, hc, hcs⟩ := hX.ex
  refine ⟨PS.imp (ps_try_keep (i := i) (j := j) (c := c) (tb := fun W => LS ⟨C.X, W, C.mp, C.s0, C.tb⟩ m) hs hf (by rw [S.hN]; exact S.nd) (by rw [S.hN]; exact hx) (S.lcl li hx) (by rw [S.hN]; exact hy) (S.lcl lj hy) hex ⟨(plB_d hd).1, (plB_d hd).2.1⟩ hij ⟨(S.gl hk).1, (plB_d (S.gl hk).2).1, .inl hc⟩
    fun W pn xe tk po => (hb (C.tr W pn xe) (S.tr tk po) (L.tr W pn xe)).pss) fun E σ H ⟨Hf, G, ρ, rr, h⟩ => ⟨Hf, G, ρ, rr, ?_⟩⟩
  unfold tryV at h
  cases e : m ρ with
  | no => rw [e] at h; exact h
  | ok f r =>
    rw [e] at h
    cases f with
    | nx => exact h
    | rt d => exact h
    | ro d => exact h
    | bk => exact h
    | ct => exact h
  | ex x r =>
    rw [e] at h
    by_cases hm : tab.contains x.cls = true
    case neg => simp only [hm] at h; exact h.elim
    simp only [hm, if_true] at h
    intro cls dd σ1 H1 Hf1 s1 r1 xr
    obtain ⟨C0, hC0, hm0⟩ := hcs x.cls (List.contains_iff_mem.mp hm)
    have ec : cls = .ref C0 := by
      have := xr.1
      rw [show (DC.T ⟨C.X, _, C.mp, C.s0, C.tb⟩).mg x.cls = some (.ref C0) from hC0] at this
      exact (Option.some.inj this).symm
    subst ec
    refine ⟨hm0, C0, rfl, fun a ha => ?_⟩
    have rn : RR C.F (upd Hf1 a (XO a C0 dd)) G σ1 (upd H1 a (XO a C0 dd)) r := RR.new r1 ha
    have sm : Same Hf1 (upd Hf1 a (XO a C0 dd)) := Same.updN (r1.fz.free ha)
    have rp : Rp C.T (upd Hf1 a (XO a C0 dd)) (.dict [(.str x.cls, .bool x.fs.isEmpty)]) (.ref a) := by
      unfold Rp
      refine ⟨a, rfl, .inr (.inl ⟨x.cls, C0, dd, ?_, upd_same, hC0, fun d0 hd0 => ?_⟩)⟩
      · rcases xr.2 with ⟨h1, h2⟩ | ⟨h1, d0, vs, h2, _⟩
        · rw [h1, h2]; rfl
        · rw [h2]
          have : x.fs.isEmpty = false := by
            cases hfs : x.fs with
            | nil => exact absurd hfs h1
            | cons p q => rfl
          rw [this]; rfl
      · rcases xr.2 with ⟨h1, h2⟩ | ⟨_, d1, vs, h2, h3, _⟩
        · rw [h2] at hd0; cases hd0
        · rw [h2] at hd0; cases hd0
          exact ⟨vs, sm _ _ h3⟩
    exact h _ _ _ (s1.trans sm) (((rn.set (S.mpo j hj) rp)).drop (S.mpo i hi) none)
/-! ### isinstance of what is kept -/
/-- isinstance(e, c): e a kept exception, c a class -/
def rIsX (K : PySem.W.Frag) : List V → Hp → VK → Prop := fun xs H Q => ∃ (a D : Addr) (d : Option Addr) (cV : V) (cv : Value) (b : Bool), xs = [.ref a, cV] ∧ H a = some (XO a D d) ∧ (∀ dd, d = some dd → ∃ fs, H dd = some (.xd fs)) ∧ (∀ u, RelV cV u → u = cv) ∧ ExcC K D ∧ PySem.W.kitOne K (.ref D) cv = some b ∧ Q (.bl b) H
theorem call_isX {X : Cx} : CallR X (.builtin "isinstance") (rIsX X.K) := by
  rintro pins s σ H xs us Q I r ⟨a, D, dd, cV, cv, b, rfl, hH, hdd, hc, ex, hk, q⟩
  cases r with
  | cons r1 rr =>
    cases rr with
    | cons r2 rr =>
      cases rr
      cases r1
      obtain rfl := hc _ r2
      have ho : ObjOk X.prog X.w H s.heap a (.ext fun h => ∃ oe vs, h.get? a = some oe ∧ oe.cls = .ref D ∧ oe.dict = dd ∧ oe.data = .fields vs) := I.hok a _ hH
      obtain ⟨⟨⟨oc, oda', oda, osl⟩, vs, hg, h1, h2, h3⟩, _⟩ := ho
      dsimp only at h1 h2 h3
      subst h1 h2 h3
      have J : ∃ od, PySem.W.InstAt s.heap a ⟨.ref D, oda', .fields vs, osl⟩ D od := by
        cases oda' with
        | none => exact ⟨none, hg, rfl, rfl, trivial⟩
        | some dx =>
          obtain ⟨fs, hx⟩ := hdd dx rfl
          obtain ⟨mA, ⟨od, es, ep, e, c⟩, _⟩ := (show ObjOk X.prog X.w H s.heap dx (.xd fs) from I.hok dx _ hx)
          exact ⟨od, hg, rfl, rfl, e⟩
      obtain ⟨od, J⟩ := J
      exact PySem.W.kia_one (PySem.W.kitx_exc (by obtain ⟨cd, hc, _⟩ := PySem.W.any_some ex.hd; rw [hc]; rfl) ex.hg ex.hk ex.hs ex.ha ex.hn ex.ht ex.hm) I.kIn J hk (fun z => nomatch z) fun tk => ⟨.bl b, H, I.kept (t' := tk) fun _ _ z => z, rfl, q⟩
/-- which of the classes ys stand below the class x -/
structure IsF (T : Wd) (x : Str) (tab : List (Str × Bool)) : Prop where
  ex : ∃ c, T.mg x = some (.ref c) ∧ ∀ y b, (y, b) ∈ tab → ∃ D, T.mg y = some (.ref D) ∧ ExcC T.K D ∧ PySem.W.kitOne T.K (.ref D) (.ref c) = some b
structure IsB (T : Wd) (x : Str) (tab : List (Str × Bool)) : Prop where
  ex : ∀ y b, (y, b) ∈ tab → ∃ D, T.mg y = some (.ref D) ∧ ExcC T.K D ∧ PySem.W.kitOne T.K (.ref D) (.type "ArithmeticError") = some b
def isxD (tab : List (Str × Bool)) : D → Option D
  | .dict [(.str c, .bool _)] => (tab.lookup c).map .bool
  | _ => none
@[simp ↓] theorem isxD_x (tab : List (Str × Bool)) (c : Str) (b : Bool) : isxD tab (.dict [(.str c, .bool b)]) = (tab.lookup c).map .bool := id rfl
theorem lookup_mem {α : Type} {c : Str} {b : α} : ∀ {tab : List (Str × α)}, tab.lookup c = some b → (c, b) ∈ tab
  | [], h => by cases h
  | (d, v) :: l, h => by
    rw [List.lookup_cons] at h
    by_cases e : c = d
    · subst e
      simp at h
      subst h
      exact List.mem_cons_self
    · have : (c == d) = false := by simpa using e
      rw [this] at h
      exact List.mem_cons_of_mem _ (lookup_mem h)
theorem rp_exc {T : Wd} {Hf : Hp} {c : Str} {b : Bool} {v : V} (h : Rp T Hf (.dict [(.str c, .bool b)]) v) : ∃ a D d, v = .ref a ∧ Hf a = some (XO a D d) ∧ (∀ dd, d = some dd → ∃ fs, Hf dd = some (.xd fs)) ∧ T.mg c = some (.ref D) := by
  unfold Rp at h
  obtain ⟨a, e, h⟩ := h
  rcases h with ⟨C, dx, fs, c', r, e2, _⟩ | ⟨c', D, d, e2, h1, h2, h3⟩ | ⟨e2, _⟩ | ⟨_, _, _, e2, _⟩
  · cases e2
  · simp at e2
    obtain ⟨rfl, e3⟩ := e2
    exact ⟨a, D, d, e, h1, h3, h2⟩
  · cases e2
  · cases e2
theorem de_isx {a : Expr} {ma : M D} {x : Str} {tab : List (Str × Bool)} {p p' : Pos} (S : Sc C n) (j k : Nat) (hj : n.bs[j]? = some ("isinstance" : Str)) (hk : n.gs[k]? = some x) (h : IsF C.T x tab) (ha : DE C a ma) : DE C (.Call (.Name "isinstance" p) [a, .Name x p'] [] pos) (c1 (isxD tab) ma) := by
  obtain ⟨c, hc, hf⟩ := h.ex
  refine ⟨PE.imp (pe_callB call_isX (S.bl hj).1 (S.bl hj).2 (by decide +kernel) (pa_cons ha.pe (pa_cons (pe_glob (v := .ref c) (S.gl hk).1 hc rfl (plB_d (S.gl hk).2).1) pa_nil rfl) (star_ok ha.ok _ _)) (by decide) (by decide) (star_ok ha.ok _ _) rfl) fun σ H Q ⟨Hf, G, ρ, rr, h⟩ => ?_, rfl⟩
  refine post_bind rr h fun v d H1 Hf1 ρ1 s1 r1 rx p1 => ?_
  obtain ⟨d', e, q⟩ := opt_post p1
  unfold isxD at e
  split at e
  · rename_i y _
    obtain ⟨b, hb, rfl⟩ := Option.map_eq_some_iff.mp e
    obtain ⟨a, D, dd, rfl, h1, hdd, h2⟩ := rp_exc rx
    obtain ⟨D', h3, h4, h5⟩ := hf y b (lookup_mem hb)
    rw [h2] at h3
    cases h3
    exact ⟨a, D, dd, .ref c, .ref c, b, rfl, r1.fz _ _ h1, fun d0 e0 => (hdd d0 e0).imp fun _ z => r1.fz _ _ z, fun u ru => ru, h4, h5, q _ H1 Hf1 (Same.refl _) r1 (rp_bool b)⟩
  · cases e
theorem de_isb {a : Expr} {ma : M D} {tab : List (Str × Bool)} {p p' : Pos} (S : Sc C n) (j k : Nat) (hj : n.bs[j]? = some ("isinstance" : Str)) (hk : n.bs[k]? = some ("ArithmeticError" : Str)) (h : IsB C.T "ArithmeticError" tab) (ha : DE C a ma) : DE C (.Call (.Name "isinstance" p) [a, .Name "ArithmeticError" p'] [] pos) (c1 (isxD tab) ma) := by
  have hf := h.ex
  refine ⟨PE.imp (pe_callB call_isX (S.bl hj).1 (S.bl hj).2 (by decide +kernel) (pa_cons ha.pe (pa_cons (pe_bltn (v := .ty "ArithmeticError") (S.bl hk).1 (S.bl hk).2 (by decide +kernel) rfl (by decide) (by decide)) pa_nil rfl) (star_ok ha.ok _ _)) (by decide) (by decide) (star_ok ha.ok _ _) rfl) fun σ H Q ⟨Hf, G, ρ, rr, h⟩ => ?_, rfl⟩
  refine post_bind rr h fun v d H1 Hf1 ρ1 s1 r1 rx p1 => ?_
  obtain ⟨d', e, q⟩ := opt_post p1
  unfold isxD at e
  split at e
  · rename_i y _
    obtain ⟨b, hb, rfl⟩ := Option.map_eq_some_iff.mp e
    obtain ⟨a, D, dd, rfl, h1, hdd, h2⟩ := rp_exc rx
    obtain ⟨D', h3, h4, h5⟩ := hf y b (lookup_mem hb)
    rw [h2] at h3
    cases h3
    exact ⟨a, D, dd, .ty "ArithmeticError", .type "ArithmeticError", b, rfl, r1.fz _ _ h1, fun d0 e0 => (hdd d0 e0).imp fun _ z => r1.fz _ _ z, fun u ru => ru, h4, h5, q _ H1 Hf1 (Same.refl _) r1 (rp_bool b)⟩
  · cases e
end
end DS
/-! xs.index(y), xs.count(y), {}; isinstance of an empty dict. -/
namespace DS
open PySem L2
/-- what an attribute is asked of -/
def okB : Expr → Bool
  | .Name .. => true | .Constant .. => true | .Subscript .. => true | .Attribute .. => true
  | _ => false
theorem base_ok {o : Expr} (h : okB o = true) (m : Str) (env : Env) : attributeBase o m env (eval o env) = eval o env := by
  cases o <;> first | rfl | cases h
mutual
theorem plain_noObj : ∀ d : D, noObj d = true → d.plain = true
  | .none, _ => rfl
  | .bool _, _ => rfl
  | .int _, _ => rfl
  | .str _, _ => rfl
  | .list ds, h => by simp only [noObj] at h; simp only [PyData.plain]; exact plain_noObjA ds h
  | .tuple ds, h => by simp only [noObj] at h; simp only [PyData.plain]; exact plain_noObjA ds h
  | .dict _, h => by simp [noObj] at h
theorem plain_noObjA : ∀ ds : List D, noObjA ds = true → PyData.plainAll ds = true
  | [], _ => rfl
  | d :: ds, h => by
    simp only [noObjA, Bool.and_eq_true] at h
    simp only [PyData.plainAll, Bool.and_eq_true]
    exact ⟨plain_noObj d h.1, plain_noObjA ds h.2⟩
end
def findOk (d : D) (ds : List D) : Bool := inOk d ds && decide (ds.length ≤ 1000000)
/-- how often; where first -/
def countD : D → D → Option D
  | .list ds, d => if findOk d ds then some (.int ((ds.countP fun y => PyData.eqv y d : Nat) : Int)) else none
  | _, _ => none
def indexD : D → D → Option D
  | .list ds, d => if findOk d ds && ds.any fun y => PyData.eqv y d then some (.int (((ds.map fun y => PyData.eqv y d).idxOf true : Nat) : Int)) else none
  | _, _ => none
def rFind (K : PySem.W.Frag) (f : List D → D → Nat) (ok : List D → D → Prop) : V → List V → Hp → VK → Prop := fun x vs H Q => ∃ (p : Addr) (xs : List V) (y : V) (ds : List D) (d : D), x = .ref p ∧ vs = [y] ∧ SqL K H p xs ∧ DpAll K H xs ds ∧ Dp K H y d ∧ findOk d ds = true ∧ ok ds d ∧ Q (.int (f ds d : Nat)) H
theorem findOk_parts {d : D} {ds : List D} (h : findOk d ds = true) : min (PyData.depthAll ds) d.depth ≤ 64 ∧ d.plain = true ∧ PyData.plainAll ds = true ∧ ds.length ≤ 1000000 := by
  unfold findOk inOk at h
  simp only [Bool.and_eq_true, decide_eq_true_eq] at h
  exact ⟨h.1.1.1, plain_noObj _ h.1.1.2, plain_noObjA _ h.1.2, h.2⟩
theorem mt_countD {X : Cx} (hu : X.A.units + 100 < cLine) : MtR X "list.count" (rFind X.K (fun ds d => ds.countP fun y => PyData.eqv y d) fun _ _ => True) := by
  rintro pins s σ H x vs v us Q I rx rv ⟨p, xs, y, ds, d, rfl, rfl, hs, hds, hd, hok, _, q⟩
  cases rx
  obtain ⟨u, rfl, ru⟩ := rv.one
  obtain ⟨its, ri, hl, hz⟩ := I.list hs
  obtain ⟨as, ra⟩ := Dp.readsAll I ds xs its hds ri
  obtain ⟨bs, rb⟩ := Dp.reads I _ _ _ hd ru
  obtain ⟨h1, h2, h3, h4⟩ := findOk_parts hok
  exact SeqAt.count_list_data hl.isList (by simpa using ra) rb h3 h2 (by omega) ⟨.int _, H, I.tok _, ⟨_, rfl⟩, q⟩
theorem mt_indexD {X : Cx} (hu : X.A.units + 100 < cLine) : MtR X "list.index" (rFind X.K (fun ds d => (ds.map fun y => PyData.eqv y d).idxOf true) fun ds d => (ds.any fun y => PyData.eqv y d) = true) := by
  rintro pins s σ H x vs v us Q I rx rv ⟨p, xs, y, ds, d, rfl, rfl, hs, hds, hd, hok, hany, q⟩
  cases rx
  obtain ⟨u, rfl, ru⟩ := rv.one
  obtain ⟨its, ri, hl, hz⟩ := I.list hs
  obtain ⟨as, ra⟩ := Dp.readsAll I ds xs its hds ri
  obtain ⟨bs, rb⟩ := Dp.reads I _ _ _ hd ru
  obtain ⟨h1, h2, h3, h4⟩ := findOk_parts hok
  have ra' : ReadsAll s.heap its.toArray.toList ds as := by simpa using ra
  have hlen : its.length = ds.length := by have := SeqAt.len_at ra'; simpa using this
  have eqs := SeqAt.items_plain (A := X.A) ra' rb h3 h2 (by omega)
  refine SeqAt.call_list_index (α := Bool) (vs := its) (ks := ds.map fun y => PyData.eqv y d) (k := true) hl.isList ⟨by simpa using hlen, fun j j1 j2 => ?_⟩ (by rw [List.length_map]; exact le_sz h4) ?_ ⟨.int _, H, I.tok _, ⟨_, rfl⟩, q⟩
  · have e1 := eqs its[j] (by simp)
    obtain ⟨j3, e2⟩ := SeqAt.readOf_at ra' h3 j (by simpa using j1)
    have e3 : SeqAt.readOf s.heap its[j] = ds[j] := by simpa using e2
    rw [e3] at e1
    simpa using e1
  · rw [List.any_eq_true] at hany
    obtain ⟨z, hz1, hz2⟩ := hany
    exact List.mem_map.mpr ⟨z, hz1, hz2⟩
section
variable {C : DC} {n : Nm} {pos : Pos} {a b : Expr} {ma mb : M D}
/-- a method of a list, with one argument -/
def binL (g : D → D → Option D) (ma mb : M D) : M D := bnd ma fun x => match x with
  | .list _ => bnd mb fun y => opt (g x y)
  | _ => stop
@[simp ↓] theorem binL_eq (g : D → D → Option D) (a b : M D) (ρ : Rho) : binL g a b ρ = (bnd a fun x => match x with
  | .list _ => bnd b fun y => opt (g x y)
  | _ => stop) ρ := id rfl
theorem find_ok {g : D → D → Option D} {f : List D → D → Nat} {ok : List D → D → Prop} (hg : ∀ a d z, g a d = some z → ∃ ds, a = .list ds ∧ findOk d ds = true ∧ ok ds d ∧ z = .int (f ds d : Nat)) :
    ∀ σ H Q, Lft C (relE C.T) (binL g ma mb) σ H Q → tBM C.X.K "list" (rFind C.X.K f ok) (Lft C (relE C.T) ma) (tCons (Lft C (relE C.T) mb) tNil) σ H Q := fun σ H Q ⟨Hf, G, ρ, rr, h⟩ => by
  refine post_bind rr h fun x d H1 Hf1 ρ1 s1 r1 rx p1 => ?_
  have isL : ∃ ds, d = .list ds := by
    cases d with
    | list ds => exact ⟨ds, rfl⟩
    | none => exact p1.elim
    | bool b => exact p1.elim
    | int b => exact p1.elim
    | str b => exact p1.elim
    | tuple b => exact p1.elim
    | dict b => exact p1.elim
  obtain ⟨ds, rfl⟩ := isL
  have rx' := rx
  unfold Rp at rx'
  obtain ⟨p, xs, rfl, hs, ra⟩ := rx'
  refine ⟨.inl ⟨rfl, xs, r1.fz.seq hs⟩, ?_⟩
  refine post_bind r1 p1 fun y d2 H2 Hf2 ρ2 s2 r2 ry p2 => ?_
  obtain ⟨w, e2, q⟩ := opt_post p2
  obtain ⟨ds', e3, h1, h2, rfl⟩ := hg _ _ _ e2
  cases e3
  have no : noObj d2 = true ∧ noObjA ds = true := by
    unfold findOk inOk at h1
    simp only [Bool.and_eq_true] at h1
    exact ⟨h1.1.1.2, h1.1.2⟩
  exact ⟨p, xs, y, ds, d2, rfl, rfl, r2.fz.seq (s2.seq hs), (RpA.lay _ _ (RpA.mono (s2.trans r2.fz) _ _ ra) no.2).2, (Rp.lay _ _ (Rp.mono r2.fz _ _ ry) no.1).2, h1, h2, q _ H2 Hf2 (Same.refl _) r2 (rp_int _)⟩
theorem de_count {ap : Pos} (S : Sc C n) (ho : okB a = true) (ha : DE C a ma) (hb : DE C b mb) (hline : (ap.endLine == pos.line) = true) : DE C (.Call (.Attribute a "count" ap) [b] [] pos) (binL countD ma mb) :=
  ⟨PE.imp (pe_bm PySem.F.plainAttrs_list PySem.F.slot_list_count PySem.F.type_list_count (mt_countD (by have := S.room.un; omega)) ha.pe (pa_cons hb.pe pa_nil (star_ok hb.ok _ _)) (base_ok ho _ _) (few_ok hb.ok) hline (star_ok hb.ok _ _) rfl) (find_ok fun a d z h => by
    unfold countD at h
    split at h
    · split at h
      · rename_i hf
        cases h
        exact ⟨_, rfl, hf, trivial, rfl⟩
      · cases h
    · cases h), rfl⟩
theorem de_index {ap : Pos} (S : Sc C n) (ho : okB a = true) (ha : DE C a ma) (hb : DE C b mb) (hline : (ap.endLine == pos.line) = true) : DE C (.Call (.Attribute a "index" ap) [b] [] pos) (binL indexD ma mb) :=
  ⟨PE.imp (pe_bm PySem.F.plainAttrs_list PySem.F.slot_list_index PySem.F.type_list_index (mt_indexD (by have := S.room.un; omega)) ha.pe (pa_cons hb.pe pa_nil (star_ok hb.ok _ _)) (base_ok ho _ _) (few_ok hb.ok) hline (star_ok hb.ok _ _) rfl) (find_ok fun a d z h => by
    unfold indexD at h
    split at h
    · split at h
      · rename_i hf
        cases h
        rw [Bool.and_eq_true] at hf
        exact ⟨_, rfl, hf.1, hf.2, rfl⟩
      · cases h
    · cases h), rfl⟩
/-- {} -/
theorem de_dict0 : DE C (.Dict [] [] pos) (ret (.dict [])) :=
  ⟨PE.imp pe_dnewK fun σ H Q ⟨Hf, G, ρ, rr, h⟩ p hp => h (.ref p) _ _ (rr.sameN hp) (rr.new hp) (by unfold Rp; exact ⟨p, rfl, .inr (.inr (.inl ⟨rfl, upd_same⟩))⟩), rfl⟩
end
end DS
/-! Facts about the text's classes, as the end finds them. -/
namespace DS
open PySem L2
@[simp ↓] theorem isi_dict0 (t : Ty) : isiD t (.dict []) = some (.bool false) := id rfl
section
variable {P : Program} {w : World} {K : PySem.W.Frag} {mg : Str → Option Value} {base : Heap} {tb : List (Addr × Str)}
/-- what is asked of a class -/
structure ClsB (K : PySem.W.Frag) (c : Addr) : Prop where
  hd : PySem.W.hasDictIn K c = true
  ty : PySem.W.typeIn K (.ref c) = some (.type "type")
  self : PySem.W.subIn K (.ref c) (.ref c) = some true
  be : PySem.W.subIn K (.ref c) (.type "BaseException") = some true
theorem exm_own {c : Addr} {t : Value} {b : Bool} (B : ClsB K c) (h : PySem.W.subIn K t (.ref c) = some b) : PySem.W.exmOne K t (.ref c) = some b := PySem.W.exm_ref B.be B.hd B.ty h
theorem kit_own {c : Addr} {t : Value} {b : Bool} (B : ClsB K c) (h : PySem.W.subIn K t (.ref c) = some b) : PySem.W.kitOne K t (.ref c) = some b := by
  unfold PySem.W.kitOne
  split
  · rename_i e
    have e : t = .ref c := beq_iff_eq.mp e
    rw [e, B.self] at h
    exact h
  · have := exm_own B h
    unfold PySem.W.exmOne at this
    split at this
    · exact this
    · cases this
theorem kit_arith {d : Addr} {b : Bool} (h : PySem.W.subIn K (.ref d) (.type "ArithmeticError") = some b) : PySem.W.kitOne K (.ref d) (.type "ArithmeticError") = some b := by
  unfold PySem.W.kitOne
  rw [if_neg (fun z => by have := beq_iff_eq.mp z; cases this)]
  unfold PySem.W.kitCls
  have : PySem.W.kitMeta "ArithmeticError" = true := by decide +kernel
  simp only [this, if_true]
  exact h
theorem xcls_mk {x : Str} {c : Addr} (g : mg x = some (.ref c)) (e : PySem.W.excIn K c [.type "ArithmeticError", .type "Exception", .type "BaseException", .type "object"] "ArithmeticError.__new__" = true) (k : PySem.W.keepIn K (.ref c) = true) (B : ClsB K c) : XCls ⟨P, w, K, mg, base, tb⟩ x :=
  ⟨c, _, PySem.F.excBase_ArithmeticError, e, g, k, B.be, B.ty⟩
theorem all_cons {α : Type} {Q : α → Prop} {a : α} {l : List α} (h : Q a) (t : ∀ y ∈ l, Q y) : ∀ y ∈ a :: l, Q y := fun y hy => by
  rcases List.mem_cons.mp hy with rfl | hy
  · exact h
  · exact t y hy
theorem all_nil {α : Type} {Q : α → Prop} : ∀ y ∈ ([] : List α), Q y := fun y hy => by cases hy
theorem exf_mk {x : Str} {c : Addr} {tab : List Str} (g : mg x = some (.ref c)) (B : ClsB K c) (h : ∀ y ∈ tab, ∃ C, mg y = some (.ref C) ∧ PySem.W.subIn K (.ref C) (.ref c) = some true) : ExF ⟨P, w, K, mg, base, tb⟩ x tab :=
  ⟨.ref c, g, fun y hy => by obtain ⟨C, h1, h2⟩ := h y hy; exact ⟨C, h1, exm_own B h2⟩⟩
theorem isf_mk {x : Str} {c : Addr} {tab : List (Str × Bool)} (g : mg x = some (.ref c)) (B : ClsB K c) (h : ∀ p ∈ tab, ∃ C, mg p.1 = some (.ref C) ∧ ExcC K C ∧ PySem.W.subIn K (.ref C) (.ref c) = some p.2) : IsF ⟨P, w, K, mg, base, tb⟩ x tab :=
  ⟨c, g, fun y b hy => by obtain ⟨C, h1, h2, h3⟩ := h (y, b) hy; exact ⟨C, h1, h2, kit_own B h3⟩⟩
theorem isb_mk {x : Str} {tab : List (Str × Bool)} (h : ∀ p ∈ tab, ∃ C, mg p.1 = some (.ref C) ∧ ExcC K C ∧ PySem.W.subIn K (.ref C) (.type "ArithmeticError") = some p.2) : IsB ⟨P, w, K, mg, base, tb⟩ x tab :=
  ⟨fun y b hy => by obtain ⟨C, h1, h2, h3⟩ := h (y, b) hy; exact ⟨C, h1, h2, kit_arith h3⟩⟩
end
end DS
/-! Instances of the text's own classes. -/
namespace DS
open PySem L2
/-- a field by its name -/
def lkF (f : Str) : List (D × D) → Option D
  | [] => none
  | p :: r => match p.1 with
    | .str g => if f = g then some p.2 else lkF f r
    | _ => none
/-- the fields of an instance of the class c -/
def insOf (c : Str) : D → Option (List (D × D))
  | .dict ((.str c', .none) :: r) => if c' = c then some r else none
  | _ => none
@[simp ↓] theorem insOf_eq (c c' : Str) (r : List (D × D)) : insOf c (.dict ((.str c', .none) :: r)) = if c' = c then some r else none := id rfl
def fldD (c f : Str) (d : D) : Option D := (insOf c d).bind (lkF f)
theorem RpF.uncons {T : Wd} {H : Hp} {p : D × D} {r : List (D × D)} {fs : List (Str × V)} (h : RpF T H (p :: r) fs) : ∃ f v q, fs = (f, v) :: q ∧ p.1 = .str f ∧ Rp T H p.2 v ∧ RpF T H r q := by
  obtain ⟨k, d⟩ := p
  simp only [RpF, RpP] at h
  obtain ⟨f, v, q, e, ⟨h1, h2⟩, h3⟩ := h
  exact ⟨f, v, q, e, h1, h2, h3⟩
theorem RpF.unnil {T : Wd} {H : Hp} {fs : List (Str × V)} (h : RpF T H [] fs) : fs = [] := by simpa only [RpF] using h
theorem RpF.nil {T : Wd} {H : Hp} : RpF T H [] [] := by simp only [RpF]
theorem RpF.cons {T : Wd} {H : Hp} {f : Str} {d : D} {v : V} {r : List (D × D)} {fs : List (Str × V)} (a : Rp T H d v) (b : RpF T H r fs) : RpF T H ((.str f, d) :: r) ((f, v) :: fs) := by
  simp only [RpF, RpP]
  exact ⟨f, v, fs, rfl, ⟨rfl, a⟩, b⟩
theorem RpF.snoc {T : Wd} {H : Hp} {f : Str} {d : D} {v : V} : ∀ {r : List (D × D)} {fs : List (Str × V)}, RpF T H r fs → Rp T H d v → RpF T H (r ++ [(.str f, d)]) (fs ++ [(f, v)])
  | [], fs, h, a => by rw [h.unnil]; exact RpF.cons a RpF.nil
  | p :: r, fs, h, a => by
    obtain ⟨g, u, q, e, h1, h2, h3⟩ := h.uncons
    subst e
    obtain ⟨k, x⟩ := p
    dsimp only at h1 h2
    subst h1
    exact RpF.cons h2 (RpF.snoc h3 a)
theorem RpF.length {T : Wd} {H : Hp} : ∀ {r : List (D × D)} {fs : List (Str × V)}, RpF T H r fs → fs.length = r.length
  | [], fs, h => by rw [h.unnil]; rfl
  | p :: r, fs, h => by
    obtain ⟨g, u, q, e, _, _, h3⟩ := h.uncons
    subst e
    simp [RpF.length h3]
theorem RpF.look {T : Wd} {H : Hp} {f : Str} : ∀ {r : List (D × D)} {fs : List (Str × V)}, RpF T H r fs → (∀ d, lkF f r = some d → ∃ v, fs.lookup f = some v ∧ Rp T H d v) ∧ (lkF f r = none → fs.lookup f = none)
  | [], fs, h => by rw [h.unnil]; exact ⟨fun d e => (by cases e), fun _ => rfl⟩
  | p :: r, fs, h => by
    obtain ⟨g, u, q, e, h1, h2, h3⟩ := h.uncons
    subst e
    have ih := RpF.look (f := f) h3
    unfold lkF
    rw [h1]
    rw [List.lookup_cons]
    by_cases hfg : f = g
    · subst hfg
      simp only [if_true, beq_self_eq_true]
      exact ⟨fun d e => ⟨u, rfl, by cases e; exact h2⟩, fun e => (by cases e)⟩
    · have : (f == g) = false := by simpa using hfg
      simp only [if_neg hfg, this]
      exact ih
theorem rp_ins {T : Wd} {Hf : Hp} {c : Str} {d : D} {v : V} {r : List (D × D)} (h : Rp T Hf d v) (e : insOf c d = some r) : ∃ a C dx fs, v = .ref a ∧ Hf a = some (.ins C dx fs) ∧ T.mg c = some (.ref C) ∧ RpF T Hf r fs ∧ d = .dict ((.str c, .none) :: r) := by
  unfold insOf at e
  split at e
  · rename_i c' r'
    split at e
    · rename_i hc
      subst hc
      cases e
      unfold Rp at h
      obtain ⟨a, ev, h⟩ := h
      rcases h with ⟨C, dx, fs, c2, r2, e2, h1, h2, h3⟩ | ⟨c2, C, d2, e2, _⟩ | ⟨e2, _⟩ | ⟨_, _, _, e2, _⟩
      · cases e2
        obtain ⟨g, u, q, e4, h4, h5, h6⟩ := h3.uncons
        cases e4
        exact ⟨a, C, dx, fs, ev, h1, h2, h6, rfl⟩
      · cases e2
      · cases e2
      · cases e2
    · cases e
  · cases e
/-- a class of the text, and names that are attributes of no class of it -/
structure OCls (T : Wd) (c : Str) (fs : List Str) : Prop where
  ex : ∃ C, T.mg c = some (.ref C) ∧ Cls T.K C ∧ ∀ f ∈ fs, NoAttr T.K C f
section
variable {C : DC} {n : Nm} {pos : Pos} {a : Expr} {ma : M D}
theorem de_fld {c f : Str} {l : List Str} (S : Sc C n) (h : OCls C.T c l) (hf : f ∈ l) (ho : okB a = true) (ha : DE C a ma) : DE C (.Attribute a f pos) (c1 (fldD c f) ma) := by
  obtain ⟨K0, hm, hc, hn⟩ := h.ex
  refine ⟨PE.imp (pe_fld ha.pe (base_ok ho _ _)) fun σ H Q ⟨Hf, G, ρ, rr, h⟩ => post_bind rr h fun x d H1 Hf1 ρ1 s1 r1 rx p1 => ?_, rfl⟩
  obtain ⟨z, e, q⟩ := opt_post p1
  unfold fldD at e
  obtain ⟨r, e1, e2⟩ := Option.bind_eq_some_iff.mp e
  obtain ⟨p, K1, dx, fs, rfl, h1, h2, h3, _⟩ := rp_ins rx e1
  rw [show C.T.mg c = some (.ref K0) from hm] at h2
  cases h2
  obtain ⟨v, hv, rv⟩ := h3.look.1 z e2
  exact ⟨p, K0, dx, fs, v, rfl, r1.fz _ _ h1, hc, hn f hf, hv, q v H1 Hf1 (Same.refl _) r1 rv⟩
/-! ### self.f = e, while the instance is made -/
theorem putF_new {f : Str} {y : V} : ∀ {fs : List (Str × V)}, fs.lookup f = none → putF f y fs = fs ++ [(f, y)]
  | [], _ => rfl
  | (g, u) :: fs, h => by
    rw [List.lookup_cons] at h
    by_cases e : f = g
    · subst e; simp at h
    · have : (f == g) = false := by simpa using e
      rw [this] at h
      show (if g = f then _ else (g, u) :: putF f y fs) = _
      rw [if_neg (Ne.symm e), putF_new h]
      rfl
def sfF (i : Nat) (c f : Str) (me : M D) : M Flow := bnd me fun d => fun ρ => match ρ[i]? with
  | some (.mi c' fs) => if c' = c ∧ fs.length < 900 ∧ (lkF f fs).isNone = true then .ok .nx (ρ.set i (.mi c (fs ++ [(.str f, d)]))) else .no
  | _ => .no
@[simp ↓] theorem sfF_eq (i : Nat) (c f : Str) (me : M D) (ρ : Rho) : sfF i c f me ρ = (bnd me fun d => fun ρ => match ρ[i]? with
  | some (.mi c' fs) => if c' = c ∧ fs.length < 900 ∧ (lkF f fs).isNone = true then .ok .nx (ρ.set i (.mi c (fs ++ [(.str f, d)]))) else .no
  | _ => .no) ρ := id rfl
theorem ds_sfld {c f x : Str} {l : List Str} {px ap : Pos} (S : Sc C n) (i : Nat) (hi : i ∈ n.vs) (hx : n.N[i]? = some x) (h : OCls C.T c l) (hf : f ∈ l) (ha : DE C a ma) (hl : noLc a = true) : DS C (.Assign [.Attribute (.Name x px) f ap] a pos) (sfF i c f ma) := by
  obtain ⟨K0, hm, hc, hn⟩ := h.ex
  refine ⟨PS.imp (ps_fld (pv_ok S i hi hx) ha.pe (sw_ok ha.ok hl _ _ _)) fun E σ H ⟨Hf, G, ρ, rr, h⟩ => posts_bind rr h fun y d H1 Hf1 ρ1 s1 r1 ry p1 => ?_⟩
  cases e : ρ1[i]? with
  | none => simp only [e] at p1; exact p1.elim
  | some z =>
    simp only [e] at p1
    cases z with
    | un => exact p1.elim
    | im d => exact p1.elim
    | ml d => exact p1.elim
    | md d => exact p1.elim
    | mi c' fs =>
      dsimp only at p1
      split at p1
      · rename_i hh
        obtain ⟨rfl, h900, hlk⟩ := hh
        obtain ⟨p, K1, dx, vs, hp, hfp, hgp, hH, hmg, hrf⟩ := r1.sl i _ e
        rw [show C.T.mg c' = some (.ref K0) from hm] at hmg
        cases hmg
        have hlen := hrf.length
        have hno := hrf.look.2 (Option.isNone_iff_eq_none.mp hlk)
        refine ⟨.ref p, hp, p, K0, dx, vs, rfl, hH, hc, hn f hf, by omega, ?_⟩
        rw [putF_new hno]
        exact p1 σ _ Hf1 (Same.refl _) (r1.wr (y := .mi c' (fs ++ [(.str f, d)])) e rfl hp ⟨p, K0, dx, _, rfl, hfp, hgp, upd_same, hm, hrf.snoc ry⟩)
      · exact p1.elim
end
/-! ### a class is called -/
structure HasI (T : Wd) (c : Str) (k : Nat) (F : List Sl → Res D) : Prop where
  ex : ∃ K0 f fd ps, T.mg c = some (.ref K0) ∧ Mk T.K K0 f ∧ FnOk T.P T.w T.K T.mg T.base (L2.CX T.P T.w) k f fd ps (fsp T F) ∧ Binds T.K fd ps []
section
variable {X : Cx} {k : Nat} {f K0 : Addr} {fd : FuncData} {ps : List Str} {sp : Sp} {E : St → XK} {x : Str} {p pos : Pos} {e : Expr} {es : List Expr} {t : TA}
def tMakeE (K0 : Addr) (sp : Sp) (E : St → XK) (t : TA) : TE := fun σ H Q => t σ H fun vs H1 => ∀ y dx, H1 y = none → H1 dx = none → dx ≠ y →
  sp (.ref y :: vs) (upd (upd H1 dx (.own y)) y (.ins K0 dx [])) (fun v H2 => v = .non ∧ Q (.ref y) H2) (E σ)
theorem pe_makeE (mk : Mk X.K K0 f) (F : FnOk X.prog X.w X.K X.mg X.base (L2.CX X.prog X.w) k f fd ps sp) (hr : Room (k + 1) X.A) (hg : Gl X x) (hm : X.mg x = some (.ref K0)) (hb : Binds X.K fd ps []) (hx : ∀ σ, PassesAt (L2.CX X.prog X.w) X σ (E σ))
    (ha : PA X (e :: es) t) (hd : (x == ("__debug__" : Str)) = false) (he : starEach (e :: es) X.env = (false, eval e X.env) :: starEach es X.env) (hs : (backTo pos (starEach es X.env)).any (·.1) = false) :
    PE X (.Call (.Name x p) (e :: es) [] pos) (tMakeE K0 sp E t) := by
  refine ⟨fun pins s σ H Q I h => wpAny_Call_Name_kw (ld_glob I hg hm ?_ hd)⟩
  refine PySem.W.callWith_K (h₀ := X.base) I.ok.mod.kin mk.kp (thn (ha.run pos pins s σ H _ I h) fun us s1 ⟨vs, H1, I1, r, q⟩ => ⟨I1.kIn, ?_⟩) he hs
  have hq := q (s1.heap.objs.size + 1) s1.heap.objs.size (I1.hok.fresh (Nat.le_succ _)) (I1.hok.fresh (Nat.le_refl _)) (Nat.ne_of_lt (Nat.lt_succ_self _))
  have I2 := Inv.made (C := K0) I1
  have r2 : Vals (V.ref (s1.heap.objs.size + 1) :: vs) (Value.ref (s1.heap.objs.size + 1) :: us) := .cons rfl r
  have len : (Value.ref (s1.heap.objs.size + 1) :: us).length = ps.length := by
    have z := r2.length
    rw [F.len _ _ _ _ hq] at z
    exact z.symm
  have bind := hb _ (Value.ref (s1.heap.objs.size + 1) :: us) I2.kIn (by rw [List.append_nil]; exact len)
  rw [List.append_nil] at bind
  refine wpAny_call (make_map (f := f) I1.kIn mk.makes mk.init (beq_iff_eq.mp mk.fn) (codeAny_mono (F.run _ X.stack _ _ _ _ _ _ (E σ) (hr.make K0 us []) (I2.env0.make K0 us []) bind r2 hq) fun z s2 hz => ?_))
  cases z with
  | error u => exact hx σ pins _ _ u s2 I2 hz
  | ok fl =>
    cases fl with
    | next => exact hz.elim
    | brk => exact hz.elim
    | cont => exact hz.elim
    | ret u =>
      obtain ⟨v, H2, I3, rv, rfl, q3⟩ := I2.after hz
      exact ⟨rv, .ref (s1.heap.objs.size + 1), H2, I3, rfl, q3⟩
end
def mkM (c : Str) (F : List Sl → Res D) (m : M (List D)) : M D := bnd m fun ds => fun ρ => match F (.mi c [] :: ds.map .im) with
  | .ok .none (.mi c' fs :: _) => if c' = c then .ok (.dict ((.str c, .none) :: fs)) ρ else .no
  | .ex e _ => .ex e ρ
  | _ => .no
@[simp ↓] theorem mkM_eq (c : Str) (F : List Sl → Res D) (m : M (List D)) (ρ : Rho) : mkM c F m ρ = (bnd m fun ds => fun ρ => match F (.mi c [] :: ds.map .im) with
  | .ok .none (.mi c' fs :: _) => if c' = c then .ok (.dict ((.str c, .none) :: fs)) ρ else .no
  | .ex e _ => .ex e ρ
  | _ => .no) ρ := id rfl
theorem avs_im {T : Wd} {Hf : Hp} {σ : St} : ∀ {ds : List D} {vs : List V}, RpA T Hf ds vs → avsOk T Hf σ vs (ds.map .im)
  | [], vs, h => by rw [RpA.unnil h]; rfl
  | d :: ds, vs, h => by
    obtain ⟨v, r, e, a, b⟩ := RpA.uncons h
    subst e
    exact ⟨_, _, rfl, a, avs_im b⟩
theorem res_map {ρ : Rho} : ∀ ds : List D, resolve ρ (ds.map .im) = some (ds.map .im)
  | [] => rfl
  | d :: ds => by rw [List.map_cons, resolve, res_map ds]; rfl
theorem slots_map : ∀ ds : List D, slots (ds.map .im) = []
  | [] => rfl
  | d :: ds => by rw [List.map_cons, slots, slots_map ds]
section
variable {C : DC} {n : Nm} {pos : Pos}
theorem de_make {x : Str} {p : Pos} {e : Expr} {es : List Expr} {k : Nat} {F : List Sl → Res D} {m : M (List D)} (S : Sc C n) (j : Nat) (hj : n.gs[j]? = some x) (h : HasI C.T x k F) (hk : k + 1 ≤ n.lv) (ha : DA C (e :: es) m) (oe : okE e = true) (oes : es.all okE = true) :
    DE C (.Call (.Name x p) (e :: es) [] pos) (mkM x F m) := by
  obtain ⟨K0, f, fd, ps, hm, mk, hf, hb⟩ := h.ex
  refine ⟨PE.imp (pe_makeE mk hf (S.room.mono hk) (S.gl hj).1 hm hb (fun σ => passAt S.tk σ) ha.pa (plB_d (S.gl hj).2).1 (star_ok oe _ _) (all_star oes)) fun σ H Q ⟨Hf, G, ρ, rr, h⟩ => ?_, rfl⟩
  refine post_bind rr h fun vs ds H1 Hf1 ρ1 s1 r1 ra p1 => ?_
  intro y dx hy hdx hne
  have hfy := r1.fz.free hy
  have grow : Same H1 (upd (upd H1 dx (.own y)) y (.ins K0 dx [])) := fun b u eb => by
    rw [upd_ne (ne_of_none eb hy), upd_ne (ne_of_none eb hdx)]
    exact eb
  have hav : avsOk C.T Hf1 σ vs (ds.map .im) := avs_im ra
  have hres : resolve ρ1 (ds.map .im) = some (ds.map .im) := res_map ds
  have hnd : nodupB (slots (ds.map .im)) = true := by rw [slots_map]; rfl
  have hps : ∀ b, ¬ passed σ (ds.map .im) b := fun b ⟨j, hj, _⟩ => by rw [slots_map] at hj; cases hj
  refine ⟨Hf1, gc Hf1 H1 (passedT C.tb σ (ds.map .im)), .mi x [] :: ds.map .im, r1.fz.trans grow, fun b u eb => grow _ _ (gc_out eb).2.2, fun b u eb => (gc_out eb).1, (r1.tb.gc σ (ds.map .im)).grow grow, by simp [RpA.length ra], ?_, ?_, ?_⟩
  · intro i v z hv hz
    cases i with
    | zero =>
      simp at hv hz
      subst hv hz
      refine ⟨⟨y, K0, dx, [], rfl, hfy, ?_, upd_same, hm, RpF.nil⟩, fun z => by cases z⟩
      cases eg : gc Hf1 H1 (passedT C.tb σ (ds.map .im)) y with
      | none => rfl
      | some u => rw [(gc_out eg).2.2] at hy; cases hy
    | succ i =>
      simp only [List.getElem?_cons_succ] at hv hz
      rw [List.getElem?_map] at hz
      obtain ⟨d, hd, rfl⟩ := Option.map_eq_some_iff.mp hz
      obtain ⟨w, hw, rw'⟩ := RpA.get ra hd
      rw [hv] at hw
      cases hw
      exact ⟨⟨v, rfl, rw'⟩, fun z => by cases z⟩
  · intro i i' q z z' hii hz hz' oz oz' _ _
    have only0 : ∀ {i : Nat} {z : Sl}, (Sl.mi x [] :: ds.map Sl.im)[i]? = some z → owns z = true → i = 0 := fun {i z} hz oz => by
      cases i with
      | zero => rfl
      | succ i =>
        simp only [List.getElem?_cons_succ, List.getElem?_map] at hz
        obtain ⟨d, _, rfl⟩ := Option.map_eq_some_iff.mp hz
        cases oz
    exact hii ((only0 hz oz).trans (only0 hz' oz').symm)
  · cases eF : F (.mi x [] :: ds.map .im) with
    | no => rw [eF] at p1; exact p1.elim
    | ex z r =>
      rw [eF] at p1
      dsimp only at p1 ⊢
      intro cls dd H2 Hf2 sm fz fg dj tf xr
      refine p1 cls dd H2 Hf2 sm ?_ xr
      have := call_post (args' := ds.map .im) r1 hav hres hnd rfl sm fz fg dj tf (fun i q z z' hz oz => by
        rw [List.getElem?_map] at hz
        obtain ⟨d, _, rfl⟩ := Option.map_eq_some_iff.mp hz
        cases oz)
      rwa [back_nil (slots_map ds)] at this
    | ok d r =>
      rw [eF] at p1
      cases d with
      | bool b => exact p1.elim
      | int b => exact p1.elim
      | str b => exact p1.elim
      | list b => exact p1.elim
      | tuple b => exact p1.elim
      | dict b => exact p1.elim
      | none =>
        cases r with
        | nil => exact p1.elim
        | cons z r =>
          cases z with
          | un => exact p1.elim
          | im b => exact p1.elim
          | ml b => exact p1.elim
          | md b => exact p1.elim
          | mi c' fs =>
            dsimp only at p1 ⊢
            split at p1
            case isFalse => exact p1.elim
            rename_i hc
            subst hc
            intro v H2 Hf2 sm fz fg dj tf rv own
            have ev : v = .non := by unfold Rp at rv; exact rv
            refine ⟨ev, ?_⟩
            have R2 : RR C.F Hf2 G σ H2 ρ1 := by
              have := call_post (args' := ds.map .im) r1 hav hres hnd rfl sm fz fg dj tf (fun i q z z' hz oz => by
                rw [List.getElem?_map] at hz
                obtain ⟨d, _, rfl⟩ := Option.map_eq_some_iff.mp hz
                cases oz)
              rwa [back_nil (slots_map ds)] at this
            obtain ⟨q, K1, dx1, us, e1, h1, h2, h3, h4, h5⟩ := own 0 y _ _ rfl rfl rfl rfl
            cases e1
            have hGy : G y = none := r1.fg.free hy
            have R3 := R2.freeze (nt := R2.tb.ne h3 fun ps z => by cases z) (p := y) (o := .ins K1 dx1 us) h3 h1 hGy fun i z ez oz hz => by
              obtain ⟨_, _, u, hu⟩ := r1.own ez oz hz
              rw [hy] at hu
              cases hu
            have sm3 : Same Hf2 (upd Hf2 y (.ins K1 dx1 us)) := Same.updN h1
            refine p1 (.ref y) H2 _ (sm.trans sm3) R3 ?_
            unfold Rp
            exact ⟨y, rfl, .inl ⟨K1, dx1, us, c', fs, rfl, upd_same, h4, RpF.cons (by simp only [Rp]) (RpF.mono sm3 _ _ h5)⟩⟩
end
end DS
/-! Methods of instances; len of an instance; join. -/
namespace DS
open PySem L2
section
variable {X : Cx} {k : Nat} {f K0 : Addr} {fd : FuncData} {ps : List Str} {sp : Sp} {E : St → XK} {m : Str} {apos pos : Pos} {o e : Expr} {es : List Expr} {ta : TE} {t : TA}
def tMethE (K0 : Addr) (m : Str) (sp : Sp) (E : St → XK) (ta : TE) (t : TA) : TE := fun σ H Q => ta σ H fun x H1 => ∃ a dx fs, x = .ref a ∧ H1 a = some (.ins K0 dx fs) ∧ fs.lookup m = none ∧ t σ H1 fun vs H2 => sp (x :: vs) H2 Q (E σ)
theorem pe_methE {pl : Sem Bool} (he : PE X o ta) (c : Cls X.K K0) (hm : Meth X.K K0 m f) (F : FnOk X.prog X.w X.K X.mg X.base (L2.CX X.prog X.w) k f fd ps sp) (hr : Room k X.A) (hb : Binds X.K fd ps []) (hx : ∀ σ, PassesAt (L2.CX X.prog X.w) X σ (E σ)) (ha : PA X (e :: es) t)
    (st : starEach (e :: es) X.env = (false, eval e X.env) :: starEach es X.env) (hs : (backTo pos (starEach es X.env)).any (·.1) = false)
    (ht : eval (.Call (.Attribute o m apos) (e :: es) [] pos) X.env = (do
      let ov ← eval o X.env
      standAt apos.atName
      let (f, first) ← holding [ov] (getMethod ov m pl)
      callWith pos f first (backTo pos (starEach (e :: es) X.env)) (backToKw pos (keywordEach [] X.env)))) :
    PE X (.Call (.Attribute o m apos) (e :: es) [] pos) (tMethE K0 m sp E ta t) := by
  refine ⟨fun pins s σ H Q I h => PySem.W.methodCall_KW (pl := pl) (thn (he.run pins s σ H _ I h) fun u s1 hu => ?_) ht⟩
  obtain ⟨x, H1, I1, rx, a, dx, fs, rfl, ea, hl, q⟩ := hu
  cases rx
  refine getmeth_ok I1 ea c hm hl (PySem.W.callWith_K (first := [.ref a]) (h₀ := X.base) I.ok.mod.kin hm.kp (thn (ha.run pos pins s1 σ H1 _ I1 q) fun us s2 hv => ?_) st hs)
  obtain ⟨vs, H2, I2, r, q2⟩ := hv
  exact ⟨I2.kIn, run_fnS (us := .ref a :: us) (vs := .ref a :: vs) F hr hb (hx σ) I2 (.cons rfl r) q2⟩
theorem pe_methE0 {pl : Sem Bool} (he : PE X o ta) (c : Cls X.K K0) (hm : Meth X.K K0 m f) (F : FnOk X.prog X.w X.K X.mg X.base (L2.CX X.prog X.w) k f fd ps sp) (hr : Room k X.A) (hb : Binds X.K fd ps []) (hx : ∀ σ, PassesAt (L2.CX X.prog X.w) X σ (E σ))
    (ht : eval (.Call (.Attribute o m apos) [] [] pos) X.env = (do
      let ov ← eval o X.env
      standAt apos.atName
      let (f, first) ← holding [ov] (getMethod ov m pl)
      callWith pos f first (backTo pos (starEach [] X.env)) (backToKw pos (keywordEach [] X.env)))) :
    PE X (.Call (.Attribute o m apos) [] [] pos) (tMethE K0 m sp E ta tNil) := by
  refine ⟨fun pins s σ H Q I h => PySem.W.methodCall_KW (pl := pl) (thn (he.run pins s σ H _ I h) fun u s1 hu => ?_) ht⟩
  obtain ⟨x, H1, I1, rx, a, dx, fs, rfl, ea, hl, q⟩ := hu
  cases rx
  exact getmeth_ok I1 ea c hm hl (PySem.W.callWith_K0 (first := [.ref a]) I1.kIn hm.kp (run_fnS (us := [.ref a]) (vs := [.ref a]) F hr hb (hx σ) I1 (.cons rfl .nil) q))
end
/-- a method of the class c -/
structure HasM (T : Wd) (c m : Str) (k : Nat) (F : List Sl → Res D) : Prop where
  ex : ∃ K0 f fd ps, T.mg c = some (.ref K0) ∧ Cls T.K K0 ∧ Meth T.K K0 m f ∧ FnOk T.P T.w T.K T.mg T.base (L2.CX T.P T.w) k f fd ps (fsp T F) ∧ Binds T.K fd ps []
/-- o is an instance of c without a field m -/
def insM (c m : Str) (d : D) : Bool := match insOf c d with
  | some r => (lkF m r).isNone
  | none => false
def meM (c m : Str) (F : List Sl → Res D) (mo : M D) (ma : M (List AV)) : M D := bnd mo fun x => if insM c m x = true then bnd ma fun as => callM F (.im x :: as) else stop
@[simp ↓] theorem meM_eq (c m : Str) (F : List Sl → Res D) (mo : M D) (ma : M (List AV)) (ρ : Rho) : meM c m F mo ma ρ = (bnd mo fun x => if insM c m x = true then bnd ma fun as => callM F (.im x :: as) else stop) ρ := id rfl
@[simp ↓] theorem insM_eq (c m c' : Str) (r : List (D × D)) : insM c m (.dict ((.str c', .none) :: r)) = if c' = c then (lkF m r).isNone else false := by
  unfold insM
  rw [insOf_eq]
  split
  · rename_i h; split at h <;> cases h; rw [if_pos (by assumption)]
  · rename_i h; split at h <;> cases h; rw [if_neg (by assumption)]
section
variable {C : DC} {n : Nm} {pos : Pos} {o : Expr} {mo : M D}
theorem lft_meth {c m : Str} {K0 : Addr} {F : List Sl → Res D} {ma : M (List AV)} (hm : C.T.mg c = some (.ref K0)) : ∀ σ H Q, Lft C (relE C.T) (meM c m F mo ma) σ H Q → tMethE K0 m (fsp C.T F) (fun σ cls d H => C.W cls d σ H) (Lft C (relE C.T) mo) (Lft C (relV C.T) ma) σ H Q := fun σ H Q ⟨Hf, G, ρ, rr, h⟩ => post_bind rr h fun x d H1 Hf1 ρ1 s1 r1 rx p1 => by
  by_cases hi : insM c m d = true
  case neg => rw [if_neg hi] at p1; exact p1.elim
  rw [if_pos hi] at p1
  unfold insM at hi
  split at hi
  · rename_i r er
    obtain ⟨a, K1, dx, fs, rfl, h1, h2, h3, _⟩ := rp_ins rx er
    rw [hm] at h2
    cases h2
    refine ⟨a, dx, fs, rfl, r1.fz _ _ h1, h3.look.2 (Option.isNone_iff_eq_none.mp hi), ?_⟩
    exact post_bind r1 p1 fun vs as H2 Hf2 ρ2 s2 r2 ra p2 => call_core (as := .im d :: as) r2 ⟨.im d, as, rfl, Rp.mono s2 _ _ rx, ra⟩ p2
  · cases hi
theorem de_meth {c m : Str} {ap : Pos} {e : Expr} {es : List Expr} {k : Nat} {F : List Sl → Res D} {ma : M (List AV)} {pl : Sem Bool} (S : Sc C n) (h : HasM C.T c m k F) (hk : k ≤ n.lv) (ho : DE C o mo) (ha : DV C (e :: es) ma)
    (ht : eval (.Call (.Attribute o m ap) (e :: es) [] pos) C.X.env = (do
      let ov ← eval o C.X.env
      standAt ap.atName
      let (f, first) ← holding [ov] (getMethod ov m pl)
      callWith pos f first (backTo pos (starEach (e :: es) C.X.env)) (backToKw pos (keywordEach [] C.X.env)))) : DE C (.Call (.Attribute o m ap) (e :: es) [] pos) (meM c m F mo ma) := by
  obtain ⟨K0, f, fd, ps, hm, hc, hme, hf, hb⟩ := h.ex
  have hok := ha.ok
  rw [List.all_cons, Bool.and_eq_true] at hok
  exact ⟨PE.imp (pe_methE ho.pe hc hme hf (S.room.mono hk) hb (fun σ => passAt S.tk σ) ha.pa (star_ok hok.1 _ _) (all_star hok.2) ht) (lft_meth hm), rfl⟩
theorem de_meth0 {c m : Str} {ap : Pos} {k : Nat} {F : List Sl → Res D} {pl : Sem Bool} (S : Sc C n) (h : HasM C.T c m k F) (hk : k ≤ n.lv) (ho : DE C o mo)
    (ht : eval (.Call (.Attribute o m ap) [] [] pos) C.X.env = (do
      let ov ← eval o C.X.env
      standAt ap.atName
      let (f, first) ← holding [ov] (getMethod ov m pl)
      callWith pos f first (backTo pos (starEach [] C.X.env)) (backToKw pos (keywordEach [] C.X.env)))) : DE C (.Call (.Attribute o m ap) [] [] pos) (meM c m F mo (ret [])) := by
  obtain ⟨K0, f, fd, ps, hm, hc, hme, hf, hb⟩ := h.ex
  refine ⟨PE.imp (pe_methE0 ho.pe hc hme hf (S.room.mono hk) hb (fun σ => passAt S.tk σ) ht) fun σ H Q hh => ?_, rfl⟩
  obtain ⟨Hf, G, ρ, rr, h⟩ := lft_meth hm σ H Q hh
  refine ⟨Hf, G, ρ, rr, ?_⟩
  cases e : mo ρ with
  | no => rw [e] at h; exact h
  | ex z r => rw [e] at h; exact h
  | ok d r =>
    rw [e] at h
    intro v H1 Hf1 s1 r1 rv
    obtain ⟨a, dx, fs, ev, h1, h2, h3⟩ := h v H1 Hf1 s1 r1 rv
    obtain ⟨Hf2, G2, ρ2, r2, h4⟩ := h3
    exact ⟨a, dx, fs, ev, h1, h2, h4 [] H1 Hf2 (Same.refl _) r2 rfl⟩
end
/-! ### len(o) -/
section
variable {X : Cx} {k : Nat} {f K0 : Addr} {fd : FuncData} {ps : List Str} {sp : Sp}
/-- a special method of an own class, called -/
theorem special_own {pins : List (Addr × Obj)} {σ : St} {H : Hp} {s : Shared} {a dx : Addr} {fs : List (Str × V)} {m : Str} {args : List Value} {A : Around} {Q : Option Value → Shared → Prop} {E : Value → Shared → Prop} (I : Inv X pins σ H s) (ea : H a = some (.ins K0 dx fs)) (hm : Meth X.K K0 m f)
    (hcall : wpAny (model X.prog X.w) A (call (.ref f) (.ref a :: args)) (fun v => Q (some v)) E s) : wpAny (model X.prog X.w) A (callSpecial? (.ref a) m args) Q E s := by
  obtain ⟨_, _, _, hget, _⟩ := I.hok a _ ea
  unfold callSpecial?
  refine wpAny_bind ?_
  unfold specialOf
  have ty : PySem.W.Looks (model X.prog X.w) s.heap (typeOf (.ref a)) (.ref K0) := fun A Q E s' k q => wpAny_typeOf_ref (k _ _ hget) q
  refine wpAny_bind (ty.here ?_)
  refine (PySem.W.looks_findIn I.kIn hm.at_).here ?_
  refine wpAny_holding (wpAny_bind ((PySem.W.bind_fn I.kIn (.ref a) (beq_iff_eq.mp hm.fn)).here ?_))
  exact wpAny_bind (wpAny_mono hcall (fun v s' h => wpAny_pure h) fun _ _ h => h)
/-- a def of the text called one level deeper; it raises nothing -/
theorem run_in1 {pins : List (Addr × Obj)} {σ : St} {H : Hp} {s : Shared} {Q : VK} {us : List Value} {vs : List V} (F : FnOk X.prog X.w X.K X.mg X.base (L2.CX X.prog X.w) k f fd ps sp) (hr : Room (k + 1) X.A) (hb : Binds X.K fd ps []) (I : Inv X pins σ H s) (r : Vals vs us) (h : sp vs H Q E0) :
    wpAny (model X.prog X.w) X.A.in1 (call (.ref f) us) (EP X pins σ Q) X.xe s := by
  have hl : us.length = ps.length := by rw [← r.length]; exact F.len _ _ _ _ h
  have b := hb s us I.kIn (by rw [List.append_nil]; exact hl)
  rw [List.append_nil] at b
  refine wpAny_call (codeAny_mono (F.run X.A.in1 X.stack s H ⟨us, []⟩ us vs Q E0 hr.in1 I.env0.in1 b r h) fun z s' hz => ?_)
  cases z with
  | error e => exact passL pins σ H s e s' I hz
  | ok fl =>
    cases fl with
    | ret u => exact I.after hz
    | next => exact hz.elim
    | brk => exact hz.elim
    | cont => exact hz.elim
def rLenO (K0 : Addr) (sp : Sp) : List V → Hp → VK → Prop := fun xs H Q => ∃ a dx fs, xs = [.ref a] ∧ H a = some (.ins K0 dx fs) ∧ sp [.ref a] H (fun v H' => ∃ n : Nat, v = .int n ∧ n ≤ 1000000 ∧ Q (.int n) H') E0
theorem call_lenO (hm : Meth X.K K0 "__len__" f) (F : FnOk X.prog X.w X.K X.mg X.base (L2.CX X.prog X.w) k f fd ps sp) (hr : Room (k + 1) X.A) (hb : Binds X.K fd ps []) : CallR X (.builtin "len") (rLenO K0 sp) := by
  rintro pins s σ H xs us Q I r ⟨a, dx, fs, rfl, ea, h⟩
  rw [Vals.ref1 r]
  refine Calls.call_function_entry kind_len plain_len entry_len (args_len1 _) ?_
  unfold Builtin.«len»
  refine wpAny_bind (m := oneArg "len" _) (wpAny_pure (wpAny_bind (m := callSpecial? (.ref a) (Str.ofString "__len__")) (special_own I ea hm ?_)))
  refine wpAny_mono (run_in1 (us := [.ref a]) (vs := [.ref a]) F hr hb I (.cons rfl .nil) h) (fun u s1 hu => ?_) fun _ _ z => z
  obtain ⟨v, H1, I1, rv, n, rfl, hn, q⟩ := hu
  obtain ⟨t, rfl⟩ := rv
  refine wpAny_bind (wpAny_holding (wpAny_pure (wpAny_bind (wpAny_letGo ?_))))
  show wpAny _ _ (if (n : Int) < 0 then _ else _) _ _ _
  rw [if_neg (by omega)]
  show wpAny _ _ (if (n : Int) ≥ 2 ^ 63 then _ else _) _ _ _
  rw [if_neg (by omega)]
  exact wpAny_bind (wpAny_mkInt (wpAny_pure ⟨_, rfl, .int n, H1, I1.tok _, ⟨_, rfl⟩, q⟩))
end
def lenO (c : Str) (F : List Sl → Res D) (ma : M D) : M D := bnd ma fun x => match insOf c x with
  | some _ => bnd (callM F [.im x]) fun y => match y with
    | .int i => if 0 ≤ i ∧ i ≤ 1000000 then ret (.int i) else stop
    | _ => stop
  | none => stop
@[simp ↓] theorem lenO_eq (c : Str) (F : List Sl → Res D) (ma : M D) (ρ : Rho) : lenO c F ma ρ = (bnd ma fun x => match insOf c x with
  | some _ => bnd (callM F [.im x]) fun y => match y with
    | .int i => if 0 ≤ i ∧ i ≤ 1000000 then ret (.int i) else stop
    | _ => stop
  | none => stop) ρ := id rfl
section
variable {C : DC} {n : Nm} {pos : Pos} {a : Expr} {ma : M D}
theorem de_lenO {c : Str} {p : Pos} {k : Nat} {F : List Sl → Res D} (S : Sc C n) (j : Nat) (hj : n.bs[j]? = some ("len" : Str)) (h : HasM C.T c "__len__" k F) (hk : k + 1 ≤ n.lv) (hne : ∀ args e r, F args ≠ .ex e r) (ha : DE C a ma) : DE C (.Call (.Name "len" p) [a] [] pos) (lenO c F ma) := by
  obtain ⟨K0, f, fd, ps, hm, hc, hme, hf, hb⟩ := h.ex
  refine ⟨PE.imp (pe_callB (call_lenO hme hf (S.room.mono hk) hb) (S.bl hj).1 (S.bl hj).2 PySem.boot_len (pa_cons ha.pe pa_nil (star_ok ha.ok _ _)) (by decide) (by decide) (star_ok ha.ok _ _) rfl) fun σ H Q ⟨Hf, G, ρ, rr, h⟩ => post_bind rr h fun x d H1 Hf1 ρ1 s1 r1 rx p1 => ?_, rfl⟩
  cases ei : insOf c d with
  | none => rw [ei] at p1; exact p1.elim
  | some r =>
    rw [ei] at p1
    obtain ⟨q, K1, dx, fs, rfl, h1, h2, h3, _⟩ := rp_ins rx ei
    rw [show C.T.mg c = some (.ref K0) from hm] at h2
    cases h2
    refine ⟨q, dx, fs, rfl, r1.fz _ _ h1, ?_⟩
    have p2 : Post C (relE C.T) Hf1 G σ (fun v H' => ∃ n : Nat, v = .int n ∧ n ≤ 1000000 ∧ Q (.int n) H') (callM F [.im d] ρ1) := by
      have p1 : Post C (relE C.T) Hf1 G σ Q ((bnd (callM F [.im d]) fun y => match y with | .int i => if 0 ≤ i ∧ i ≤ 1000000 then ret (.int i) else stop | _ => stop) ρ1) := p1
      unfold bnd at p1
      cases e : callM F [.im d] ρ1 with
      | no => rw [e] at p1; exact p1
      | ex z r => rw [e] at p1; exact p1
      | ok y r =>
        rw [e] at p1
        intro v H2 Hf2 s2 r2 rv
        cases y with
        | int i =>
          dsimp only at p1
          split at p1
          · rename_i hi
            unfold Rp at rv
            subst rv
            refine ⟨i.toNat, by rw [Int.toNat_of_nonneg hi.1], by omega, ?_⟩
            rw [Int.toNat_of_nonneg hi.1]
            exact p1 _ H2 Hf2 s2 r2 (rp_int i)
          · exact p1.elim
        | none => exact p1.elim
        | bool b => exact p1.elim
        | str b => exact p1.elim
        | list b => exact p1.elim
        | tuple b => exact p1.elim
        | dict b => exact p1.elim
    exact fsp_noE hne (call_core (as := [.im d]) r1 ⟨.im d, [], rfl, rx, rfl⟩ p2)
end
end DS
set_option maxHeartbeats 4000000
/-! Own exceptions below ArithmeticError whose __init__ stores one field. -/
namespace DS
open PySem L2
open PySem.W (Looks)
abbrev aeT : List Value := [.type "ArithmeticError", .type "Exception", .type "BaseException", .type "object"]
/-- own classes, then ArithmeticError's -/
def OwnAE (l : List Value) : Prop := ∃ cs : List Addr, l = cs.map .ref ++ aeT
theorem ae_pass (self : Value) : ∀ cs : List Addr, refuseLoop self "__setattr__" (cs.map .ref ++ aeT) = pure ()
  | [] => F.store_ArithmeticError.passes self
  | c :: cs => by
    rw [List.map_cons, List.cons_append, refuseLoop_ref]
    exact ae_pass self cs
theorem ae_has (T : String) : ∀ cs : List Addr, (cs.map Value.ref ++ aeT).contains (.type T) = aeT.contains (.type T)
  | [] => rfl
  | c :: cs => by
    rw [List.map_cons, List.cons_append, List.contains_cons, ae_has T cs]
    rfl
section
open PySem.HandSPX
variable {prog : Program} {w : World} {A : Around} {R : Result → Shared → Prop} {hp : Heap} {g : Array GenState} {dr : Drawn} {t : Nat} {os : OsState}
/-- self.name = v, the exception's first field -/
theorem osaA {K : PySem.W.Frag} {name : Str} {tk : Tok} {v : Value} {x C : Addr} {fv : Array Value} {cd : ClassData} (hK : K.In hp) (hx : hp.get? x = some { cls := .ref C, data := .fields fv })
    (hcd : PySem.W.clsIn K C = some cd) (hm : OwnAE cd.mro) (hh : cd.hasDict = true) (ha : PySem.W.findIn K (.ref C) name = some none)
    (hq : ∀ h2 tk2 dx, (∀ b o, b ≠ x → hp.get? b = some o → h2.get? b = some o) → hp.objs.size ≤ dx → dx ≠ x → h2.get? x = some { cls := .ref C, dict := some dx, data := .fields fv } → h2.Ns1 dx (fun y => if y = name then some v else none) →
      R (.ok (.ret .none)) ⟨h2, g, dr, tk2, os⟩) : codeAny (model prog w) A (.call (.builtin "object.__setattr__") ⟨[.ref x, .str name tk, v], []⟩) R ⟨hp, g, dr, t, os⟩ := by
  obtain ⟨cs, em⟩ := hm
  have inst : PySem.W.InstAt hp x { cls := .ref C, data := .fields fv } C none := ⟨hx, rfl, rfl, trivial⟩
  have few : cd.mro.isEmpty = false := by rw [em]; cases cs <;> rfl
  have obj : cd.mro.contains (.type "object") = true := by rw [em, ae_has]; decide +kernel
  have fresh : x ≠ hp.objs.size := Nat.ne_of_lt (Heap.lt_size hx)
  have below : Looks (model prog w) hp (isInstance (.ref x) (.type "object")) true :=
    inst.type.andThen (PySem.W.looks_mroIn hK (by unfold PySem.W.mroIn; rw [hcd, Option.bind_some, if_neg (by rw [few]; decide), obj]))
  have SO := F.store_object
  refine codeAny_call_builtin SO.slot.plain SO.entry ?_
  refine @PySem.W.check_slot (model prog w) _ _ ⟨hp, g, dr, t, os⟩ "object.__setattr__" "object" "__setattr__" (.ref x) [.str name tk, v] [] _ SO.kind SO.split below (SO.args (.ref x) (.str name tk) v) ?_
  have lookM : Looks (model prog w) hp (mroOf (.ref C)) cd.mro := (PySem.W.looks_clsIn hK hcd).andThen .now
  have lookT : Looks (model prog w) hp (Builtin.ObjectAttr.storeTaker? none) none := .now
  have lookC : Looks (model prog w) hp (classData C) cd := PySem.W.looks_clsIn hK hcd
  rw [PySem.W.osa_eq, refuse_eq]
  refine wpAny_bind (wpAny_bind (inst.type.at (wpAny_bind (lookM.at ?_))))
  rw [em, ae_pass]
  refine wpAny_pure (wpAny_bind (inst.type.at (wpAny_bind ((PySem.W.looks_findIn hK ha).at (wpAny_bind (lookT.at ?_))))))
  show wpAny _ _ (Builtin.ObjectAttr.storeInOwnDict (.ref x) (.ref C) (.str name tk) name v false) _ _ _
  cases cd with
  | mk nm bs mro ns qn hd sn sb ab col del =>
    have hh : hd = true := hh
    subst hh
    unfold Builtin.ObjectAttr.storeInOwnDict Builtin.ObjectAttr.ownDictForStores
    repeat (first | with_reducible refine lookC.at ?_ | with_reducible refine wpAny_loadPart_at hx ?_ | with_reducible refine store_in_new ?_ ?_ | wp_step)
    · exact ⟨_, #[], _, (Heap.get?_update_ne _ _ _ _ fresh.symm).trans (Heap.get?_push_at rfl rfl), rfl, fun e he => absurd he (by simp), fun _ => rfl⟩
    · intro h2 tk2 ns2 same2
      have there : (hp.push { cls := .type "dict", data := .dict #[] }).get? x = some { cls := .ref C, data := .fields fv } := Heap.get?_push_of_some _ hx
      refine hq h2 tk2 hp.objs.size (fun b o hb ho => ?_) (Nat.le_refl _) fresh.symm ((same2.2 x fresh).trans (Heap.get?_update_self _ there rfl)) ns2
      rw [same2.2 b (Nat.ne_of_lt (Heap.lt_size ho)), Heap.get?_update_ne _ _ _ _ hb]
      exact Heap.get?_push_of_some _ ho
end
/-- what the written part says of such a class -/
structure OexA (K : PySem.W.Frag) (C : Addr) : Prop where
  cls : ∃ nm q N bs bm sn sub ab col dd k0 k1 k2 k3 k5, K.lookup C = some (excClassObj nm q C N bs bm true sn sub ab col dd k0 k1 k2 k3 k5 "ArithmeticError.__new__") ∧ OwnAE bm
  sa : PySem.W.findIn K (.ref C) "__setattr__" = some (some (.builtin "object.__setattr__"))
  be : PySem.W.subIn K (.ref C) (.type "BaseException") = some true
  ty : PySem.W.typeIn K (.ref C) = some (.type "type")
  kp : PySem.W.keepIn K (.ref C) = true
section
variable {X : Cx} {pins : List (Addr × Obj)} {σ : St} {H : Hp} {s : Shared} {a C : Addr} {f : Str} {y : V} {u : Value}
theorem setA {Q : Unit → Shared → Prop} {E : Value → Shared → Prop} {A : Around} (T : OexA X.K C) (I : Inv X pins σ H s) (ea : H a = some (exo a C none)) (hno : PySem.W.findIn X.K (.ref C) f = some none) (ry : RelV y u)
    (h : ∀ dx s2, H dx = none → dx ≠ a → Inv X pins σ (upd (upd H dx (exd dx [(f, y)])) a (exo a C (some dx))) s2 → Q () s2) : wpAny (model X.prog X.w) A (setAttr (.ref a) f u) Q E s := by
  obtain ⟨nm, q, N, bs, bm, sn, sub, ab, col, dd, k0, k1, k2, k3, k5, hC, cs, hbm⟩ := T.cls
  have hcl : PySem.W.clsIn X.K C = some { name := nm, bases := bs, mro := .ref C :: bm, ns := N, qualname := q, hasDict := true, slotNames := sn, subclasses := sub, abstract := ab, collection := col, hasDel := false } := by
    unfold PySem.W.clsIn
    rw [hC] <;> rfl
  obtain ⟨t1, hget⟩ := exo_at I.hok ea
  obtain ⟨hp, g, d, t, os⟩ := s
  refine PySem.W.set_plain I.kIn (ox := { cls := .ref C, dict := none, data := .fields #[.ref t1, .none, .none, .none, .bool false, .none] }) (od := none) ⟨hget, rfl, rfl, trivial⟩ T.sa ?_
  refine osaA I.kIn hget hcl ⟨C :: cs, by rw [hbm]; rfl⟩ rfl hno fun h2 tk2 dx kp2 big ne2 get2 ns2 => ?_
  have free : H dx = none := I.hok.fresh big
  have old : ∀ {b : Addr} {o : Obj}, hp.get? b = some o → b ≠ dx := fun {b o} z => Nat.ne_of_lt (Nat.lt_of_lt_of_le (Heap.lt_size z) big)
  have other : ∀ {b : Addr}, H b = none → b ≠ a := fun {b} n z => by rw [z, ea] at n; cases n
  have stay : ∀ {b : Addr} {o : HO}, H b = some o → (∀ z, exo a C none ≠ z ∨ o ≠ z) → b ≠ a → upd (upd H dx (exd dx [(f, y)])) a (exo a C (some dx)) b = some o := fun {b o} z _ hb => by
    rw [upd_ne hb, upd_ne (ne_of_none z free)]
    exact z
  refine h dx _ free ne2 (I.un (t' := tk2) ⟨fun b o z n _ _ => kp2 b o (other n) z, fun b o z n _ _ => ⟨o.slots, kp2 b o (other n) z⟩, fun b o z n _ => ?_, fun b o z _ => ?_, fun b xs z => ?_, fun b o v z => ?_, fun b ps z => ⟨#[], ?_⟩⟩ fun b o z => ?_)
  · rw [upd_ne (other n), upd_ne (old z)]; exact n
  · by_cases hb : b = a
    · rw [hb]; exact ⟨_, get2⟩
    · exact ⟨o, kp2 b o hb z⟩
  · rw [upd_ne (at_ne ea z exo_tup), upd_ne (ne_of_none z free)]; exact z
  · rw [upd_ne (at_ne ea z exo_frz), upd_ne (ne_of_none z free)]; exact z
  · rw [upd_ne (at_ne ea z exo_tbl), upd_ne (ne_of_none z free), z]; simp
  · by_cases hb : b = a
    · subst hb
      rw [upd_same] at z
      cases z
      exact exo_ok get2
    · rw [upd_ne hb] at z
      by_cases hd : b = dx
      · subst hd
        rw [upd_same] at z
        cases z
        exact exd_ok ns2 (relO_put (fs := []) ry fun _ => True.intro)
      · rw [upd_ne hd] at z
        refine (I.hok b o z).stay (fun c v hc w => kp2 c v ?_ w) (fun c hc => ?_) fun c xs hc => ?_
        · rcases hc with rfl | hc
          · exact hb
          · exact at_ne ea hc exo_own
        · rw [upd_ne (at_ne ea hc exo_own), upd_ne (ne_of_none hc free)]; exact hc
        · rw [upd_ne (at_ne ea hc exo_tup), upd_ne (ne_of_none hc free)]; exact hc
end
/-- the promise of such an __init__ -/
def spXI (C : Addr) (f : Str) : Sp := fun vs H Q _ => ∃ (a : Addr) (v : V), vs = [.ref a, v] ∧ H a = some (exo a C none) ∧ ∀ dx, H dx = none → dx ≠ a → Q .non (upd (upd H dx (exd dx [(f, v)])) a (exo a C (some dx)))
theorem init_ok {P : Program} {w : World} {K : PySem.W.Frag} {mg : Str → Option Value} {base : Heap} {tb : List (Addr × Str)} {C fI : Addr} {fd : FuncData} {x qual f : Str} {sd : Stmt} {p1 p2 p3 p4 : Pos} (F : Fun K x qual sd fI fd) (S : FnScope ["self", f] ["self", f] (defScope sd))
    (hbody : defBody sd = [.Assign [.Attribute (.Name "self" p1) f p2] (.Name f p3) p4]) (vis : (defScope sd).names.lookup ("self" : Str) = some NameKind.local ∧ (defScope sd).names.lookup f = some NameKind.local) (hf : plB f = true) (T : OexA K C) (hno : PySem.W.findIn K (.ref C) f = some none) :
    FnOk P w K mg base CX0 1 fI fd ["self", f] (spXI C f) := by
  refine F.ok S (fun vs H Q E h => ?_) (fun cdv A outer s H vs Q E hr h => ?_)
  · obtain ⟨a, v, rfl, _⟩ := h; rfl
  · obtain ⟨a, v, rfl, ea, q⟩ := h
    rw [hbody]
    refine ⟨fun D σ H => ∃ a v, σ[0]? = some (some (.ref a)) ∧ σ[1]? = some (some v) ∧ H a = some (exo a C none) ∧ ∀ dx, H dx = none → dx ≠ a → D.nx σ (upd (upd H dx (exd dx [(f, v)])) a (exo a C (some dx))), pss_one ⟨fun pins s1 σ H1 D I h => ?_⟩, a, v, rfl, rfl, ea, fun dx n ne => q dx n ne⟩
    obtain ⟨a, v, e0, e1, ea, q⟩ := h
    refine plainObj_wpAny_Assign_Attribute ?_ rfl
    refine thn ((pe_var (i := 1) (pos := p3) rfl (.inl vis.2) (plB_d hf).1 (plB_d hf).2.1).run pins s1 σ H1 (fun y H2 => y = v ∧ H2 = H1) I ⟨v, e1, rfl, rfl⟩) fun u2 s2 hu2 => ?_
    obtain ⟨y, H2, I2, ry, rfl, rfl⟩ := hu2
    refine thn ((pe_var (i := 0) (x := "self") (pos := p1) rfl (.inl vis.1) (by decide) (by decide)).run pins s2 σ H2 (fun y H3 => y = .ref a ∧ H3 = H2) I2 ⟨.ref a, e0, rfl, rfl⟩) fun u3 s3 hu3 => ?_
    obtain ⟨z, H3, I3, rz, rfl, rfl⟩ := hu3
    cases rz
    exact setA T I3 ea hno ry fun dx s4 n ne J => ⟨σ, _, J, q dx n ne⟩
end DS
set_option maxHeartbeats 4000000
/-! raise X(e), except X as n: y = n.f, and join. -/
namespace DS
open PySem L2
/-- an own class of exceptions whose __init__ stores its argument under f -/
structure XIni (T : Wd) (x f : Str) : Prop where
  ex : ∃ C fI fd, T.mg x = some (.ref C) ∧ OexA T.K C ∧ PySem.W.findIn T.K (.ref C) "__init__" = some (some (.ref fI)) ∧ PySem.W.typeIn T.K (.ref fI) = some (.type "function") ∧
    FnOk T.P T.w T.K T.mg T.base CX0 1 fI fd ["self", f] (spXI C f) ∧ Binds T.K fd ["self", f] []
/-- X(e) -/
def tMkA (C : Addr) (f : Str) (ta : TA) : St → Hp → XK → Prop := fun σ H Q => ta σ H fun vs H1 => ∃ v, vs = [v] ∧ ∀ d, H1 d = none → Q (.ref C) (some d) (upd H1 d (.xd [(f, v)]))
section
variable {X : Cx} {e : Expr} {ta : TA} {p pos : Pos}
theorem pmkA {x f : Str} {C fI : Addr} {fd : FuncData} (T : OexA X.K C) (iC : PySem.W.findIn X.K (.ref C) "__init__" = some (some (.ref fI))) (tI : PySem.W.typeIn X.K (.ref fI) = some (.type "function"))
    (F1 : FnOk X.prog X.w X.K X.mg X.base CX0 1 fI fd ["self", f] (spXI C f)) (hr : Room 2 X.A) (hb : Binds X.K fd ["self", f] []) (hg : Gl X x) (hm : X.mg x = some (.ref C)) (ha : PA X [e] ta)
    (hd : (x == ("__debug__" : Str)) = false) (he : starEach [e] X.env = (false, eval e X.env) :: starEach [] X.env) : PMk X (.Call (.Name x p) [e] [] pos) (tMkA C f ta) := by
  intro pins s σ H Q I h
  obtain ⟨nm, q, N, bs, bm, sn, sub, ab, col, dd, k0, k1, k2, k3, k5, hC, cs, hbm⟩ := T.cls
  refine wpAny_Call_Name_kw (ld_glob I hg hm ?_ hd)
  refine PySem.W.callWith_K (h₀ := X.base) I.ok.mod.kin T.kp (thn (ha.run pos pins s σ H _ I h) fun us s1 hu => ?_) he rfl
  obtain ⟨vs, H1, I1, r1, v, rfl, q1⟩ := hu
  refine ⟨I1.kIn, ?_⟩
  show wpAny _ _ (call (.ref C) us) _ _ _
  obtain ⟨hp, g, dr, tk, os⟩ := s1
  generalize hxa : hp.objs.size + 1 = xa
  have big : hp.objs.size ≤ xa := by omega
  have hn : H1 xa = none := I1.hok.fresh big
  have kk : ∀ b o, hp.get? b = some o → ((hp.push (PySem.W.kdv_tup us)).push (PySem.HandSPX.excO C hp.objs.size)).get? b = some o := fun b o z => Heap.get?_push_of_some _ (Heap.get?_push_of_some _ z)
  have there : ((hp.push (PySem.W.kdv_tup us)).push (PySem.HandSPX.excO C hp.objs.size)).get? xa = some (PySem.HandSPX.excO C hp.objs.size) := by subst hxa; heap_get
  have I2 : Inv X pins σ (upd H1 xa (exo xa C none)) ⟨(hp.push (PySem.W.kdv_tup us)).push (PySem.HandSPX.excO C hp.objs.size), g, dr, tk, os⟩ := I1.laid (t' := tk) (a := xa) (o := exo xa C none) (h' := (hp.push (PySem.W.kdv_tup us)).push (PySem.HandSPX.excO C hp.objs.size)) kk big (exo_ok there)
  have r2 : Vals [V.ref xa, v] (Value.ref xa :: us) := .cons rfl r1
  have len : us.length = 1 := r1.length.symm
  have bind := hb _ (Value.ref xa :: us) I2.kIn (by simp [len])
  rw [List.append_nil] at bind
  have sp2 : spXI C f [V.ref xa, v] (upd H1 xa (exo xa C none)) (fun u H2 => u = .non ∧ ∃ d, H2 = upd (upd (upd H1 xa (exo xa C none)) d (exd d [(f, v)])) xa (exo xa C (some d)) ∧ H1 d = none ∧ d ≠ xa) (fun _ _ _ => False) :=
    ⟨xa, v, rfl, upd_same, fun d hdn hda => ⟨rfl, d, rfl, by rw [upd_ne hda] at hdn; exact hdn, hda⟩⟩
  have few : us.length ≤ sizeLine := by rw [len, sizeLine_eq]; omega
  refine wpAny_call (PySem.HandSPX.call_own F.excBase_ArithmeticError (fun Y => by rw [hbm]; exact ae_has Y cs) (I1.kIn _ _ hC) (PySem.W.looks_findIn I1.kIn iC) (fun self => PySem.W.bind_fn I1.kIn self tI) few ?_)
  rw [hxa]
  refine codeAny_mono (F1.run _ X.stack _ _ ⟨Value.ref xa :: us, []⟩ (Value.ref xa :: us) _ _ (fun _ _ _ => False) (hr.make C us []) (I2.env0.make C us []) bind r2 sp2) fun r s2 hz => ?_
  cases r with
  | error er => exact hz.elim
  | ok fl =>
    cases fl with
    | next => exact hz.elim
    | brk => exact hz.elim
    | cont => exact hz.elim
    | ret u =>
      obtain ⟨w, H2, os2, bare2, un2, hok2, rv, rfl, d, rfl, hd1, hda⟩ := hz
      obtain ⟨h2, g2, d2, t2, os3⟩ := s2
      have fin := q1 d hd1
      have same : upd (del (upd (upd (upd H1 xa (exo xa C none)) d (exd d [(f, v)])) xa (exo xa C (some d))) xa) d (.xd [(f, v)]) = upd H1 d (.xd [(f, v)]) := by
        funext b
        by_cases h1 : b = d
        · subst h1; rw [upd_same, upd_same]
        · rw [upd_ne h1, upd_ne h1]
          by_cases h2 : b = xa
          · subst h2; rw [del_same, hn]
          · rw [del_ne h2, upd_ne h2, upd_ne h1, upd_ne h2]
      exact ⟨rv, mk_end (fs := [(f, v)]) (raises_own T.be T.ty) I1 big kk un2 hok2 os2 bare2 upd_same (by rw [upd_ne hda, upd_same]) hd1 (by rw [same]; exact fin)⟩
end
def raI (x f : Str) (me : M D) : M Flow := bnd me fun d => fun ρ => .ex ⟨x, [(.str f, d)]⟩ ρ
@[simp ↓] theorem raI_eq (x f : Str) (me : M D) (ρ : Rho) : raI x f me ρ = (bnd me fun d => fun ρ => .ex ⟨x, [(.str f, d)]⟩ ρ) ρ := id rfl
section
variable {C : DC} {n : Nm} {pos : Pos} {a : Expr} {ma : M D}
theorem ds_raiseI {x f : Str} {p pos' : Pos} (S : Sc C n) (j : Nat) (hj : n.gs[j]? = some x) (h : XIni C.T x f) (hk : 2 ≤ n.lv) (ha : DE C a ma) : DS C (.Raise (some (.Call (.Name x p) [a] [] pos')) none pos) (raI x f ma) := by
  obtain ⟨K0, fI, fd, hm, hx, h1, h2, h3, h4⟩ := h.ex
  refine ⟨PS.imp (ps_raise S.calm S.tk (pmkA hx h1 h2 h3 (S.room.mono hk) h4 (S.gl hj).1 hm (pa_cons ha.pe pa_nil (star_ok ha.ok _ _)) (plB_d (S.gl hj).2).1 (star_ok ha.ok _ _))) fun E σ H ⟨Hf, G, ρ, rr, h⟩ => posts_bind rr h fun y d H1 Hf1 ρ1 s1 r1 ry p1 => ?_⟩
  refine ⟨y, rfl, fun b hb => ?_⟩
  have sm : Same Hf1 (upd Hf1 b (.xd [(f, y)])) := Same.updN (r1.fz.free hb)
  exact p1 (.ref K0) (some b) σ _ _ sm (RR.new r1 hb) ⟨hm, .inr ⟨by simp, b, _, rfl, upd_same, RpF.cons (Rp.mono sm _ _ ry) RpF.nil⟩⟩
/-! ### except X as n: y = n.f -/
/-- the class that the clause takes, with its field f; the classes that may come by -/
structure ExG (T : Wd) (x f : Str) (tab : List (Str × Bool)) : Prop where
  ex : ∃ c, T.mg x = some (.ref c) ∧ XfC T.K c ∧ PySem.W.findIn T.K (.ref c) f = some none ∧ ∀ y b, (y, b) ∈ tab → ∃ D, T.mg y = some (.ref D) ∧ PySem.W.exmOne T.K (.ref D) (.ref c) = some b ∧ (b = true → D = c)
def tryG (tab : List (Str × Bool)) (i j : Nat) (f : Str) (m : M Flow) : M Flow := fun ρ => match m ρ with
  | .ex e r => (match tab.lookup e.cls with
    | some true => (match lkF f e.fs with
      | some d => if i < r.length then .ok .nx ((r.set j (.im d)).set i .un) else .no
      | none => .no)
    | some false => .ex e r
    | none => .no)
  | r => r
@[simp ↓] theorem tryG_eq (tab : List (Str × Bool)) (i j : Nat) (f : Str) (m : M Flow) (ρ : Rho) : tryG tab i j f m ρ = match m ρ with
  | .ex e r => (match tab.lookup e.cls with
    | some true => (match lkF f e.fs with
      | some d => if i < r.length then .ok .nx ((r.set j (.im d)).set i .un) else .no
      | none => .no)
    | some false => .ex e r
    | none => .no)
  | r => r := id rfl
theorem ds_tryG {x nm y f : Str} {sc : Scope} {tab : List (Str × Bool)} {m : M Flow} {body : List Stmt} {np py pn pf pa pos' : Pos} (S : Sc C n) (L : LkSc C sc) (i j k : Nat) (ht : n.top = true) (hi : i ∈ n.ws) (li : i ∈ n.ls) (hx : n.N[i]? = some nm) (hj : j ∈ n.ws) (lj : j ∈ n.ls) (hy : n.N[j]? = some y)
    (hij : i ≠ j) (hd : plB nm = true) (hk : n.gs[k]? = some x) (hX : ExG C.T x f tab) (hb : ∀ C', Sc C' n → LkSc C' sc → DSs C' body m) :
    DS C (.Try body [.ExceptHandler (some (.Name x np)) (some nm) [.Assign [.Name y py] (.Attribute (.Name nm pn) f pf) pa] pos'] [] [] pos) (tryG tab i j f m) := by
  obtain ⟨hs, hf, hex⟩ := S.tp ht
  obtain ⟨c, hc, hxf, hno, hcs⟩ := hX.ex
  have eN : C.X.N[i]? = some nm := by rw [S.hN]; exact hx
  have eY : C.X.N[j]? = some y := by rw [S.hN]; exact hy
  have nd : C.X.N.Nodup := by rw [S.hN]; exact S.nd
  refine ⟨PS.imp (ps_try_as (i := i) (c := .ref c) (Wout := C.W) (tb := fun W => LS ⟨C.X, W, C.mp, C.s0, C.tb⟩ m) (ts := fun a cls d => tAsg (tXf a cls d c f (tVar i)) (gName j)) hs hf nd eN (S.lcl li hx) ⟨(S.gl hk).1, (plB_d (S.gl hk).2).1, .inl hc⟩ S.tk
    (fun W pn xe tk po => (hb (C.tr W pn xe) (S.tr tk po) (L.tr W pn xe)).pss)
    fun a oe cls d q hz hv => pss_one (ps_asg (pe_xf hxf hno hz hv (pe_var (X := C.X.suite a ((a, oe) :: q)) eN (.inl (S.lcl li hx)) (plB_d hd).1 (plB_d hd).2.1) rfl) (pg_name (X := C.X.suite a ((a, oe) :: q)) nd eY (.inl (S.lcl lj hy)) (.inr (S.lcl lj hy))) rfl rfl rfl)) fun E σ H ⟨Hf, G, ρ, rr, h⟩ => ⟨Hf, G, ρ, rr, ?_⟩⟩
  unfold tryG at h
  cases e : m ρ with
  | no => rw [e] at h; exact h
  | ok f r =>
    rw [e] at h
    cases f with
    | nx => exact h
    | rt d => exact h
    | ro d => exact h
    | bk => exact h
    | ct => exact h
  | ex z r =>
    rw [e] at h
    intro cls dd σ1 H1 Hf1 s1 r1 xr
    dsimp only at h
    cases et : tab.lookup z.cls with
    | none => rw [et] at h; exact h.elim
    | some b =>
      rw [et] at h
      obtain ⟨C0, hC0, hm0, hcc⟩ := hcs z.cls b (lookup_mem et)
      have ec : cls = .ref C0 := by
        have := xr.1
        rw [show (DC.T ⟨C.X, _, C.mp, C.s0, C.tb⟩).mg z.cls = some (.ref C0) from hC0] at this
        exact (Option.some.inj this).symm
      subst ec
      refine ⟨b, hm0, fun eb a ha => ?_, fun eb => ?_⟩
      · subst eb
        obtain rfl := hcc rfl
        dsimp only at h
        cases el : lkF f z.fs with
        | none => rw [el] at h; exact h.elim
        | some d =>
          rw [el] at h
          dsimp only at h
          by_cases hlt : i < r.length
          case neg => rw [if_neg hlt] at h; exact h.elim
          rw [if_pos hlt] at h
          rcases xr.2 with ⟨h1, h2⟩ | ⟨_, d1, vs, h2, h3, h4⟩
          · rw [h1] at el; cases el
          · obtain ⟨v, hv, rv⟩ := h4.look.1 d el
            have hlen : i < σ1.length := by rw [← r1.len]; exact hlt
            refine ⟨.ref a, List.getElem?_set_self hlen, rfl, rfl, d1, vs, v, h2, r1.fz _ _ h3, hv, ?_⟩
            have fin := h _ _ _ s1 ((r1.set (S.mpo j hj) rv).drop (S.mpo i hi) none)
            show E.nx _ _
            rw [List.set_comm _ _ hij, List.set_set]
            exact fin
      · subst eb
        dsimp only at h
        exact h _ _ _ _ _ s1 r1 xr
/-! ### "..".join(x) -/
def strsD : List D → Option (List Str)
  | [] => some []
  | .str b :: ds => (strsD ds).map (b :: ·)
  | _ => none
theorem strs_rp {T : Wd} {H : Hp} : ∀ {ds : List D} {bs : List Str} {vs : List V}, strsD ds = some bs → RpA T H ds vs → vs = bs.map V.str ∧ ∀ b ∈ bs, PyData.strOk b = true
  | [], _, _, e, r => by cases e; rw [RpA.unnil r]; exact ⟨rfl, fun b hb => by cases hb⟩
  | .str b :: ds, _, _, e, r => by
    obtain ⟨bs, h, rfl⟩ := Option.map_eq_some_iff.mp (show (strsD ds).map (b :: ·) = some _ from e)
    obtain ⟨v, vs, e1, q, z⟩ := RpA.uncons r
    subst e1
    have : v = .str b ∧ PyData.strOk b = true := by simpa only [Rp] using q
    obtain ⟨ih1, ih2⟩ := strs_rp h z
    rw [this.1, ih1]
    exact ⟨rfl, fun x hx => by rcases List.mem_cons.mp hx with rfl | hx; exact this.2; exact ih2 x hx⟩
  | .none :: _, _, _, e, _ => by cases e
  | .bool _ :: _, _, _, e, _ => by cases e
  | .int _ :: _, _, _, e, _ => by cases e
  | .list _ :: _, _, _, e, _ => by cases e
  | .tuple _ :: _, _, _, e, _ => by cases e
  | .dict _ :: _, _, _, e, _ => by cases e
theorem strOk_join {a : Str} (ha : PyData.strOk a = true) : ∀ {bs : List Str}, (∀ b ∈ bs, PyData.strOk b = true) → PyData.strOk (Str.join a bs) = true
  | [], _ => by show PyData.strOk Str.empty = true; decide +kernel
  | [x], h => h x List.mem_cons_self
  | x :: y :: r, h => by
    unfold Str.join
    exact strOk_app (strOk_app (h x List.mem_cons_self) ha) (strOk_join ha fun b hb => h b (List.mem_cons_of_mem _ hb))
def joinD : D → D → Option D
  | .str a, .list ds => (strsD ds).bind fun bs => if (bs.map (·.length)).sum + bs.length * a.length ≤ 16777216 then some (.str (Str.join a bs)) else none
  | _, _ => none
@[simp ↓] theorem joinD_eq (a : Str) (ds : List D) : joinD (.str a) (.list ds) = (strsD ds).bind fun bs => if (bs.map (·.length)).sum + bs.length * a.length ≤ 16777216 then some (.str (Str.join a bs)) else none := id rfl
def joM (mo me : M D) : M D := bnd mo fun x => match x with
  | .str a => bnd me fun y => opt (joinD (.str a) y)
  | _ => stop
@[simp ↓] theorem joM_eq (mo me : M D) (ρ : Rho) : joM mo me ρ = (bnd mo fun x => match x with
  | .str a => bnd me fun y => opt (joinD (.str a) y)
  | _ => stop) ρ := id rfl
theorem de_join {o : Expr} {mo : M D} {ap : Pos} (ho : DE C o mo) (ha : DK C a ma) (hs : okB o = true) (hl : (ap.endLine == pos.line) = true) : DE C (.Call (.Attribute o "join" ap) [a] [] pos) (joM mo ma) := by
  refine ⟨PE.imp (pe_join ho.pe ha.pe (star_ok ha.ok [] _) (base_ok hs _ _) hl) fun σ H Q ⟨Hf, G, ρ, rr, h⟩ => post_bind rr h fun x d H1 Hf1 ρ1 s1 r1 rx p1 => ?_, rfl⟩
  cases d with
  | none => exact p1.elim
  | bool b => exact p1.elim
  | int b => exact p1.elim
  | list b => exact p1.elim
  | tuple b => exact p1.elim
  | dict b => exact p1.elim
  | str z =>
    obtain ⟨rfl, hz⟩ : x = .str z ∧ PyData.strOk z = true := by simpa only [relE, Rp] using rx
    refine ⟨⟨z, rfl⟩, post_bind r1 p1 fun y d2 H2 Hf2 ρ2 s2 r2 ry p2 => ?_⟩
    obtain ⟨w, e, q⟩ := opt_post p2
    cases d2 with
    | none => cases e
    | bool b => cases e
    | int b => cases e
    | str b => cases e
    | tuple b => cases e
    | dict b => cases e
    | list ds =>
      rw [joinD_eq] at e
      obtain ⟨bs, hb, e⟩ := Option.bind_eq_some_iff.mp e
      split at e
      · rename_i hs
        cases e
        obtain ⟨p, xs, e1, s1, ra⟩ := rpt_list ry
        obtain ⟨rfl, hok⟩ := strs_rp hb ra
        refine ⟨z, p, bs, rfl, by rw [e1], .inl s1, hs, ?_⟩
        rw [_root_.TL.join_eq]
        exact q _ H2 Hf2 (Same.refl _) r2 (rp_str (strOk_join hz hok))
      · cases e
end
end DS
/-! Facts of own classes, as the end finds them. -/
namespace DS
open PySem L2
section
variable {P : Program} {w : World} {K : PySem.W.Frag} {mg : Str → Option Value} {base : Heap} {tb : List (Addr × Str)}
theorem fn_lift {k : Nat} {f : Addr} {fd : FuncData} {ps : List Str} {sp : Sp} (F : FnOk P w K mg base CX0 k f fd ps sp) : FnOk P w K mg base (L2.CX P w) k f fd ps sp :=
  ⟨F.len, fun A outer s H args us vs Q E hr he hb hv hs => codeAny_mono (F.run A outer s H args us vs Q E hr he hb hv hs) fun r s' z => by
    cases r with
    | error e => exact z.elim
    | ok fl => cases fl <;> exact z⟩
theorem hasM_mkF {c m qual : Str} {K0 : Addr} {sd : Stmt} {f : Addr} {fd : FuncData} {ps : List Str} {n : Nm} {M0 : M Flow} (g : mg c = some (.ref K0)) (hc : Cls K K0) (me : Meth K K0 m f) (F : Fun K m qual sd f fd) (hb : Binds K fd ps []) (S : FnScope n.N ps (defScope sd)) (hp : ps.length ≤ n.N.length)
    (ck : scB n (defScope sd) = true) (bno : ∀ x ∈ n.bn, mg x = none) (fs : n.fs ⟨P, w, K, mg, base, tb⟩) (hD : ∀ C, Sc C n → LkSc C (defScope sd) → DSs C (defBody sd) M0) : HasM ⟨P, w, K, mg, base, tb⟩ c m (n.lv + 1) (runF ps.length n.N.length n.mp M0) :=
  ⟨K0, f, fd, ps, g, hc, me, fn_lift (fn_ok F S hp ck bno fs hD), hb⟩
theorem hasM_mkX {c m qual : Str} {K0 : Addr} {sd : Stmt} {f : Addr} {fd : FuncData} {ps : List Str} {n : Nm} {M0 : M Flow} (g : mg c = some (.ref K0)) (hc : Cls K K0) (me : Meth K K0 m f) (F : Fun K m qual sd f fd) (hb : Binds K fd ps []) (S : FnScope n.N ps (defScope sd)) (hp : ps.length ≤ n.N.length)
    (ck : scB n (defScope sd) = true) (bno : ∀ x ∈ n.bn, mg x = none) (fs : n.fs ⟨P, w, K, mg, base, tb⟩) (hD : ∀ C, Sc C n → LkSc C (defScope sd) → DSs C (defBody sd) M0) : HasM ⟨P, w, K, mg, base, tb⟩ c m (n.lv + 1) (runX ps.length n.N.length n.mp M0) :=
  ⟨K0, f, fd, ps, g, hc, me, fn_okX F S hp ck bno fs hD, hb⟩
theorem hasI_mkX {c m qual : Str} {K0 : Addr} {sd : Stmt} {f : Addr} {fd : FuncData} {ps : List Str} {n : Nm} {M0 : M Flow} (g : mg c = some (.ref K0)) (mk : Mk K K0 f) (F : Fun K m qual sd f fd) (hb : Binds K fd ps []) (S : FnScope n.N ps (defScope sd)) (hp : ps.length ≤ n.N.length)
    (ck : scB n (defScope sd) = true) (bno : ∀ x ∈ n.bn, mg x = none) (fs : n.fs ⟨P, w, K, mg, base, tb⟩) (hD : ∀ C, Sc C n → LkSc C (defScope sd) → DSs C (defBody sd) M0) : HasI ⟨P, w, K, mg, base, tb⟩ c (n.lv + 1) (runX ps.length n.N.length n.mp M0) :=
  ⟨K0, f, fd, ps, g, mk, fn_okX F S hp ck bno fs hD, hb⟩
theorem ocls_mk {c : Str} {K0 : Addr} {l : List Str} (g : mg c = some (.ref K0)) (hc : Cls K K0) (h : ∀ f ∈ l, NoAttr K K0 f) : OCls ⟨P, w, K, mg, base, tb⟩ c l := ⟨K0, g, hc, h⟩
theorem tail_ae : ∀ {l : List Value}, PySem.W.excTail aeT l = true → OwnAE l
  | l, h => by
    induction l with
    | nil => cases h
    | cons v r ih =>
      rcases PySem.W.excTail_cases _ h with ⟨c, r', e, hr⟩ | e
      · cases e
        obtain ⟨cs, rfl⟩ := ih hr
        exact ⟨c :: cs, rfl⟩
      · exact ⟨[], e⟩
theorem oex_mk {C : Addr} (q : PySem.W.excInitIn K C [.type "ArithmeticError", .type "Exception", .type "BaseException", .type "object"] "ArithmeticError.__new__" = true) (hd : PySem.W.hasDictIn K C = true) (sa : PySem.W.findIn K (.ref C) "__setattr__" = some (some (.builtin "object.__setattr__")))
    (be : PySem.W.subIn K (.ref C) (.type "BaseException") = some true) (ty : PySem.W.typeIn K (.ref C) = some (.type "type")) (kp : PySem.W.keepIn K (.ref C) = true) : OexA K C := by
  refine ⟨?_, sa, be, ty, kp⟩
  unfold PySem.W.excInitIn at q
  split at q
  case h_2 => cases q
  rename_i od cdt slt found
  split at q
  case h_2 => cases q
  rename_i D own s0 s1 s2 s3 nid s5 em es
  have q : (D == C) = true ∧ (nid == "ArithmeticError.__new__") = true ∧ (!cdt.hasDel) = true ∧ PySem.W.excTail aeT own = true := by
    simp only [Bool.and_eq_true] at q
    exact ⟨q.1.1.1, q.1.1.2, q.1.2, q.2⟩
  obtain ⟨q1, q2, q3, q4⟩ := q
  have e1 : D = C := beq_iff_eq.mp q1
  have e2 : nid = "ArithmeticError.__new__" := beq_iff_eq.mp q2
  subst e1 e2
  unfold PySem.W.hasDictIn PySem.W.clsIn at hd
  rw [found] at hd
  cases cdt with
  | mk nm bs mro ns qn hdd sn sb ab col del =>
    dsimp only at em q3 hd
    subst em
    have e3 : del = false := by simpa using q3
    have e4 : hdd = true := by simpa using hd
    subst e3 e4
    have e5 : slt = #[s0, s1, s2, s3, some (.builtin "ArithmeticError.__new__"), s5] := by rw [← es]
    subst e5
    exact ⟨nm, qn, ns, bs, own, sn, sb, ab, col, od, s0, s1, s2, s3, s5, found, tail_ae q4⟩
theorem xini_mk {x f qual : Str} {C fI : Addr} {fd : FuncData} {sd : Stmt} {p1 p2 p3 p4 : Pos} (g : mg x = some (.ref C)) (O : OexA K C) (iC : PySem.W.findIn K (.ref C) "__init__" = some (some (.ref fI))) (tI : PySem.W.typeIn K (.ref fI) = some (.type "function"))
    (F : Fun K "__init__" qual sd fI fd) (hb : Binds K fd ["self", f] []) (S : FnScope ["self", f] ["self", f] (defScope sd)) (hbody : defBody sd = [.Assign [.Attribute (.Name "self" p1) f p2] (.Name f p3) p4])
    (vis : (defScope sd).names.lookup ("self" : Str) = some NameKind.local ∧ (defScope sd).names.lookup f = some NameKind.local) (hf : plB f = true) (hno : PySem.W.findIn K (.ref C) f = some none) : XIni ⟨P, w, K, mg, base, tb⟩ x f :=
  ⟨C, fI, fd, g, O, iC, tI, init_ok (tb := tb) F S hbody vis hf O hno, hb⟩
theorem exg_mk {x f : Str} {c : Addr} {tab : List (Str × Bool)} (g : mg x = some (.ref c)) (B : ClsB K c) (xf : XfC K c) (hno : PySem.W.findIn K (.ref c) f = some none) (h : ∀ p ∈ tab, ∃ C, mg p.1 = some (.ref C) ∧ PySem.W.subIn K (.ref C) (.ref c) = some p.2 ∧ (p.2 = true → C = c)) : ExG ⟨P, w, K, mg, base, tb⟩ x f tab :=
  ⟨c, g, xf, hno, fun y b hy => by obtain ⟨C, h1, h2, h3⟩ := h (y, b) hy; exact ⟨C, h1, exm_own B h2, h3⟩⟩
end
end DS
set_option maxHeartbeats 4000000
/-! Dicts of one's own, with tuples as keys. -/
namespace DS
open PySem L2
section
variable {X : Cx} {pins : List (Addr × Obj)} {σ : St} {H Hf : Hp} {s : Shared} {T : Wd}
mutual
theorem nk_is (hK : T.K = X.K) (I : Inv X pins σ H s) (sm : Same Hf H) : ∀ (d : D) {v : V} {u : Value} {k : NestedKey}, Rp T Hf d v → RelV v u → nk d = some k → NestedIs s.heap k u
  | .none, v, u, k, r, e, h => by unfold Rp at r; subst r; unfold nk at h; cases h; cases e; exact .none
  | .bool b, v, u, k, r, e, h => by unfold Rp at r; subst r; unfold nk at h; cases h; cases e; exact .bool rfl
  | .int i, v, u, k, r, e, h => by unfold Rp at r; subst r; unfold nk at h; cases h; obtain ⟨t, rfl⟩ := e; exact .int _ _
  | .str x, v, u, k, r, e, h => by unfold Rp at r; obtain ⟨r, _⟩ := r; subst r; unfold nk at h; cases h; obtain ⟨t, rfl⟩ := e; exact .text _ _
  | .list ds, v, u, k, r, e, h => by unfold nk at h; cases h
  | .dict ds, v, u, k, r, e, h => by unfold nk at h; cases h
  | .tuple ds, v, u, k, r, e, h => by
    unfold nk at h
    obtain ⟨ks, hk, rfl⟩ := Option.map_eq_some_iff.mp h
    unfold Rp at r
    obtain ⟨a, xs, rfl, sq, ra⟩ := r
    cases e
    rw [hK] at sq
    obtain ⟨its, vs, ⟨o, ho, hc, n, hd⟩, _⟩ := I.tuple (Same.sqT sm sq)
    exact .tup ho hc hd (nks_is hK I sm ds ra vs hk)
theorem nks_is (hK : T.K = X.K) (I : Inv X pins σ H s) (sm : Same Hf H) : ∀ (ds : List D) {vs : List V} {us : List Value} {ks : List NestedKey}, RpA T Hf ds vs → Vals vs us → nkA ds = some ks → NestedAll s.heap ks us
  | [], vs, us, ks, r, e, h => by
    unfold RpA at r
    subst r
    cases e
    unfold nkA at h
    cases h
    exact .nil
  | d :: ds, vs, us, ks, r, e, h => by
    unfold RpA at r
    obtain ⟨v, q, rfl, r1, r2⟩ := r
    cases e with
    | cons e1 e2 =>
      unfold nkA at h
      cases hk : nk d with
      | none => rw [hk] at h; cases h
      | some k =>
        cases hks : nkA ds with
        | none => rw [hk, hks] at h; cases h
        | some ks' =>
          rw [hk, hks] at h
          cases h
          exact .cons (nk_is hK I sm d r1 e1 hk) (nks_is hK I sm ds r2 e2 hks)
end
theorem ent_is (hK : T.K = X.K) (I : Inv X pins σ H s) (sm : Same Hf H) : ∀ {kvs : List (D × D)} {xs : List (NestedKey × Addr × Value)}, EntOk T Hf kvs xs → ∀ x ∈ xs, (nestedKind X.prog X.w).is s.heap x.1 x.2.1
  | [], xs, h, x, hx => by have h : xs = [] := h; subst h; cases hx
  | p :: r, xs, ⟨key, a, val, v, q, e, n, hd, r1, r2, rv, t⟩, x, hx => by
    subst e
    rcases List.mem_cons.mp hx with rfl | hx
    · exact ⟨nk_is hK I sm p.1 r1 rfl n, hd⟩
    · exact ent_is hK I sm t x hx
theorem dictOf_ok (hP : T.P = X.prog) (hW : T.w = X.w) (hK : T.K = X.K) (I : Inv X pins σ H s) (sm : Same Hf H) {p : Addr} {kvs : List (D × D)} {xs : List (NestedKey × Addr × Value)} {ep : Nat} (h1 : H p = some (dHO T xs ep p)) (h2 : (xs.map (·.1)).Nodup) (h3 : EntOk T Hf kvs xs) : s.heap.DictOfH (nestedKind X.prog X.w) p xs := by
  have ho : ObjOk X.prog X.w H s.heap p (.ext fun h => ∃ o es, h.get? p = some o ∧ o.ExactDict ∧ o.data = .dict es ep ∧ es.toList = xs.map (entryOfKey (nestedKind T.P T.w))) := I.hok p _ h1
  obtain ⟨⟨o, es, e1, e2, e3, e4⟩, _⟩ := ho
  rw [hP, hW] at e4
  exact ⟨o, es, ep, e1, e2, e3, e4, ent_is hK I sm h3, h2⟩
theorem dHO_ok {p : Addr} {xs : List (NestedKey × Addr × Value)} {h : Heap} (hP : T.P = X.prog) (hW : T.w = X.w) (hd : h.DictOfH (nestedKind X.prog X.w) p xs) : ∃ ep, ∀ H' : Hp, ObjOk X.prog X.w H' h p (dHO T xs ep p) := by
  obtain ⟨o, es, ep, e1, e2, e3, e4, _, _⟩ := hd
  rw [← hP, ← hW] at e4
  exact ⟨ep, fun H' => ⟨⟨o, es, e1, e2, e3, e4⟩, ⟨o, e1⟩, fun h1 h2 ⟨o, es, e1, e2, e3, e4⟩ k => ⟨o, es, k _ e1, e2, e3, e4⟩⟩⟩
end
/-! ### over data -/
def hasK (kvs : List (D × D)) (k : NestedKey) : Bool := kvs.any fun p => decide (nk p.1 = some k)
def valK (kvs : List (D × D)) (k : NestedKey) : Option D := (kvs.find? fun p => decide (nk p.1 = some k)).map (·.2)
def stoK (kvs : List (D × D)) (k : NestedKey) (d v : D) : List (D × D) := if hasK kvs k then kvs.map fun p => if nk p.1 = some k then (p.1, v) else p else kvs ++ [(d, v)]
def tupK : D → Option NestedKey
  | .tuple ds => (nkA ds).bind fun ks => if (NestedKey.tup ks).depth ≤ 8 then some (.tup ks) else none
  | _ => none
theorem tupK_some {d : D} {k : NestedKey} (h : tupK d = some k) : nk d = some k ∧ k.depth ≤ 8 ∧ ∀ {T : Wd} {Hf : Hp} {v : V}, Rp T Hf d v → ∃ a, v = .ref a := by
  cases d with
  | tuple ds =>
    unfold tupK at h
    obtain ⟨ks, h1, h2⟩ := Option.bind_eq_some_iff.mp h
    split at h2
    · cases h2
      refine ⟨by unfold nk; rw [h1]; rfl, by assumption, fun r => ?_⟩
      unfold Rp at r
      obtain ⟨a, _, e, _⟩ := r
      exact ⟨a, e⟩
    · cases h2
  | none => cases h
  | bool b => cases h
  | int b => cases h
  | str b => cases h
  | list b => cases h
  | dict b => cases h
section
variable {T : Wd} {Hf : Hp}
theorem ent_has {k : NestedKey} : ∀ {kvs : List (D × D)} {xs : List (NestedKey × Addr × Value)}, EntOk T Hf kvs xs → (atKey xs k).isSome = hasK kvs k
  | [], xs, h => by have h : xs = [] := h; subst h; rfl
  | p :: r, xs, ⟨key, a, val, v, q, e, n, hd, r1, r2, rv, t⟩ => by
    subst e
    have ih := ent_has (k := k) t
    unfold atKey hasK at *
    rw [List.any_cons, n, List.find?_cons]
    by_cases hk : key = k
    · simp [hk]
    · have h2 : ¬ (some key = some k) := fun z => hk (Option.some.inj z)
      simp only [hk, h2, decide_false, Bool.false_or]
      exact ih
theorem ent_val {k : NestedKey} : ∀ {kvs : List (D × D)} {xs : List (NestedKey × Addr × Value)}, EntOk T Hf kvs xs → ∀ d, valK kvs k = some d → ∃ a val v, atKey xs k = some (a, val) ∧ Rp T Hf d v ∧ RelV v val
  | [], xs, h, d, e => by cases e
  | p :: r, xs, ⟨key, a, val, v, q, e, n, hd, r1, r2, rv, t⟩, d, h => by
    subst e
    have ih := ent_val (k := k) t d
    unfold atKey valK at *
    rw [List.find?_cons] at h ⊢
    rw [n] at h
    by_cases hk : key = k
    · subst hk
      simp at h
      subst h
      exact ⟨a, val, v, by simp, r2, rv⟩
    · have h2 : ¬ (some key = some k) := fun z => hk (Option.some.inj z)
      simp only [hk, h2, decide_false] at h ⊢
      exact ih h
theorem ent_len : ∀ {kvs : List (D × D)} {xs : List (NestedKey × Addr × Value)}, EntOk T Hf kvs xs → xs.length = kvs.length
  | [], xs, h => by have h : xs = [] := h; subst h; rfl
  | p :: r, xs, ⟨key, a, val, v, q, e, n, hd, r1, r2, rv, t⟩ => by subst e; simp [ent_len t]
theorem ent_snoc {key : NestedKey} {a : Addr} {val : Value} {v : V} {d w : D} (n : nk d = some key) (hd : key.depth ≤ 8) (r1 : Rp T Hf d (.ref a)) (r2 : Rp T Hf w v) (rv : RelV v val) : ∀ {kvs : List (D × D)} {xs : List (NestedKey × Addr × Value)}, EntOk T Hf kvs xs → EntOk T Hf (kvs ++ [(d, w)]) (xs ++ [(key, a, val)])
  | [], xs, h => by have h : xs = [] := h; subst h; exact ⟨key, a, val, v, [], rfl, n, hd, r1, r2, rv, rfl⟩
  | p :: r, xs, ⟨key', a', val', v', q, e, n', hd', r1', r2', rv', t⟩ => by
    subst e
    exact ⟨key', a', val', v', _, rfl, n', hd', r1', r2', rv', ent_snoc n hd r1 r2 rv t⟩
theorem ent_map {k : NestedKey} {val : Value} {v : V} {w : D} (r2 : Rp T Hf w v) (rv : RelV v val) : ∀ {kvs : List (D × D)} {xs : List (NestedKey × Addr × Value)}, EntOk T Hf kvs xs → EntOk T Hf (kvs.map fun p => if nk p.1 = some k then (p.1, w) else p) (xs.map (putAt k val))
  | [], xs, h => by have h : xs = [] := h; subst h; rfl
  | p :: r, xs, ⟨key, a, val', v', q, e, n, hd, r1, r2', rv', t⟩ => by
    subst e
    rw [List.map_cons, List.map_cons]
    have ih := ent_map (k := k) r2 rv t
    unfold putAt at *
    by_cases hk : key = k
    · rw [if_pos (by rw [n, hk]), if_pos hk]
      exact ⟨key, a, val, v, _, rfl, n, hd, r1, r2, rv, ih⟩
    · rw [if_neg (by rw [n]; exact fun z => hk (Option.some.inj z)), if_neg hk]
      exact ⟨key, a, val', v', _, rfl, n, hd, r1, r2', rv', ih⟩
theorem ent_sto {k : NestedKey} {a : Addr} {val : Value} {v : V} {d w : D} {kvs : List (D × D)} {xs : List (NestedKey × Addr × Value)} (n : nk d = some k) (hd : k.depth ≤ 8) (r1 : Rp T Hf d (.ref a)) (r2 : Rp T Hf w v) (rv : RelV v val) (h : EntOk T Hf kvs xs) : EntOk T Hf (stoK kvs k d w) (storedH xs k a val) := by
  unfold stoK storedH
  rw [ent_has h]
  split
  · exact ent_map r2 rv h
  · exact ent_snoc n hd r1 r2 rv h
end
end DS
set_option maxHeartbeats 4000000
/-! Rules for dicts of one's own. -/
namespace DS
open PySem L2
section
variable {X : Cx} {tb : List (Addr × Str)}
/-- k in d, k not in d -/
def rInK (T : Wd) (neg : Bool) : R2 := fun x y H Q => ∃ Hf a p d key kvs xs ep, Same Hf H ∧ x = .ref a ∧ y = .ref p ∧ (p == sysModules) = false ∧ H p = some (dHO T xs ep p) ∧ (xs.map (·.1)).Nodup ∧ EntOk T Hf kvs xs ∧ nk d = some key ∧ key.depth ≤ 8 ∧ Rp T Hf d (.ref a) ∧ Q (.bl (if neg then !hasK kvs key else hasK kvs key)) H
abbrev wdOf (X : Cx) (tb : List (Addr × Str)) : Wd := ⟨X.prog, X.w, X.K, X.mg, X.base, tb⟩
theorem op_inK (hu : (nestedKind X.prog X.w).room X.A.in1) : OpR X (compareOp .In) (rInK (wdOf X tb) false) := by
  rintro pins s σ H x y v u Q I rx ry ⟨Hf, a, p, d, key, kvs, xs, ep, sm, rfl, rfl, hs, h1, h2, h3, n, hd, r1, q⟩
  cases rx
  cases ry
  refine wpAny_in_heap hu ⟨nk_is rfl I sm d r1 rfl n, hd⟩ hs (dictOf_ok rfl rfl rfl I sm h1 h2 h3) ?_
  rw [ent_has h3]
  exact ⟨.bl _, H, I.tok _, rfl, q⟩
theorem op_notInK (hu : (nestedKind X.prog X.w).room X.A.in1) : OpR X (compareOp .NotIn) (rInK (wdOf X tb) true) := by
  rintro pins s σ H x y v u Q I rx ry ⟨Hf, a, p, d, key, kvs, xs, ep, sm, rfl, rfl, hs, h1, h2, h3, n, hd, r1, q⟩
  cases rx
  cases ry
  refine notIn_keyed hu ⟨nk_is rfl I sm d r1 rfl n, hd⟩ hs ⟨xs, dictOf_ok rfl rfl rfl I sm h1 h2 h3, rfl⟩ ?_
  rw [valueAt_pairsH, Option.isSome_map, ent_has h3]
  exact ⟨.bl _, H, I.tok _, rfl, q⟩
/-- d[k] = v -/
def rSetK (T : Wd) : TSet := fun o i v H Q => ∃ Hf a p d key kvs xs ep, Same Hf H ∧ i = .ref a ∧ o = .ref p ∧ H p = some (dHO T xs ep p) ∧ (xs.map (·.1)).Nodup ∧ EntOk T Hf kvs xs ∧ nk d = some key ∧ key.depth ≤ 8 ∧ Rp T Hf d (.ref a) ∧ xs.length ≤ sizeLine ∧
  ∀ val ep', RelV v val → ((storedH xs key a val).map (·.1)).Nodup → Q (upd H p (dHO T (storedH xs key a val) ep' p))
theorem set_keyed (hu : (nestedKind X.prog X.w).room X.A.in1) : PSet X (rSetK (wdOf X tb)) := by
  rintro pins s σ H o i v ov iv u Q I ro ri rv ⟨Hf, a, p, d, key, kvs, xs, ep, sm, rfl, rfl, h1, h2, h3, n, hd, r1, hz, q⟩
  cases ro
  cases ri
  refine wpAny_setItem_heap hu ⟨nk_is rfl I sm d r1 rfl n, hd⟩ (dictOf_ok rfl rfl rfl I sm h1 h2 h3) (fun h' hd' hs' => ?_) hz
  have there : ∃ o, h'.get? p = some o := by
    obtain ⟨o, _, _, e, _⟩ := hd'
    exact ⟨o, e⟩
  have nod : ((storedH xs key a u).map (·.1)).Nodup := by
    obtain ⟨_, _, _, _, _, _, _, _, z⟩ := hd'
    exact z
  obtain ⟨ep', ok⟩ := dHO_ok (T := wdOf X tb) rfl rfl hd'
  exact ⟨_, I.write (x := p) (e := p) (by rw [h1]; trivial) (.inl rfl) (fun b w hb e => (hs'.2 b hb).trans e) there (ok _), q u ep' rv nod⟩
end
section
variable {C : DC} {n : Nm} {pos : Pos} {a : Expr} {ma : M D}
theorem Sc.rmK (S : Sc C n) : (nestedKind C.X.prog C.X.w).room C.X.A.in1 := by
  have := S.room.units
  show C.X.A.in1.units + 8 < cLine
  have e : C.X.A.in1.units = C.X.A.units + 1 := rfl
  omega
def inMd (neg : Bool) (i : Nat) (m : M D) : M D := bnd m fun d => fun ρ => match ρ[i]? with
  | some (.md kvs) => (match tupK d with
    | some key => .ok (.bool (if neg then !hasK kvs key else hasK kvs key)) ρ
    | none => .no)
  | _ => .no
@[simp ↓] theorem inMd_eq (neg : Bool) (i : Nat) (m : M D) (ρ : Rho) : inMd neg i m ρ = (bnd m fun d => fun ρ => match ρ[i]? with
  | some (.md kvs) => (match tupK d with
    | some key => .ok (.bool (if neg then !hasK kvs key else hasK kvs key)) ρ
    | none => .no)
  | _ => .no) ρ := id rfl
theorem lft_inK {neg : Bool} {i : Nat} : ∀ σ H Q, Lft C (relE C.T) (inMd neg i ma) σ H Q → tOp (rInK (wdOf C.X C.tb) neg) (Lft C (relE C.T) ma) (tVar i) σ H Q := fun σ H Q ⟨Hf, G, ρ, rr, h⟩ => post_bind rr h fun x d H1 Hf1 ρ1 s1 r1 rx p1 => by
  cases e : ρ1[i]? with
  | none => simp only [e] at p1; exact p1.elim
  | some z =>
    simp only [e] at p1
    cases z with
    | un => exact p1.elim
    | im d => exact p1.elim
    | ml d => exact p1.elim
    | mi c d => exact p1.elim
    | md kvs =>
      dsimp only at p1
      cases ek : tupK d with
      | none => rw [ek] at p1; exact p1.elim
      | some key =>
        rw [ek] at p1
        obtain ⟨k1, k2, k3⟩ := tupK_some ek
        obtain ⟨a, rfl⟩ := k3 rx
        obtain ⟨p, hp, _, _, hs, xs, ep, hH, nd, en⟩ := r1.sl i _ e
        exact ⟨.ref p, hp, Hf1, a, p, d, key, kvs, xs, ep, r1.fz, rfl, rfl, hs, hH, nd, en, k1, k2, rx, p1 _ H1 Hf1 (Same.refl _) r1 (rp_bool _)⟩
theorem de_inK {x : Str} {p : Pos} (S : Sc C n) (i : Nat) (hi : i ∈ n.vs) (hx : n.N[i]? = some x) (ha : DE C a ma) : DE C (.Compare a [.In] [.Name x p] pos) (inMd false i ma) :=
  ⟨PE.imp (pe_cmpR (op_inK S.rmK) ha.pe (pv_ok S i hi hx) rfl) lft_inK, rfl⟩
theorem de_notInK {x : Str} {p : Pos} (S : Sc C n) (i : Nat) (hi : i ∈ n.vs) (hx : n.N[i]? = some x) (ha : DE C a ma) : DE C (.Compare a [.NotIn] [.Name x p] pos) (inMd true i ma) :=
  ⟨PE.imp (pe_cmpR (op_notInK S.rmK) ha.pe (pv_ok S i hi hx) rfl) lft_inK, rfl⟩
theorem dt_inK {x : Str} {p : Pos} (S : Sc C n) (i : Nat) (hi : i ∈ n.vs) (hx : n.N[i]? = some x) (ha : DE C a ma) : DT C (.Compare a [.In] [.Name x p] pos) (asB (inMd false i ma)) :=
  ⟨PT.imp (pt_cmpR (op_inK S.rmK) ha.pe (pv_ok S i hi hx) rfl) (lft_asB lft_inK)⟩
theorem dt_notInK {x : Str} {p : Pos} (S : Sc C n) (i : Nat) (hi : i ∈ n.vs) (hx : n.N[i]? = some x) (ha : DE C a ma) : DT C (.Compare a [.NotIn] [.Name x p] pos) (asB (inMd true i ma)) :=
  ⟨PT.imp (pt_cmpR (op_notInK S.rmK) ha.pe (pv_ok S i hi hx) rfl) (lft_asB lft_inK)⟩
/-- x[k] = e -/
def sdM (i : Nat) (me mk : M D) : M Flow := bnd me fun d => bnd (vsl.pkO i) fun _ => bnd mk fun k => fun ρ => match ρ[i]? with
  | some (.md kvs) => (match tupK k with
    | some key => if kvs.length ≤ sizeLine then .ok .nx (ρ.set i (.md (stoK kvs key k d))) else .no
    | none => .no)
  | _ => .no
@[simp ↓] theorem sdM_eq (i : Nat) (me mk : M D) (ρ : Rho) : sdM i me mk ρ = (bnd me fun d => bnd (vsl.pkO i) fun _ => bnd mk fun k => fun ρ => match ρ[i]? with
  | some (.md kvs) => (match tupK k with
    | some key => if kvs.length ≤ sizeLine then .ok .nx (ρ.set i (.md (stoK kvs key k d))) else .no
    | none => .no)
  | _ => .no) ρ := id rfl
theorem ds_sd {x : Str} {px p2 : Pos} {e k : Expr} {me mk : M D} (S : Sc C n) (i : Nat) (hi : i ∈ n.vs) (hx : n.N[i]? = some x) (he : DE C e me) (hk : DE C k mk) (hl : noLc e = true) : DS C (.Assign [.Subscript (.Name x px) k p2] e pos) (sdM i me mk) :=
  ⟨PS.imp (ps_asg he.pe (pg_sub (pv_ok S i hi hx) hk.pe (set_keyed S.rmK) (fun v => asg_ok hk.ok _ _ _ _)) (sws_ok he.ok hl _ _ _) (by cases e <;> rfl) rfl) fun E σ H ⟨Hf, G, ρ, rr, h⟩ => posts_bind rr h fun v d H1 Hf1 ρ1 s1 r1 rv p1 => by
    cases eo : ρ1[i]? with
    | none => simp only [bnd, vsl.pkO, eo] at p1; exact p1.elim
    | some z =>
      by_cases oz : owns z = true
      case neg => simp only [bnd, vsl.pkO, eo, oz] at p1; exact p1.elim
      have hz := r1.sl i _ eo
      obtain ⟨q, hq⟩ : ∃ q, σ[i]? = some (some (.ref q)) := by
        cases z with
        | un => cases oz
        | im d => cases oz
        | ml d => obtain ⟨q, _, e, _⟩ := hz; exact ⟨q, e⟩
        | mi c d => obtain ⟨q, _, _, _, e, _⟩ := hz; exact ⟨q, e⟩
        | md d => obtain ⟨q, e, _⟩ := hz; exact ⟨q, e⟩
      have p1 : PostS C E Hf1 G ((bnd mk fun k => fun ρ => match ρ[i]? with
        | some (.md kvs) => (match tupK k with
          | some key => if kvs.length ≤ sizeLine then .ok .nx (ρ.set i (.md (stoK kvs key k d))) else .no
          | none => .no)
        | _ => .no) ρ1) := by
        simp only [bnd, vsl.pkO, eo, oz, if_true] at p1
        exact p1
      refine ⟨.ref q, hq, ?_⟩
      refine posts_bind r1 p1 fun kv kd H2 Hf2 ρ2 s2 r2 rk p2 => ?_
      cases e2 : ρ2[i]? with
      | none => simp only [e2] at p2; exact p2.elim
      | some y =>
        simp only [e2] at p2
        cases y with
        | un => exact p2.elim
        | im d => exact p2.elim
        | ml d => exact p2.elim
        | mi c d => exact p2.elim
        | md kvs =>
          dsimp only at p2
          cases ek : tupK kd with
          | none => rw [ek] at p2; exact p2.elim
          | some key =>
            rw [ek] at p2
            dsimp only at p2
            split at p2
            · rename_i hsz
              obtain ⟨k1, k2, k3⟩ := tupK_some ek
              obtain ⟨b, rfl⟩ := k3 rk
              have hs := r2.sl i _ e2
              rw [hq] at hs
              obtain ⟨q', eq, f1, f2, hsm, xs, ep, hH, nd, en⟩ := hs
              cases eq
              refine ⟨Hf2, b, q, kd, key, kvs, xs, ep, r2.fz, rfl, rfl, hH, nd, en, k1, k2, rk, by rw [ent_len en]; exact hsz, fun val ep' rval nod => ?_⟩
              exact p2 σ _ Hf2 (Same.refl _) (r2.wr (y := .md (stoK kvs key kd d)) e2 rfl hq ⟨q, rfl, f1, f2, hsm, _, ep', upd_same, nod, ent_sto k1 k2 rk (Rp.mono s2 _ _ rv) rval en⟩)
            · exact p2.elim⟩
end
end DS
set_option maxHeartbeats 4000000
/-! {} and {k: v}, kept as dicts of one's own. -/
namespace DS
open PySem L2
section
variable {X : Cx} {pos : Pos}
theorem dict_new (h : Heap) : (h.push { cls := .type "dict", data := .dict #[] }).DictOfH (nestedKind X.prog X.w) h.objs.size [] := Heap.DictOfH.new h
def tDict0 (T : Wd) : TE := fun _ H Q => ∀ p ep, H p = none → (p == sysModules) = false → Q (.ref p) (upd H p (dHO T [] ep p))
theorem pe_dict0 : PE X (.Dict [] [] pos) (tDict0 (wdOf X tb)) := ⟨fun pins s σ H Q I h => by
  obtain ⟨ep, ok⟩ := dHO_ok (X := X) (T := wdOf X tb) rfl rfl (dict_new s.heap)
  exact wpAny_Dict_empty ⟨.ref s.heap.objs.size, _, I.laid (a := s.heap.objs.size) (o := dHO (wdOf X tb) [] ep s.heap.objs.size) (t' := s.toks) (fun _ _ q => Heap.get?_push_of_some _ q) (Nat.le_refl _) (ok _), rfl,
    h _ ep (I.hok.fresh (Nat.le_refl _)) (beq_eq_false_iff_ne.mpr (Ne.symm (Nat.ne_of_lt I.big)))⟩⟩
def tDict1 (T : Wd) (tk tv : TE) : TE := fun σ H Q => ∀ p ep, H p = none → (p == sysModules) = false → tk σ (upd H p (dHO T [] ep p)) fun x H1 => tv σ H1 fun y H2 => H2 p = some (dHO T [] ep p) ∧
  ∃ Hf d key a, Same Hf H2 ∧ x = .ref a ∧ nk d = some key ∧ key.depth ≤ 8 ∧ Rp T Hf d (.ref a) ∧ ∀ val ep', RelV y val → Q (.ref p) (upd H2 p (dHO T [(key, a, val)] ep' p))
theorem pe_dict1 {k v : Expr} {tk tv : TE} (hu : (nestedKind X.prog X.w).room X.A) (hk : PE X k tk) (hv : PE X v tv) : PE X (.Dict [some k] [v] pos) (tDict1 (wdOf X tb) tk tv) := by
  refine ⟨fun pins s σ H Q I q => ?_⟩
  have free := I.hok.fresh (Nat.le_refl s.heap.objs.size)
  obtain ⟨ep, ok⟩ := dHO_ok (X := X) (T := wdOf X tb) rfl rfl (dict_new s.heap)
  have I1 := I.laid (a := s.heap.objs.size) (o := dHO (wdOf X tb) [] ep s.heap.objs.size) (t' := s.toks) (fun _ _ q => Heap.get?_push_of_some _ q) (Nat.le_refl _) (ok _)
  rw [arm_eval_Dict, zip_pairTrees [some k] [v] X.env pos rfl rfl, dictDisplay_pairs (pairTrees [some k] [v] X.env pos) (by unfold pairTrees; simp) (by unfold pairTrees pairTrees; simp)]
  refine wpAny_bind (wpAny_standAt (wpAny_bind (wpAny_subDictH (knd := nestedKind X.prog X.w) (Q := fun d s' => wpAny (model X.prog X.w) X.A (pure (Value.ref d)) _ _ s') hu (by unfold pairTrees pairTrees; simp) ?_)))
  refine pairTrees_cons_walk (thn (hk.run pins _ σ _ _ I1 (q _ ep free (beq_eq_false_iff_ne.mpr (Ne.symm (Nat.ne_of_lt I.big))))) fun u s1 hu1 => ?_)
  obtain ⟨x, H1, J1, rx, q1⟩ := hu1
  refine thn (hv.run pins s1 σ H1 _ J1 q1) fun w2 s2 hw => pairTrees_nil_walk ?_
  obtain ⟨y, H2, I2, ry, e, Hf, d, key, a, sm, ex, n, hd, r1, q2⟩ := hw
  subst ex
  cases rx
  have empty := dictOf_ok (T := wdOf X tb) (kvs := []) rfl rfl rfl I2 sm e List.nodup_nil rfl
  refine ⟨[(key, a, w2)], ⟨rfl, rfl, ⟨nk_is (T := wdOf X tb) rfl I2 sm d r1 rfl n, hd⟩, trivial⟩, empty, fun h' tk' hd' hs' => wpAny_pure ?_⟩
  have there : ∃ o, h'.get? s.heap.objs.size = some o := by
    obtain ⟨o, _, _, eo, _⟩ := hd'
    exact ⟨o, eo⟩
  obtain ⟨ep', ok'⟩ := dHO_ok (X := X) (T := wdOf X tb) rfl rfl hd'
  exact ⟨.ref s.heap.objs.size, _, I2.write (x := s.heap.objs.size) (e := s.heap.objs.size) (by rw [e]; trivial) (.inl rfl) (fun b w hb eb => (hs'.2 b hb).trans eb) there (ok' _), rfl, q2 w2 ep' ry⟩
end
/-- a new dict of one's own -/
abbrev relD (T : Wd) : Rel V (List (D × D)) := fun Hf G σ H ρ v kvs => ∃ p, v = .ref p ∧ Fresh Hf G σ ρ p ∧ DictAt T Hf H p kvs
structure DD (C : DC) (e : Expr) (m : M (List (D × D))) : Prop where
  pe : PE C.X e (Lft C (relD C.T) m)
  ok : okE e = true
  nl : noLc e = true
def smM (m : M (List (D × D))) (i : Nat) : M Flow := bnd m fun kvs => fun ρ => .ok .nx (ρ.set i (.md kvs))
@[simp ↓] theorem smM_eq (m : M (List (D × D))) (i : Nat) (ρ : Rho) : smM m i ρ = (bnd m fun kvs => fun ρ => .ok .nx (ρ.set i (.md kvs))) ρ := id rfl
section
variable {C : DC} {n : Nm} {pos : Pos}
theorem ds_setD {e : Expr} {m : M (List (D × D))} {x : Str} {px : Pos} (S : Sc C n) (i : Nat) (hi : i ∈ n.ws) (hx : n.N[i]? = some x) (h : DD C e m) : DS C (.Assign [.Name x px] e pos) (smM m i) :=
  ⟨PS.imp (ps_asg h.pe (pg_ok S i hi hx) (sws_ok h.ok h.nl _ _ _) (by cases e <;> rfl) rfl) fun E σ H ⟨Hf, G, ρ, rr, h⟩ => posts_bind rr h fun v kvs H1 Hf1 ρ1 s1 r1 rv p1 => by
    obtain ⟨p, rfl, fr, hd⟩ := rv
    exact p1 _ H1 Hf1 (Same.refl _) (r1.setO (S.mpo i hi) fr ⟨p, rfl, fr.1, fr.2.1, hd⟩)⟩
theorem dd_empty : DD C (.Dict [] [] pos) (ret []) :=
  ⟨PE.imp pe_dict0 fun σ H Q ⟨Hf, G, ρ, rr, h⟩ p ep hp hs => h (.ref p) _ Hf (Same.refl _) (rr.grow (Same.updN hp)) ⟨p, rfl, rr.fresh hp, hs, [], ep, upd_same, List.nodup_nil, rfl⟩, rfl, rfl⟩
/-- what others hold grows -/
theorem RR.hold {F : Fx} {Hf G : Hp} {σ : St} {H : Hp} {ρ : Rho} {p : Addr} {o : HO} (R : RR F Hf G σ H ρ) (hp : H p = none) : RR F Hf (upd G p o) σ (upd H p o) ρ := by
  have R1 := R.grow (Same.updN (o := o) hp)
  refine ⟨R1.fz, fun b u e => ?_, fun b u e => ?_, R1.len, fun i x e => ?_, R1.ds, R1.kp, R1.tb.gup (R.tb.neN hp)⟩
  · by_cases hb : b = p
    · subst hb; rw [upd_same] at e ⊢; exact e
    · rw [upd_ne hb] at e; exact R1.fg b u e
  · by_cases hb : b = p
    · subst hb; exact R.fz.free hp
    · rw [upd_ne hb] at e; exact R1.dj b u e
  · have h := R1.sl i x e
    have ne : ∀ {q : Addr}, (∃ u, H q = some u) → q ≠ p := fun {q} ⟨u, hu⟩ z => by rw [z, hp] at hu; cases hu
    have old := R.sl i x e
    cases x with
    | un => trivial
    | im d => exact h
    | ml ds =>
      obtain ⟨q, vs, a, b, c, d, f⟩ := h
      obtain ⟨q', vs', a', _, _, d', _⟩ := old
      rw [a] at a'; cases a'
      exact ⟨q, vs, a, b, by rw [upd_ne (ne ⟨_, d'⟩)]; exact c, d, f⟩
    | md kvs =>
      obtain ⟨q, a, b, c, d⟩ := h
      obtain ⟨q', a', _, _, _, xs, ep, d', _⟩ := old
      rw [a] at a'; cases a'
      exact ⟨q, a, b, by rw [upd_ne (ne ⟨_, d'⟩)]; exact c, d⟩
    | mi c fs =>
      obtain ⟨q, C, dx, vs, a, b, c1, d, f⟩ := h
      obtain ⟨q', C', dx', vs', a', _, _, d', _⟩ := old
      rw [a] at a'; cases a'
      exact ⟨q, C, dx, vs, a, b, by rw [upd_ne (ne ⟨_, d'⟩)]; exact c1, d, f⟩
theorem RR.loose {F : Fx} {Hf G : Hp} {σ : St} {H : Hp} {ρ : Rho} {p : Addr} {o : HO} (R : RR F Hf (upd G p o) σ H ρ) (hg : G p = none) : RR F Hf G σ H ρ := by
  have lt : ∀ {b : Addr}, upd G p o b = none → G b = none := fun {b} e => by
    by_cases hb : b = p
    · rw [hb]; exact hg
    · rw [upd_ne hb] at e; exact e
  have up : ∀ {b : Addr} {u : HO}, G b = some u → upd G p o b = some u := fun {b u} e => by rw [upd_ne (ne_of_none e hg)]; exact e
  refine ⟨R.fz, fun b u e => R.fg b u (up e), fun b u e => R.dj b u (up e), R.len, fun i x e => ?_, R.ds, R.kp, R.tb.gdn.1⟩
  have h := R.sl i x e
  cases x with
  | un => trivial
  | im d => exact h
  | ml ds => obtain ⟨q, vs, a, b, c, d, f⟩ := h; exact ⟨q, vs, a, b, lt c, d, f⟩
  | md kvs => obtain ⟨q, a, b, c, d⟩ := h; exact ⟨q, a, b, lt c, d⟩
  | mi c fs => obtain ⟨q, C, dx, vs, a, b, c1, d, f⟩ := h; exact ⟨q, C, dx, vs, a, b, lt c1, d, f⟩
/-- an object that nobody here holds is written -/
theorem RR.poke {F : Fx} {Hf G : Hp} {σ : St} {H : Hp} {ρ : Rho} {p : Addr} {o : HO} (R : RR F Hf G σ H ρ) (hf : Hf p = none) (hg : G p = none) (hn : ∀ (i : Nat) x, ρ[i]? = some x → owns x = true → σ[i]? ≠ some (some (.ref p))) (nt : ∀ q ∈ F.T.tb, q.1 ≠ p) : RR F Hf G σ (upd H p o) ρ :=
  ⟨fun b u e => by rw [upd_ne (ne_of_none e hf)]; exact R.fz b u e, fun b u e => by rw [upd_ne (ne_of_none e hg)]; exact R.fg b u e, R.dj, R.len,
    fun i x e => (R.sl i x e).at fun q u ho hq hu => by rw [upd_ne fun z => hn i x e ho (by rw [hq, z])]; exact hu, R.ds, R.kp, R.tb.hup nt⟩
theorem RR.apart {F : Fx} {Hf G : Hp} {σ : St} {H : Hp} {ρ : Rho} {p : Addr} {u : HO} (R : RR F Hf G σ H ρ) (h : G p = some u) (i : Nat) (x : Sl) (e : ρ[i]? = some x) (ho : owns x = true) : σ[i]? ≠ some (some (.ref p)) := fun z => by
  have := (R.own e ho z).2.1
  rw [h] at this
  cases this
def d1M (mk mv : M D) : M (List (D × D)) := bnd mk fun k => bnd mv fun v => match tupK k with
  | some _ => ret [(k, v)]
  | none => stop
@[simp ↓] theorem d1M_eq (mk mv : M D) (ρ : Rho) : d1M mk mv ρ = (bnd mk fun k => bnd mv fun v => match tupK k with
  | some _ => ret [(k, v)]
  | none => stop) ρ := id rfl
theorem dd_one {k v : Expr} {mk mv : M D} (S : Sc C n) (hk : DE C k mk) (hv : DE C v mv) : DD C (.Dict [some k] [v] pos) (d1M mk mv) := by
  have room : (nestedKind C.X.prog C.X.w).room C.X.A := by
    have := S.room.units
    show C.X.A.units + 8 < cLine
    omega
  refine ⟨PE.imp (pe_dict1 (tb := C.tb) room hk.pe hv.pe) fun σ H Q ⟨Hf, G, ρ, rr, h⟩ p ep hp hs => ?_, rfl, rfl⟩
  have hg : G p = none := rr.fg.free hp
  have r0 : RR C.F Hf (upd G p (dHO (wdOf C.X C.tb) [] ep p)) σ (upd H p (dHO (wdOf C.X C.tb) [] ep p)) ρ := rr.hold hp
  have fr0 : Fresh Hf G σ ρ p := rr.fresh hp
  have h : Post C (relD C.T) Hf G σ Q ((bnd mk fun k => bnd mv fun v => match tupK k with
    | some _ => ret [(k, v)]
    | none => stop) ρ) := h
  unfold bnd at h
  refine ⟨Hf, _, ρ, r0, ?_⟩
  cases e1 : mk ρ with
  | no => rw [e1] at h; exact h
  | ex z ρ1 => rw [e1] at h; exact fun cls dd H1 Hf1 s1 r1 xr => h cls dd H1 Hf1 s1 (r1.loose hg) xr
  | ok kd ρ1 =>
    rw [e1] at h
    intro x H1 Hf1 s1 r1 rx
    refine ⟨Hf1, _, ρ1, r1, ?_⟩
    dsimp only at h
    cases e2 : mv ρ1 with
    | no => rw [e2] at h; exact h
    | ex z ρ2 => rw [e2] at h; exact fun cls dd H2 Hf2 s2 r2 xr => h cls dd H2 Hf2 (s1.trans s2) (r2.loose hg) xr
    | ok vd ρ2 =>
      rw [e2] at h
      intro y H2 Hf2 s2 r2 ry
      dsimp only at h
      cases ek : tupK kd with
      | none => rw [ek] at h; exact h.elim
      | some key =>
        rw [ek] at h
        obtain ⟨k1, k2, k3⟩ := tupK_some ek
        obtain ⟨a, rfl⟩ := k3 rx
        have r3 := r2.loose hg
        have hf2 : Hf2 p = none := r2.dj p _ upd_same
        have ap := r2.apart (p := p) upd_same
        refine ⟨r2.fg p _ upd_same, Hf2, kd, key, a, r2.fz, rfl, k1, k2, Rp.mono s2 _ _ rx, fun val ep' rval => ?_⟩
        exact h (.ref p) _ Hf2 (s1.trans s2) (r3.poke hf2 hg ap r2.tb.gdn.2) ⟨p, rfl, ⟨hf2, hg, ap⟩, hs, [(key, a, val)], ep', upd_same, by simp, ⟨key, a, val, y, [], rfl, k1, k2, Rp.mono s2 _ _ rx, ry, rval, rfl⟩⟩
end
end DS
/-! Constants of the text that are tuples. -/
namespace DS
open PySem L2
section
variable {P : Program} {w : World} {K : PySem.W.Frag} {mg : Str → Option Value} {base : Heap} {tb : List (Addr × Str)}
theorem cn_tup {x : Str} {a : Addr} {od : Option Addr} {its : List Value} {n : Nat} {sl : Array (Option Value)} {xs : List V} {ds : List D} (h : mg x = some (.ref a)) (hk : K.lookup a = some ⟨.type "tuple", od, .seq its.toArray n, sl⟩) (hz : its.length ≤ 1000)
    (hv : Vals xs its) (hr : ∀ Hf, RpA ⟨P, w, K, mg, base, tb⟩ Hf ds xs) : Cn ⟨P, w, K, mg, base, tb⟩ x (.tuple ds) := by
  refine ⟨.ref a, .ref a, h, rfl, fun Hf => ?_⟩
  unfold Rp
  exact ⟨a, xs, rfl, .inr ⟨_, its.toArray, n, hk, rfl, rfl, by rw [List.size_toArray, sizeLine_eq]; omega, by simpa using hv⟩, hr Hf⟩
theorem ra_int {T : Wd} {Hf : Hp} {i : Int} {ds : List D} {vs : List V} (h : RpA T Hf ds vs) : RpA T Hf (.int i :: ds) (.int i :: vs) := RpA.cons (rp_int i) h
theorem ra_non {T : Wd} {Hf : Hp} {ds : List D} {vs : List V} (h : RpA T Hf ds vs) : RpA T Hf (.none :: ds) (.non :: vs) := RpA.cons rp_none h
end
end DS
set_option maxHeartbeats 4000000
/-! x[::-1] and x[:0:-1]. -/
namespace DS
open PySem PySem.Spec PyProof.Rows L2 HT
section
variable {prog : Program} {w : World} {A : Around} {E : Value → Shared → Prop} {s : Shared}
/-- how many are left out ahead: none of x[::-1], one of x[:0:-1] -/
def outOf : Option Int → Nat
  | none => 0
  | _ => 1
theorem adjust_back (hi : Option Int) (n : Nat) (h : hi = none ∨ hi = some 0) : Builtin.Slice.sliceAdjust none hi (-1) (n : Int) = ((n : Int) - 1, if hi = none then -1 else min 0 ((n : Int) - 1)) := by
  have h1 : ((-1 : Int) < 0) := by omega
  unfold Builtin.Slice.sliceAdjust
  rcases h with rfl | rfl
  · simp only [h1, if_true]
  · simp only [h1, if_true]
    simp
theorem places_back (hi : Option Int) (n : Nat) (h : hi = none ∨ hi = some 0) : Builtin.Slice.slicePlaces ((n : Int) - 1) (if hi = none then -1 else min 0 ((n : Int) - 1)) (-1) = n - outOf hi := by
  unfold Builtin.Slice.slicePlaces
  rcases h with rfl | rfl
  · simp [outOf]
    omega
  · simp [outOf]
    omega
theorem applied_back {sl : Addr} {vl vu vs : Value} {hi : Option Int} {n : Nat} {Q : Int × Int × Nat → Shared → Prop} (hs : s.heap.IsSliceOf sl vl vu vs) (pl : IsPart vl none) (pu : IsPart vu hi) (ps : IsPart vs (some (-1))) (hh : hi = none ∨ hi = some 0)
    (h : Q ((n : Int) - 1, -1, n - outOf hi) s) : wpAny (model prog w) A (Builtin.Slice.sliceApplied (.ref sl) (pure (n : Int))) Q E s := by
  obtain ⟨ob, at_, _, fields⟩ := id hs
  unfold Builtin.Slice.sliceApplied Builtin.Slice.sliceFields
  refine wpAny_bind (wpAny_bind (wpAny_field at_ fields (x := vl) rfl (wpAny_bind (wpAny_field at_ fields (x := vu) rfl (wpAny_bind (wpAny_field at_ fields (x := vs) rfl (wpAny_pure ?_)))))))
  refine wpAny_bind (slicePart_ ps ?_)
  show wpAny _ _ (if ((-1 : Int) == 0) = true then _ else _) _ _ s
  rw [if_neg (by decide)]
  refine wpAny_bind (slicePart_ pl (wpAny_bind (slicePart_ pu (wpAny_bind (wpAny_pure ?_)))))
  show wpAny _ _ (match Builtin.Slice.sliceAdjust none hi (-1) (n : Int) with | (lo, hi) => pure (lo, (-1 : Int), Builtin.Slice.slicePlaces lo hi (-1))) _ _ s
  rw [adjust_back hi n hh]
  show wpAny _ _ (pure ((n : Int) - 1, (-1 : Int), Builtin.Slice.slicePlaces ((n : Int) - 1) (if hi = none then -1 else min 0 ((n : Int) - 1)) (-1))) _ _ s
  rw [places_back hi n hh]
  exact wpAny_pure h
theorem back_range {α : Type} (l : List α) : ∀ k, k ≤ l.length → (List.range k).filterMap (fun m => l[l.length - 1 - m]?) = (l.drop (l.length - k)).reverse
  | 0, _ => by simp
  | k + 1, h => by
    rw [List.range_succ, List.filterMap_append, back_range l k (by omega)]
    have lt : l.length - 1 - k < l.length := by omega
    have e : l.drop (l.length - (k + 1)) = l[l.length - 1 - k] :: l.drop (l.length - k) := by
      rw [show l.length - (k + 1) = l.length - 1 - k by omega, List.drop_eq_getElem_cons lt, show l.length - 1 - k + 1 = l.length - k by omega]
    rw [e, List.reverse_cons]
    simp [List.getElem?_eq_getElem lt]
theorem fm_congr {α β : Type} {f g : α → Option β} : ∀ {l : List α}, (∀ x ∈ l, f x = g x) → l.filterMap f = l.filterMap g
  | [], _ => rfl
  | a :: l, h => by
    rw [List.filterMap_cons, List.filterMap_cons, h a List.mem_cons_self, fm_congr fun x hx => h x (List.mem_cons_of_mem _ hx)]
theorem pick_back (xs : Array Value) (e : Nat) : ((List.range (xs.size - e)).filterMap fun (m : Nat) => xs[((xs.size : Int) - 1 + (m : Int) * -1).toNat]?).toArray = ((xs.toList.drop e).reverse).toArray := by
  congr 1
  have key := back_range xs.toList (xs.size - e) (by simp)
  rw [Array.length_toList] at key
  have e2 : xs.toList.drop (xs.size - (xs.size - e)) = xs.toList.drop e := by
    rcases Nat.lt_or_ge xs.size e with z | z
    · rw [show xs.size - (xs.size - e) = xs.size by omega, List.drop_eq_nil_of_le (by simp), List.drop_eq_nil_of_le (by simp; omega)]
    · rw [show xs.size - (xs.size - e) = e by omega]
  rw [e2] at key
  rw [← key]
  refine fm_congr fun m hm => ?_
  rw [List.mem_range] at hm
  rw [show ((xs.size : Int) - 1 + (m : Int) * -1).toNat = xs.size - 1 - m by omega]
  simp
theorem getItem_tuple_back {t sl : Addr} {items : Array Value} {vl vu vs : Value} {hi : Option Int} {Q : Value → Shared → Prop} (ht : PyProof.Rows.IsTup s.heap t items) (hs : s.heap.IsSliceOf sl vl vu vs) (pl : IsPart vl none) (pu : IsPart vu hi) (ps : IsPart vs (some (-1))) (hh : hi = none ∨ hi = some 0)
    (h : Q (.ref s.heap.objs.size) { s with heap := s.heap.push { cls := .type "tuple", data := .seq ((items.toList.drop (outOf hi)).reverse).toArray } }) (hsz : items.size ≤ sizeLine) : wpAny (model prog w) A (getItem (.ref t) (.ref sl)) Q E s := by
  have small : sizeOk (.seq ((items.toList.drop (outOf hi)).reverse).toArray) := by
    show ((items.toList.drop (outOf hi)).reverse).toArray.size ≤ sizeLine
    rw [List.size_toArray, List.length_reverse, List.length_drop, Array.length_toList]
    omega
  obtain ⟨ob, at_, kind, _⟩ := id hs
  have isSlice : s.TypeIs (.ref sl) "slice" := ⟨ob, at_, kind⟩
  unfold getItem
  try with_reducible refine wpAny_holding ?_
  first | refine wpAny_bind (wpAny_pure ?_) | skip
  refine wpAny_bind (wpAny_sequenceKey ht.typeIs (by decide) ?_)
  refine wpAny_bind (wpAny_callSpecial?_slot (name := Str.ofString "__getitem__") ht.typeIs PyProof.Rows.slot_tuple_getitem
    (wpAny_call_entry PyProof.Rows.slot_tuple_getitem ht.typeIs PyProof.Rows.entry_tuple_getitem ?_ (PyProof.Rows.args_tuple_getitem _ _)))
  show wpAny _ _ (Builtin.Tuple.tupleItemsOf (.ref t) >>= _) _ _ s
  refine wpAny_bind (PyProof.Rows.tupleItemsOf_ ht ?_)
  refine wpAny_bind (wpAny_typeOf isSlice ?_)
  rw [if_pos (by decide)]
  refine wpAny_bind (applied_back hs pl pu ps hh ?_)
  have no : ¬ ((((items.size : Int) - 1) == 0 && (-1 : Int) == 1 && (items.size - outOf hi) == items.size) = true) := by simp
  show wpAny _ _ (if (((items.size : Int) - 1) == 0 && (-1 : Int) == 1 && (items.size - outOf hi) == items.size) = true then _ else _) _ _ s
  rw [if_neg no, pick_back]
  first
    | exact wpAny_bind (m := Builtin.Tuple.tupleExact _) (wpAny_newObj_type (wpAny_pure ⟨_, rfl, wpAny_pure h⟩) small)
    | exact wpAny_bind (m := Builtin.Tuple.tupleExact _) (wpAny_newObj_type (wpAny_bind (wpAny_pure (wpAny_pure ⟨_, rfl, wpAny_pure h⟩))) small)
    | exact wpAny_bind (wpAny_bind (m := Builtin.Tuple.tupleExact _) (wpAny_newObj_type (wpAny_pure (wpAny_pure ⟨_, rfl, wpAny_pure h⟩)) small))
    | exact wpAny_bind (wpAny_bind (m := Builtin.Tuple.tupleExact _) (wpAny_newObj_type (wpAny_pure ⟨_, rfl, wpAny_pure h⟩) small))
/-! ### the rule -/
def tBack (K : PySem.W.Frag) (te : TE) (hi : Option Int) : TE := fun σ H Q => te σ H fun x H1 => ∃ a xs, x = .ref a ∧ ((SqT K H1 a xs ∧ ∀ p, H1 p = none → Q (.ref p) (upd H1 p (.tup (xs.drop (outOf hi)).reverse))) ∨ (hi = none ∧ SqL K H1 a xs ∧ ∀ p, H1 p = none → Q (.ref p) (upd H1 p (.lst xs.reverse))))
end
section
variable {X : Cx}
theorem pe_back {e : Expr} {te : TE} {up : Option Expr} {hi : Option Int} {k : Nat} {p1 p2 p3 pos : Pos} (hup : (up = none ∧ hi = none) ∨ ∃ k0 p0, up = some (.Constant (.int 0) k0 p0) ∧ hi = some 0) (he : PE X e te) : PE X (.Subscript e (.Slice none up (some (.UnaryOp .USub (.Constant (.int 1) k p1) p2)) p3) pos) (tBack X.K te hi) := by
  refine ⟨fun pins s σ H Q I h => ?_⟩
  refine PyProof.Rows.Subscript_ (thn (he.run pins s σ H _ I h) fun v s1 hv => ?_)
  obtain ⟨x, H1, I1, r1, a, xs, ex, q⟩ := hv
  subst ex
  cases r1
  have stepP : PO X (some (.UnaryOp .USub (.Constant (.int 1) k p1) p2)) (tPart (tUn (rU fun i => .int (-i)) (tC (.int 1)))) := po_some (pe_un un_neg pe_int)
  have upP : ∃ tu, PO X up tu ∧ ∀ (σ : L2.St) (H : Hp) (Q : Option Int → Hp → Prop), Q hi H → tu σ H Q := by
    rcases hup with ⟨rfl, rfl⟩ | ⟨k0, p0, rfl, rfl⟩
    · exact ⟨_, po_none, fun σ H Q q => q⟩
    · exact ⟨_, po_some pe_int, fun σ H Q q => ⟨0, rfl, q⟩⟩
  obtain ⟨tu, upP, upQ⟩ := upP
  have hh : hi = none ∨ hi = some 0 := by
    rcases hup with ⟨_, rfl⟩ | ⟨_, _, _, rfl⟩
    · exact .inl rfl
    · exact .inr rfl
  refine wpAny_Slice (thn (po_none.run pins s1 σ H1 (fun o H2 => o = none ∧ H2 = H1) I1 ⟨rfl, rfl⟩) fun vl s2 hl => ?_)
  obtain ⟨l, H2, I2, pl, rfl, rfl⟩ := hl
  refine thn (upP.run pins s2 σ H2 (fun o H3 => o = hi ∧ H3 = H2) I2 (upQ _ _ _ ⟨rfl, rfl⟩)) fun vu s3 hu => ?_
  obtain ⟨u, H3, I3, pu, rfl, rfl⟩ := hu
  refine thn (stepP.run pins s3 σ H3 (fun o H4 => o = some (-1) ∧ H4 = H3) I3 ⟨1, rfl, -1, rfl, rfl, rfl⟩) fun vs s4 hst => ?_
  obtain ⟨o, H4, I4, ps, rfl, rfl⟩ := hst
  have I5 : Inv X pins σ H4 { s4 with heap := s4.heap.push { cls := .type "slice", data := .fields #[vl, vu, vs] } } := I4.kept (t' := s4.toks) fun b ob q => Heap.get?_push_of_some _ q
  show wpAny (model X.prog X.w) X.A (subscriptTail e (.Slice none up (some (.UnaryOp .USub (.Constant (.int 1) k p1) p2)) p3) (.ref a) (.ref s4.heap.objs.size)) (EP X pins σ Q) X.xe { s4 with heap := s4.heap.push { cls := .type "slice", data := .fields #[vl, vu, vs] } }
  rcases q with ⟨hx, q⟩ | ⟨rfl, hx, q⟩
  · obtain ⟨its, r, ht, hz⟩ := I5.tuple hx
    have hlen := r.length
    refine tail_any (ops := [.ref a, .ref s4.heap.objs.size]) ht.typeIs (PyProof.Rows.slot_tuple_getitem.lookup) ?_ (by with_unfolding_all rfl)
    refine getItem_tuple_back ht (Heap.IsSliceOf.new _ vl vu vs) pl pu ps hh ?_ (by rw [List.size_toArray]; omega)
    refine ⟨.ref _, _, I5.laid (t' := s4.toks) (o := .tup (xs.drop (outOf _)).reverse) (fun b ob q => Heap.get?_push_of_some _ q) (Nat.le_refl _) ?_, rfl, q _ (I5.hok.fresh (Nat.le_refl _))⟩
    exact ⟨by rw [List.length_reverse, List.length_drop]; omega, _, by simpa using (r.drop (outOf _)).reverse, IsTup.new _ _⟩
  · obtain ⟨its, r, ht, hz⟩ := I5.list hx
    have hlen := r.length
    refine tail_any (ops := [.ref a, .ref s4.heap.objs.size]) ht.isList.typeIs (PySem.slot_list_getitem.lookup) ?_ (by with_unfolding_all rfl)
    refine wpAny_getItem_list_slice ht.isList (Heap.IsSliceOf.new _ vl vu vs) pl pu ps (by decide) ?_ (by rw [List.size_toArray]; omega)
    rw [PySem.W.krv_pick]
    refine ⟨.ref _, _, I5.laid (t' := s4.toks) (o := .lst xs.reverse) (fun b ob q => Heap.get?_push_of_some _ q) (Nat.le_refl _) ?_, rfl, q _ (I5.hok.fresh (Nat.le_refl _))⟩
    exact ⟨by rw [List.length_reverse]; exact hz, _, 0, r.reverse, Heap.get?_push_size _ rfl⟩
end
def backD (hi : Option Int) : D → Option D
  | .tuple ds => some (.tuple (ds.drop (outOf hi)).reverse)
  | .list ds => if hi = none then some (.list ds.reverse) else none
  | _ => none
@[simp ↓] theorem backD_tuple (hi : Option Int) (ds : List D) : backD hi (.tuple ds) = some (.tuple (ds.drop (outOf hi)).reverse) := id rfl
@[simp ↓] theorem backD_list (ds : List D) : backD none (.list ds) = some (.list ds.reverse) := id rfl
section
variable {C : DC} {n : Nm} {pos : Pos} {a : Expr} {ma : M D}
theorem de_back {up : Option Expr} {hi : Option Int} {k : Nat} {p1 p2 p3 : Pos} (hup : (up = none ∧ hi = none) ∨ ∃ k0 p0, up = some (.Constant (.int 0) k0 p0) ∧ hi = some 0) (ha : DK C a ma) :
    DE C (.Subscript a (.Slice none up (some (.UnaryOp .USub (.Constant (.int 1) k p1) p2)) p3) pos) (c1 (backD hi) ma) :=
  ⟨PE.imp (pe_back hup ha.pe) fun σ H Q ⟨Hf, G, ρ, rr, h⟩ => post_bind rr h fun x d H1 Hf1 ρ1 s1 r1 rx p1 => (by
    obtain ⟨z, e, q⟩ := opt_post p1
    unfold backD at e
    split at e
    · cases e
      obtain ⟨p, xs, e1, t1, ra⟩ := rpt_tuple rx
      exact ⟨p, xs, e1, .inl ⟨Same.sqT r1.fz t1, new_tup r1 (RpA.rev (RpA.drop _ ra)) q⟩⟩
    · split at e
      · rename_i hn
        cases e
        obtain ⟨p, xs, e1, t1, ra⟩ := rpt_list rx
        exact ⟨p, xs, e1, .inr ⟨hn, t1, new_lst r1 (RpA.rev ra) q⟩⟩
      · cases e
    · cases e), rfl⟩
end
end DS
/-! x.pop() of a list of one's own; slices that are lists of one's own. -/
namespace DS
open PySem L2
def poM (i : Nat) : M D := fun ρ => match ρ[i]? with
  | some (.ml ds) => (match ds[ds.length - 1]? with
    | some d => .ok d (ρ.set i (.ml ds.dropLast))
    | none => .no)
  | _ => .no
@[simp ↓] theorem poM_eq (i : Nat) (ρ : Rho) : poM i ρ = match ρ[i]? with
  | some (.ml ds) => (match ds[ds.length - 1]? with
    | some d => .ok d (ρ.set i (.ml ds.dropLast))
    | none => .no)
  | _ => .no := id rfl
section
variable {C : DC} {n : Nm} {pos : Pos}
theorem de_pop {x : Str} {px ap cp : Pos} (S : Sc C n) (i : Nat) (hi : i ∈ n.vs) (hx : n.N[i]? = some x) (hline : (ap.endLine == cp.line) = true) : DE C (.Call (.Attribute (.Name x px) "pop" ap) [] [] cp) (poM i) :=
  ⟨PE.imp (pe_bm0 PySem.F.plainAttrs_list PySem.F.slot_list_pop PySem.F.type_list_pop mt_pop (pv_ok S i hi hx) rfl hline) fun σ H Q ⟨Hf, G, ρ, rr, h⟩ => by
    unfold poM at h
    cases e : ρ[i]? with
    | none => rw [e] at h; exact h.elim
    | some y =>
      rw [e] at h
      cases y with
      | un => exact h.elim
      | im d => exact h.elim
      | md d => exact h.elim
      | mi c d => exact h.elim
      | ml ds =>
        obtain ⟨q, us, a, b, c, hq, ra⟩ := rr.sl i _ e
        refine ⟨.ref q, a, .inl ⟨rfl, us, SqL.of hq⟩, ?_⟩
        dsimp only at h
        cases ed : ds[ds.length - 1]? with
        | none => rw [ed] at h; exact h.elim
        | some d =>
          rw [ed] at h
          obtain ⟨v, hv, rv⟩ := RpA.get ra ed
          refine ⟨q, us, v, rfl, rfl, hq, by rw [RpA.length ra]; exact hv, ?_⟩
          exact h v _ Hf (Same.refl _) (rr.wr (y := .ml ds.dropLast) e rfl a ⟨q, _, rfl, b, c, upd_same, RpA.dropLast ra⟩) rv, rfl⟩
/-- a part of a list, as a list of one's own -/
def cutF : D → Option Int → Option Int → Option (List D)
  | .list ds, lo, hi => some (cutL ds lo hi)
  | _, _, _ => none
@[simp ↓] theorem cutF_list (ds : List D) (lo hi : Option Int) : cutF (.list ds) lo hi = some (cutL ds lo hi) := id rfl
def slF (i : Nat) (lo hi : M (Option Int)) : M (List D) := bnd (pk i) fun _ => bnd lo fun l => bnd hi fun h => bnd (pk i) fun x => opt (cutF x l h)
@[simp ↓] theorem slF_eq (i : Nat) (lo hi : M (Option Int)) (ρ : Rho) : slF i lo hi ρ = (bnd (pk i) fun _ => bnd lo fun l => bnd hi fun h => bnd (pk i) fun x => opt (cutF x l h)) ρ := id rfl
theorem slf_ok {Hf G : Hp} {σ : St} {H : Hp} {ρ : Rho} {x : V} {a : D} {ds : List D} {lo hi : Option Int} {Q : VK} (rr : RR C.F Hf G σ H ρ) (ra : RpT C.T Hf H a x) (e : cutF a lo hi = some ds) (q : ∀ v H' Hf', Same Hf Hf' → RR C.F Hf' G σ H' ρ → relF C.T Hf' G σ H' ρ v ds → Q v H') : rSl C.X.K x lo hi H Q := by
  unfold cutF at e
  split at e
  · cases e
    obtain ⟨p, xs, e1, s1, r1⟩ := rpt_list ra
    exact .inl ⟨p, xs, e1, s1, new_own rr (cut_rp r1) q⟩
  · cases e
theorem df_slN {x : Str} {p : Pos} {lo hi : Option Expr} {p2 : Pos} {ml mh : M (Option Int)} (S : Sc C n) (i : Nat) (hi' : i ∈ n.vs) (hx : n.N[i]? = some x) (hl : DO C lo ml) (hh : DO C hi mh) : DF C (.Subscript (.Name x p) (.Slice lo hi none p2) pos) (slF i ml mh) :=
  ⟨PE.imp (pe_slice sl_any (pv_ok S i hi' hx) hl.po hh.po) fun σ H Q ⟨Hf, G, ρ, rr, h⟩ => by
    obtain ⟨_, v, hv, _, h⟩ := pk_bind rr h
    refine ⟨v, hv, ?_⟩
    refine post_bind rr h fun l l' H2 Hf2 ρ2 s2 r2 e2 p2 => post_bind r2 p2 fun u u' H3 Hf3 ρ3 s3 r3 e3 p3 => ?_
    subst e2 e3
    obtain ⟨d, v', hv', ra, p4⟩ := pk_bind r3 p3
    rw [hv] at hv'; cases hv'
    obtain ⟨z, e, q⟩ := opt_post p4
    exact slf_ok r3 ra e q, rfl⟩
end
end DS
/-! Dicts that are read as values: they are frozen. -/
namespace DS
open PySem L2
def frD (kvs : List (D × D)) : D := .dict ((.none, .none) :: kvs)
section
variable {T : Wd} {Hf : Hp}
theorem ent_rpe : ∀ {kvs : List (D × D)} {xs : List (NestedKey × Addr × Value)}, EntOk T Hf kvs xs → RpE T Hf kvs xs ∧ ∀ p ∈ kvs, p.1 ≠ .none
  | [], xs, h => ⟨by simp only [RpE]; exact h, fun p hp => (by cases hp)⟩
  | (k, d) :: r, xs, ⟨key, a, val, v, q, e, n, hd, r1, r2, rv, t⟩ => by
    obtain ⟨h1, h2⟩ := ent_rpe t
    have hk : k ≠ .none := fun z => by
      subst z
      have r1 : Rp T Hf .none (.ref a) := r1
      simp only [Rp] at r1
      cases r1
    refine ⟨?_, fun p hp => ?_⟩
    · simp only [RpE, RpQ]
      exact ⟨(key, a, val), q, e, .inr ⟨n, hd, r1, v, r2, rv⟩, h1⟩
    · rcases List.mem_cons.mp hp with rfl | hp
      · exact hk
      · exact h2 p hp
theorem rpe_ent : ∀ {kvs : List (D × D)} {xs : List (NestedKey × Addr × Value)}, RpE T Hf kvs xs → (∀ p ∈ kvs, p.1 ≠ .none) → EntOk T Hf kvs xs
  | [], xs, h, _ => by simp only [RpE] at h; exact h
  | (k, d) :: r, xs, h, hn => by
    simp only [RpE, RpQ] at h
    obtain ⟨e, q, e1, h1, h2⟩ := h
    rcases h1 with h1 | ⟨n, hd, r1, v, r2, rv⟩
    · exact absurd h1 (hn _ List.mem_cons_self)
    · exact ⟨e.1, e.2.1, e.2.2, v, q, e1, n, hd, r1, r2, rv, rpe_ent h2 fun p hp => hn p (List.mem_cons_of_mem _ hp)⟩
theorem rp_frD {p : Addr} {kvs : List (D × D)} {xs : List (NestedKey × Addr × Value)} {ep : Nat} (hs : (p == sysModules) = false) (hH : Hf p = some (dHO T xs ep p)) (nd : (xs.map (·.1)).Nodup) (en : EntOk T Hf kvs xs) : Rp T Hf (frD kvs) (.ref p) := by
  obtain ⟨h1, h2⟩ := ent_rpe en
  unfold frD Rp
  refine ⟨p, rfl, .inr (.inr (.inr ⟨kvs, xs, ep, rfl, h2, hs, hH, nd, ?_⟩))⟩
  simp only [RpE]
  exact ⟨_, _, rfl, by simp only [RpQ]; exact .inl trivial, h1⟩
theorem frD_rp {v : V} {kvs : List (D × D)} (h : Rp T Hf (frD kvs) v) : ∃ p xs ep, v = .ref p ∧ (p == sysModules) = false ∧ Hf p = some (dHO T xs ep p) ∧ (xs.map (·.1)).Nodup ∧ EntOk T Hf kvs xs := by
  unfold frD Rp at h
  obtain ⟨p, e, h⟩ := h
  rcases h with ⟨_, _, _, _, _, z, _⟩ | ⟨_, _, _, z, _⟩ | ⟨z, _⟩ | ⟨r, xs, ep, z, nn, hs, hH, nd, en⟩
  · cases z
  · cases z
  · cases z
  · cases z
    simp only [RpE] at en
    obtain ⟨_, q, e1, _, en⟩ := en
    cases e1
    exact ⟨p, _, ep, e, hs, hH, nd, rpe_ent en nn⟩
end
/-- an own dict is frozen -/
theorem RR.frzD {F : Fx} {Hf G H : Hp} {σ : St} {ρ : Rho} {i : Nat} {kvs : List (D × D)} {p : Addr} {xs : List (NestedKey × Addr × Value)} {ep : Nat} (R : RR F Hf G σ H ρ) (e : ρ[i]? = some (.md kvs)) (hp : σ[i]? = some (some (.ref p))) (n : Hf p = none) (g : G p = none) (hs : (p == sysModules) = false)
    (hH : H p = some (dHO F.T xs ep p)) (nd : (xs.map (·.1)).Nodup) (en : EntOk F.T Hf kvs xs) : RR F (upd Hf p (dHO F.T xs ep p)) G σ H (ρ.set i (.im (frD kvs))) := by
  have sm : Same Hf (upd Hf p (dHO F.T xs ep p)) := Same.updN n
  refine ⟨fun b u q => ?_, R.fg, fun b u q => ?_, by simpa using R.len, fun j x ex => ?_, fun j k x y q hjk ex ey ox oy hx hy => ?_, R.kp, R.tb.fup n (R.ownT e rfl hp)⟩
  · by_cases hb : b = p
    · subst hb; rw [upd_same] at q; rw [hH]; exact q
    · rw [upd_ne hb] at q; exact R.fz b u q
  · have hb : b ≠ p := fun z => by subst z; rw [g] at q; cases q
    rw [upd_ne hb]; exact R.dj b u q
  · rcases get_set_cases ex with ⟨rfl, rfl, _⟩ | ⟨hj, ex⟩
    · exact ⟨.ref p, hp, rp_frD hs upd_same nd (en.mono sm)⟩
    · refine (R.sl j x ex).fz sm fun q ho hq => ?_
      have hb : q ≠ p := fun z => by subst z; exact R.ds j i x _ q hj ex e ho rfl hq hp
      rw [upd_ne hb]; exact (R.own ex ho hq).1
  · rcases get_set_cases ex with ⟨rfl, rfl, _⟩ | ⟨hj, ex⟩
    · cases ox
    · rcases get_set_cases ey with ⟨rfl, rfl, _⟩ | ⟨hk, ey⟩
      · cases oy
      · exact R.ds j k x y q hjk ex ey ox oy hx hy
/-- a dict's name, read as a value -/
def rk (i : Nat) : M D := fun ρ => match ρ[i]? with
  | some (.im d) => .ok d ρ
  | some (.md kvs) => .ok (frD kvs) (ρ.set i (.im (frD kvs)))
  | _ => .no
@[simp ↓] theorem rk_eq (i : Nat) (ρ : Rho) : rk i ρ = match ρ[i]? with
  | some (.im d) => .ok d ρ
  | some (.md kvs) => .ok (frD kvs) (ρ.set i (.im (frD kvs)))
  | _ => .no := id rfl
section
variable {C : DC} {n : Nm} {pos : Pos}
theorem tv_rk {i : Nat} : ∀ σ H Q, Lft C (relE C.T) (rk i) σ H Q → tVar i σ H Q := fun σ H Q ⟨Hf, G, ρ, rr, h⟩ => by
  unfold rk at h
  cases e : ρ[i]? with
  | none => simp only [e] at h; exact h.elim
  | some x =>
    have hs := rr.sl i x e
    cases x with
    | un => simp only [e] at h; exact h.elim
    | im d =>
      simp only [e] at h
      obtain ⟨v, hv, r⟩ := hs
      exact ⟨v, hv, h v H Hf (Same.refl _) rr r⟩
    | ml ds => simp only [e] at h; exact h.elim
    | md kvs =>
      simp only [e] at h
      obtain ⟨p, hp, n, g, hm, xs, ep, hH, nd, en⟩ := hs
      exact ⟨.ref p, hp, h (.ref p) H _ (Same.updN n) (rr.frzD e hp n g hm hH nd en) (rp_frD hm upd_same nd (en.mono (Same.updN n)))⟩
    | mi c fs => simp only [e] at h; exact h.elim
theorem de_varD (S : Sc C n) (i : Nat) {x : Str} (hi : i ∈ n.vs) (hx : n.N[i]? = some x) : DE C (.Name x pos) (rk i) := ⟨PE.imp (pv_ok S i hi hx) tv_rk, rfl⟩
/-- what a dict's name holds -/
def kvAt : Option Sl → Option (List (D × D))
  | some (.md kvs) => some kvs
  | some (.im (.dict ((.none, .none) :: kvs))) => some kvs
  | _ => none
@[simp ↓] theorem kvAt_md (kvs : List (D × D)) : kvAt (some (.md kvs)) = some kvs := id rfl
@[simp ↓] theorem kvAt_fr (kvs : List (D × D)) : kvAt (some (.im (frD kvs))) = some kvs := id rfl
theorem kv_at {F : Fx} {Hf G H : Hp} {σ : St} {ρ : Rho} {i : Nat} {kvs : List (D × D)} (R : RR F Hf G σ H ρ) (e : kvAt ρ[i]? = some kvs) : ∃ p xs ep, σ[i]? = some (some (.ref p)) ∧ (p == sysModules) = false ∧ H p = some (dHO F.T xs ep p) ∧ (xs.map (·.1)).Nodup ∧ EntOk F.T Hf kvs xs := by
  unfold kvAt at e
  split at e
  · rename_i k h
    cases e
    obtain ⟨p, hp, _, _, hs, xs, ep, hH, nd, en⟩ := R.sl i _ h
    exact ⟨p, xs, ep, hp, hs, hH, nd, en⟩
  · rename_i k h
    cases e
    obtain ⟨v, hv, r⟩ := R.sl i _ h
    obtain ⟨p, xs, ep, rfl, hs, hH, nd, en⟩ := frD_rp r
    exact ⟨p, xs, ep, hv, hs, R.fz _ _ hH, nd, en⟩
  · cases e
/-- k in d, k not in d, own or frozen -/
def inAd (neg : Bool) (i : Nat) (m : M D) : M D := bnd m fun d => fun ρ => match kvAt ρ[i]?, tupK d with
  | some kvs, some key => .ok (.bool (if neg then !hasK kvs key else hasK kvs key)) ρ
  | _, _ => .no
@[simp ↓] theorem inAd_eq (neg : Bool) (i : Nat) (m : M D) (ρ : Rho) : inAd neg i m ρ = (bnd m fun d => fun ρ => match kvAt ρ[i]?, tupK d with
  | some kvs, some key => .ok (.bool (if neg then !hasK kvs key else hasK kvs key)) ρ
  | _, _ => .no) ρ := id rfl
variable {a : Expr} {ma : M D}
theorem lft_inA {neg : Bool} {i : Nat} : ∀ σ H Q, Lft C (relE C.T) (inAd neg i ma) σ H Q → tOp (rInK (wdOf C.X C.tb) neg) (Lft C (relE C.T) ma) (tVar i) σ H Q := fun σ H Q ⟨Hf, G, ρ, rr, h⟩ => post_bind rr h fun x d H1 Hf1 ρ1 s1 r1 rx p1 => by
  split at p1
  · rename_i kvs key e ek
    obtain ⟨k1, k2, k3⟩ := tupK_some ek
    obtain ⟨a, rfl⟩ := k3 rx
    obtain ⟨p, xs, ep, hp, hs, hH, nd, en⟩ := kv_at r1 e
    exact ⟨.ref p, hp, Hf1, a, p, d, key, kvs, xs, ep, r1.fz, rfl, rfl, hs, hH, nd, en, k1, k2, rx, p1 _ H1 Hf1 (Same.refl _) r1 (rp_bool _)⟩
  · exact p1.elim
theorem de_inA {x : Str} {p : Pos} (S : Sc C n) (i : Nat) (hi : i ∈ n.vs) (hx : n.N[i]? = some x) (ha : DE C a ma) : DE C (.Compare a [.In] [.Name x p] pos) (inAd false i ma) :=
  ⟨PE.imp (pe_cmpR (op_inK S.rmK) ha.pe (pv_ok S i hi hx) rfl) lft_inA, rfl⟩
theorem de_notInA {x : Str} {p : Pos} (S : Sc C n) (i : Nat) (hi : i ∈ n.vs) (hx : n.N[i]? = some x) (ha : DE C a ma) : DE C (.Compare a [.NotIn] [.Name x p] pos) (inAd true i ma) :=
  ⟨PE.imp (pe_cmpR (op_notInK S.rmK) ha.pe (pv_ok S i hi hx) rfl) lft_inA, rfl⟩
theorem dt_inA {x : Str} {p : Pos} (S : Sc C n) (i : Nat) (hi : i ∈ n.vs) (hx : n.N[i]? = some x) (ha : DE C a ma) : DT C (.Compare a [.In] [.Name x p] pos) (asB (inAd false i ma)) :=
  ⟨PT.imp (pt_cmpR (op_inK S.rmK) ha.pe (pv_ok S i hi hx) rfl) (lft_asB lft_inA)⟩
theorem dt_notInA {x : Str} {p : Pos} (S : Sc C n) (i : Nat) (hi : i ∈ n.vs) (hx : n.N[i]? = some x) (ha : DE C a ma) : DT C (.Compare a [.NotIn] [.Name x p] pos) (asB (inAd true i ma)) :=
  ⟨PT.imp (pt_cmpR (op_notInK S.rmK) ha.pe (pv_ok S i hi hx) rfl) (lft_asB lft_inA)⟩
end
end DS
/-! min(x, key=lambda one: ..). -/
namespace DS
open PySem L2
/-- nothing is tracked -/
def noH : Hp := fun _ => none
/-- a lambda of one parameter, called while nothing is tracked -/
theorem lam_call {P : Program} {w : World} {K : PySem.W.Frag} {mg : Str → Option Value} {base : Heap} {qual x : Str} {params : Arguments} {body : Expr} {scope : Scope} {pm ctv : Value} {f c' : Addr} {n : Nm} {m : M D}
    (S : FnScope n.N [x] scope) (hlv : n.lv = 0) (hmp : n.mp = []) (ck : scB n scope = true) (bno : ∀ x ∈ n.bn, mg x = none) (fs : n.fs ⟨P, w, K, mg, base, []⟩) (hD : ∀ C, Sc C n → LkSc C scope → DE C body m)
    (hbind : ∀ u, bindArgs (PySem.W.kla_fn "<lambda>" qual params body scope [] pm (.ref c') ctv) ⟨[u], []⟩ = pure [(x, u)])
    {A : Around} {outer : List Env} {s : Shared} (hr : Room 1 A) (e0 : Env0 P w K mg base A outer s noH) (hf : s.heap.get? f = some (PySem.W.kla_obj "<lambda>" qual params body scope [] pm c' ctv)) (hc : s.heap.CodeRec (.ref c') qual)
    {d k : D} {v : V} {u : Value} (rv : Rp ⟨P, w, K, mg, base, []⟩ noH d v) (ru : RelV v u) {ρ' : Rho} (hm : m (.im d :: List.replicate (n.N.length - 1) .un) = .ok k ρ') :
    codeAny (model P w) A (.call (.ref f) ⟨[u], []⟩) (CR CX0 outer P w noH s (fun v' H' => ∃ Hf', Same Hf' H' ∧ Rp ⟨P, w, K, mg, base, []⟩ Hf' k v') E0) s := by
  refine PySem.W.kla_callFunE hr.depth hf rfl S.co S.gen rfl hc ?_
  rw [hbind u]
  refine wpAny_pure ?_
  have hkind : ∀ y ∈ [(x, u)], scope.names.lookup y.1 = some .local ∨ (scope.names.lookup y.1 = some .cell ∧ ((cellsFrom (s.heap.objs.size + 1) scope.names []).lookup y.1).isSome = true) := fun y hy => by
    rw [List.mem_singleton.mp hy]
    rcases S.par x List.mem_cons_self with q | q
    · exact .inl q
    · exact .inr ⟨q, PySem.W.cellsFrom_some _ _ _ (.inl q)⟩
  have lim : s.heap.NoLimit := e0.mod.nolimit.keeps fun b o e => (e0.bs b o e).1
  refine wpAny_newFunctionEnv_cells S.kind hkind fun env he s1 xx => ?_
  subst he
  refine ⟨lim.keeps xx.toInCall.keep, PySem.W.kla_codeExpr ?_⟩
  let C : DC := ⟨(cxOf CX0 P w K mg base n.N qual scope f (.ref c') A outer s noH E0).nox, fun _ _ _ _ => False, n.mp, L2.start n.N [v], []⟩
  have I : Inv (cxOf CX0 P w K mg base n.N qual scope f (.ref c') A outer s noH E0) [] (L2.start n.N [v]) noH s1 := inv_start (ps := [x]) (us := [u]) S hr.hd e0 rfl (.cons ru .nil) xx
  have SC : Sc C n := ⟨rfl, S.nd, ck, S.kind, rfl, fun _ _ _ _ _ => rfl, rfl, PassesOwn.never, by rw [hlv]; exact hr.deeper _, bno, fs, takes_none5, fun _ => ⟨rfl, rfl, rfl⟩⟩
  have hpe := (hD C SC (.inl rfl)).pe
  have hN : 1 ≤ n.N.length := by
    have := congrArg List.length S.pre
    simp at this
    omega
  have rr : RR C.F noH noH (L2.start n.N [v]) noH (.im d :: List.replicate (n.N.length - 1) .un) :=
    rr_start (args := [.im d]) (vs := [v]) (Same.refl _) (Same.refl _) (fun b o e => by cases e) (fun p hp => by cases hp) rfl hN (fun i y z hy hz => by
      cases i with
      | zero => simp at hy hz; subst hy hz; exact ⟨⟨v, rfl, rv⟩, fun q => by cases q⟩
      | succ i => simp at hy) (fun i j p y z hij hy hz oy oz => by
      cases i with
      | zero => simp at hy; subst hy; cases oy
      | succ i => simp at hy)
  have hq : Lft C (relE C.T) m (L2.start n.N [v]) noH fun v' H' => ∃ Hf', Same Hf' H' ∧ Rp ⟨P, w, K, mg, base, []⟩ Hf' k v' := ⟨noH, noH, _, rr, by
    rw [hm]
    exact fun v' H' Hf' _ r q => ⟨Hf', r.fz, q⟩⟩
  refine wpAny_mono ((PE.nox hpe).run [] s1 _ noH _ I hq) (fun v' s' hs => ?_) fun e s' hs => hs
  obtain ⟨y, H', J, ry, q⟩ := hs
  exact ⟨y, H', J.os, J.bare, J.base, J.hok, ry, q⟩
/-- the parts of a state that stand: all but the frames' slots -/
def Stands (fr : List Addr) (s s' : Shared) : Prop := s'.os = s.os ∧ PyProof.Rows.AllBare s'.gens ∧ (∀ b o, s.heap.get? b = some o → b ∉ fr → s'.heap.get? b = some o) ∧ ∀ b o, s.heap.get? b = some o → b ∈ fr → ∃ sl, s'.heap.get? b = some { o with slots := sl }
section
variable {prog : Program} {w : World} {A : Around} {E : Value → Shared → Prop} {s : Shared}
open PySem.W in
/-- min of a list by a key that leaves all as it is -/
theorem min_key_list {l f : Addr} {vs : Array Value} {x : PyData} {xs : List PyData} {fr : List Addr} {Q : Value → Shared → Prop} (hh : A.handled = none) (hl : s.heap.IsList l vs) (hn : vs.size = xs.length + 1) (ha : AlikeAll (x :: xs)) (hu : A.units + 1 + PyData.depthAll (x :: xs) < cLine)
    (hbare : PyProof.Rows.AllBare s.gens) (hlf : l ∉ fr) (hfr : ∀ b ∈ fr, b < s.heap.objs.size)
    (hk : ∀ (i : Nat) (v : Value) (s1 : Shared) (E' : Value → Shared → Prop) (R : Value → Shared → Prop), vs[i]? = some v → Stands fr s s1 → s.heap.objs.size ≤ s1.heap.objs.size → (∀ k s2, Stands fr s1 s2 → (∃ (h0 : Heap) (as : List Addr), (∀ b o, h0.get? b = some o → s2.heap.get? b = some o ∧ b ∉ fr ∧ (s1.heap.get? b = none ∨ ∃ o', s.heap.get? b = some o')) ∧ Reads h0 k ((x :: xs).getD i .none) as) → R k s2) → wpAny (model prog w) A.in1 (call (.ref f) [v]) R E' s1)
    (h : ∀ (i : Nat) v s', vs[i]? = some v → i = argBest (fun i j => dataLt ((x :: xs).getD i .none) ((x :: xs).getD j .none)) xs.length → Stands fr s s' → Q v s') :
    wpAny (model prog w) A (call (.builtin "min") [.ref l] [(Str.ofString "key", .ref f)]) Q E s := by
  obtain ⟨ol, hol, hol2⟩ := hl
  have hl : s.heap.IsList l vs := ⟨ol, hol, hol2⟩
  refine call_min_walkK (iter_listW (A := A.in1) hh hl fun s₂ e W st hfp hw hk2 => ?_)
  have hsz : s₂.heap.objs.size = s.heap.objs.size + 1 := by subst e; exact Heap.size_push _ _
  have oldS : ∀ b o, s.heap.get? b = some o → b ≠ s.heap.objs.size ∧ b ≠ s₂.heap.objs.size := fun b o hb => by
    have lt := Heap.lt_size hb
    exact ⟨Nat.ne_of_lt lt, Nat.ne_of_lt (by rw [hsz]; exact Nat.lt_succ_of_lt lt)⟩
  have frS : ∀ b ∈ fr, b ≠ s.heap.objs.size ∧ b ≠ s₂.heap.objs.size := fun b hb => by
    have lt := hfr b hb
    exact ⟨Nat.ne_of_lt lt, Nat.ne_of_lt (by rw [hsz]; exact Nat.lt_succ_of_lt lt)⟩
  have K : KeyRun prog w A.in1 (.ref f) .Lt s₂.heap.objs.size [s.heap.objs.size] (fun a b => b = a) vs.size (fun i v => vs[i]? = some v) (fun i s' => s'.heap.IsListIter s.heap.objs.size l i ∧ s'.heap.IsList l vs) (Stands fr s)
      (fun i k s' => i < xs.length + 1 ∧ ∃ (h0 : Heap) (as : List Addr), (∀ b o, h0.get? b = some o → s'.heap.get? b = some o ∧ b ∉ fr ∧ b ≠ s.heap.objs.size ∧ b ≠ s₂.heap.objs.size) ∧ Reads h0 k ((x :: xs).getD i .none) as)
      (fun i j => dataLt ((x :: xs).getD i .none) ((x :: xs).getD j .none)) := by
    refine ⟨fun s1 s2 hJ m => ?_, fun i k s1 s2 hV m => ?_, fun i v s1 o R E' hi hP hJ hSt hS hQ => ?_, fun i j ki kj s1 R E' hJ hi hj hq => ?_⟩
    · obtain ⟨j1, j2, j3, j4⟩ := hJ
      have hg : s2.gens = s1.gens := m.gens
      have nn : ∀ b o, s.heap.get? b = some o → b ∉ s₂.heap.objs.size :: [s.heap.objs.size] := fun b o hb z => by
        rcases List.mem_cons.mp z with z | z
        · exact (oldS b o hb).2 z
        · exact (oldS b o hb).1 (List.mem_singleton.mp z)
      refine ⟨m.os.trans j1, by rw [hg]; exact j2, fun b o hb hf => m.heap b o (nn b o hb) (j3 b o hb hf), fun b o hb hf => ?_⟩
      obtain ⟨sl, q⟩ := j4 b o hb hf
      exact ⟨sl, m.heap b _ (nn b o hb) q⟩
    · obtain ⟨hi, h0, as, hb, hr⟩ := hV
      refine ⟨hi, h0, as, fun b o ho => ?_, hr⟩
      obtain ⟨a1, a2, a3, a4⟩ := hb b o ho
      refine ⟨m.heap b o (fun z => ?_) a1, a2, a3, a4⟩
      rcases List.mem_cons.mp z with z | z
      · exact a4 z
      · exact a3 (List.mem_singleton.mp z)
    · refine hk i v s1 E' R hP hJ (by obtain ⟨⟨oi, q1, _⟩, _⟩ := hSt; exact Nat.le_of_lt (Heap.lt_size q1)) fun k s2 st2 ⟨h0, as, hb, hr⟩ => ?_
      obtain ⟨t1, t2, t3, t4⟩ := st2
      obtain ⟨j1, j2, j3, j4⟩ := hJ
      have i0 : s.heap.objs.size ∉ fr := fun z => (frS _ z).1 rfl
      have i1 : s₂.heap.objs.size ∉ fr := fun z => (frS _ z).2 rfl
      obtain ⟨⟨oi, q1, q2⟩, ⟨ol', p1, p2⟩⟩ := hSt
      have none0 : s.heap.get? s.heap.objs.size = none := by
        cases z : s.heap.get? s.heap.objs.size with
        | none => rfl
        | some o => exact absurd rfl (oldS _ o z).1
      have none1 : s.heap.get? s₂.heap.objs.size = none := by
        cases z : s.heap.get? s₂.heap.objs.size with
        | none => rfl
        | some o => exact absurd rfl (oldS _ o z).2
      refine hQ k s2 ⟨t1.trans j1, t2, fun b o hb hf => t3 b o (j3 b o hb hf) hf, fun b o hb hf => ?_⟩ ⟨⟨oi, t3 _ _ q1 i0, q2⟩, ⟨ol', t3 _ _ p1 hlf, p2⟩⟩ (t3 _ _ hS i1) ⟨by omega, h0, as, fun b o ho => ?_, hr⟩ fun j k' hV => ?_
      · obtain ⟨sl, q⟩ := j4 b o hb hf
        obtain ⟨sl', q'⟩ := t4 b _ q hf
        exact ⟨sl', q'⟩
      · obtain ⟨a1, a2, a3⟩ := hb b o ho
        refine ⟨a1, a2, fun z => ?_, fun z => ?_⟩
        · rcases a3 with a3 | ⟨o', a3⟩
          · rw [z, q1] at a3; cases a3
          · rw [z, none0] at a3; cases a3
        · rcases a3 with a3 | ⟨o', a3⟩
          · rw [z, hS] at a3; cases a3
          · rw [z, none1] at a3; cases a3
      · obtain ⟨hj, g0, bs, gb, gr⟩ := hV
        refine ⟨hj, g0, bs, fun b o ho => ?_, gr⟩
        obtain ⟨a1, a2, a3, a4⟩ := gb b o ho
        exact ⟨t3 b o a1 a2, a2, a3, a4⟩
    · obtain ⟨li, h1, as1, b1, r1⟩ := hi
      obtain ⟨lj, h2, as2, b2, r2⟩ := hj
      have mem : ∀ i, i < xs.length + 1 → (x :: xs).getD i .none ∈ x :: xs := fun i hi => by
        rw [List.getD_eq_getElem?_getD, List.getElem?_eq_getElem (by simpa using hi)]
        exact List.getElem_mem _
      refine rcLt_alike _ _ A.in1 s1 ki kj _ _ (reads_keeps (fun b o ho => (b1 b o ho).1) r1) (reads_keeps (fun b o ho => (b2 b o ho).1) r2) (ha.1 _ (mem i li) _ (mem j lj)) (ha.2 _ (mem i li)) ?_ prog w E' R hq
      have d1 : ∀ (l : List PyData) d, d ∈ l → d.depth ≤ PyData.depthAll l := fun l => by
        induction l with
        | nil => intro d hd; cases hd
        | cons a l ih =>
          intro d hd
          have e : PyData.depthAll (a :: l) = max a.depth (PyData.depthAll l) := rfl
          rw [e]
          rcases List.mem_cons.mp hd with rfl | hd
          · omega
          · have := ih d hd; omega
      have := d1 _ _ (mem i li)
      have := Nat.min_le_left ((x :: xs).getD i .none).depth ((x :: xs).getD j .none).depth
      have hu' : A.in1.units = A.units + 1 := rfl
      omega
  have J2 : Stands fr s s₂ := by
    subst e
    exact ⟨rfl, hbare, fun b o hb _ => Heap.get?_push_of_some _ hb, fun b o hb _ => ⟨o.slots, Heap.get?_push_of_some _ hb⟩⟩
  refine ⟨_, _, _, _, _, _, _, _, _, _, rfl, W, st, hfp, by omega, K, J2, fun v s' hP hJ => ?_⟩
  have e1 : vs.size - 1 = xs.length := by omega
  rw [e1] at hP
  exact h _ v s' hP rfl hJ
end
/-! ### data of tuples alone -/
mutual
def pureD : D → Bool
  | .none => true
  | .bool _ => true
  | .int _ => true
  | .str _ => true
  | .tuple ds => pureA ds
  | _ => false
def pureA : List D → Bool
  | [] => true
  | d :: ds => pureD d && pureA ds
end
/-- all of a heap, as a fragment -/
def allK (h : Heap) : PySem.W.Frag := (List.range h.objs.size).filterMap fun b => (h.get? b).map fun o => (b, o)
theorem allK_lookup (h : Heap) (a : Addr) : (allK h).lookup a = h.get? a := by
  have key : ∀ l : List Nat, ((l.filterMap fun b => (h.get? b).map fun o => (b, o)) : List (Addr × Obj)).lookup a = if a ∈ l then h.get? a else none := fun l => by
    induction l with
    | nil => simp
    | cons b l ih =>
      rw [List.filterMap_cons]
      cases e : h.get? b with
      | none =>
        simp only [Option.map_none]
        rw [ih]
        by_cases c : a = b
        · subst c; simp [e]
        · simp [c]
      | some o =>
        simp only [Option.map_some, List.lookup_cons]
        by_cases c : a = b
        · subst c; simp [e]
        · have : (a == b) = false := by simpa using c
          rw [this, ih]
          simp [c]
  unfold allK
  rw [key]
  cases e : h.get? a with
  | none => simp
  | some o => rw [if_pos (List.mem_range.mpr (Heap.lt_size e))]
theorem allK_in (h : Heap) : (allK h).In h := fun a o e => by rw [allK_lookup] at e; exact e
section
variable {X : Cx} {pins : List (Addr × Obj)} {σ : St} {H Hf : Hp} {s : Shared} {T T' : Wd} {g : Heap}
mutual
/-- data of tuples stands in the fragment of all that is seen -/
theorem pure_all (I : Inv X pins σ H s) (hK : T.K = X.K) (sm : Same Hf H) (hT : T'.K = allK g) (hg : ∀ a o, s.heap.get? a = some o → (∃ xs, SqT X.K H a xs) → g.get? a = some o) : ∀ (d : D) (v : V), pureD d = true → Rp T Hf d v → Rp T' noH d v
  | .none, v, _, h => by simp only [Rp] at h ⊢; exact h
  | .bool b, v, _, h => by simp only [Rp] at h ⊢; exact h
  | .int i, v, _, h => by simp only [Rp] at h ⊢; exact h
  | .str x, v, _, h => by simp only [Rp] at h ⊢; exact h
  | .tuple ds, v, hp, h => by
    simp only [Rp] at h ⊢
    obtain ⟨a, xs, e, q, r⟩ := h
    have q' : SqT X.K H a xs := by rw [← hK]; exact Same.sqT sm q
    obtain ⟨its, rv, ⟨o, ho, hc, n, hd⟩, hz⟩ := I.tuple q'
    refine ⟨a, xs, e, .inr ⟨o, its.toArray, n, ?_, hc, hd, by have := rv.length; simp; omega, by simpa using rv⟩, pure_allA I hK sm hT hg ds xs (by simpa only [pureD] using hp) r⟩
    rw [hT, allK_lookup]
    exact hg a o ho ⟨xs, q'⟩
  | .list ds, v, hp, _ => by simp only [pureD] at hp; cases hp
  | .dict kvs, v, hp, _ => by simp only [pureD] at hp; cases hp
theorem pure_allA (I : Inv X pins σ H s) (hK : T.K = X.K) (sm : Same Hf H) (hT : T'.K = allK g) (hg : ∀ a o, s.heap.get? a = some o → (∃ xs, SqT X.K H a xs) → g.get? a = some o) : ∀ (ds : List D) (vs : List V), pureA ds = true → RpA T Hf ds vs → RpA T' noH ds vs
  | [], vs, _, h => by simp only [RpA] at h ⊢; exact h
  | d :: ds, vs, hp, h => by
    simp only [RpA] at h ⊢
    simp only [pureA, Bool.and_eq_true] at hp
    obtain ⟨v, r, e, q, z⟩ := h
    exact ⟨v, r, e, pure_all I hK sm hT hg d v hp.1 q, pure_allA I hK sm hT hg ds r hp.2 z⟩
end
end
section
variable {X : Cx} {pins : List (Addr × Obj)} {σ : St} {H : Hp} {s s1 : Shared}
/-- all but the frames -/
abbrev seen (X : Cx) (s : Shared) : Heap := PySem.W.hideAll s.heap (frs X.stack)
theorem env_all (I : Inv X pins σ H s) (st : Stands (frs X.stack) s s1) (hz : s.heap.objs.size ≤ s1.heap.objs.size) : Env0 X.prog X.w (allK (seen X s)) X.mg (seen X s) X.A.in1 X.stack s1 noH := by
  have up : ∀ b o, X.base.get? b = some o → (seen X s).get? b = some o := fun b o e => PySem.W.hideAll_get _ (I.bk b o e) fun hm => by
    obtain ⟨z, _⟩ := I.stack.mem hm
    rw [e] at z; cases z
  have e0 := I.env0
  refine ⟨e0.frames, ⟨allK_in _, e0.mod.glob.keeps up, ?_, e0.mod.nolimit.keeps up⟩, fun b o e => ?_, by rw [PySem.W.hideAll_size]; exact hz, ?_, fun b _ => rfl, (fun a o e => by cases e), st.2.1⟩
  · obtain ⟨mb, h1, h2⟩ := e0.mod.blt
    exact ⟨mb, h1.keeps up, h2⟩
  · refine ⟨st.2.2.1 b o (PySem.W.of_hideAll _ e) fun hm => ?_, rfl⟩
    have := PySem.W.hideAll_none (frs X.stack) (h := s.heap) hm
    rw [e] at this; cases this
  · have h1 : s.heap.FunFrames (seen X s) X.stack := PySem.W.funFrames_hide I.stack fun env he a ha => List.mem_filterMap.mpr ⟨env, he, ha⟩
    refine h1.of_keeps fun b o e _ => ?_
    by_cases hb : b ∈ frs X.stack
    · obtain ⟨sl, q⟩ := st.2.2.2 b o e hb
      exact ⟨_, q, rfl⟩
    · exact ⟨o, st.2.2.1 b o e hb, rfl⟩
end
section
variable {P : Program} {w : World} {H' Hf' : Hp} {h g h0 : Heap} {T' : Wd}
mutual
/-- what a key tells is read -/
theorem key_reads (hok : HOk P w H' h) (sm : Same Hf' H') (hT : T'.K = allK g) (h1 : ∀ a o, h.get? a = some o → H' a ≠ none → h0.get? a = some o) (h2 : ∀ a o, g.get? a = some o → h0.get? a = some o) :
    ∀ (d : D) (v : V) (u : Value), pureD d = true → Rp T' Hf' d v → RelV v u → ∃ as, Reads h0 u d as
  | .none, v, u, _, r, e => by simp only [Rp] at r; subst r; cases e; exact ⟨_, Reads.none⟩
  | .bool b, v, u, _, r, e => by simp only [Rp] at r; subst r; cases e; exact ⟨_, Reads.bool b⟩
  | .int i, v, u, _, r, e => by simp only [Rp] at r; subst r; obtain ⟨t, rfl⟩ := e; exact ⟨_, Reads.int i t⟩
  | .str x, v, u, _, r, e => by simp only [Rp] at r; obtain ⟨r, _⟩ := r; subst r; obtain ⟨t, rfl⟩ := e; exact ⟨_, Reads.str x t⟩
  | .tuple ds, v, u, hp, r, e => by
    simp only [Rp] at r
    obtain ⟨a, xs, ev, q, r⟩ := r
    subst ev
    cases e
    have hp : pureA ds = true := by simpa only [pureD] using hp
    rcases q with q | ⟨o, its, n, hl, hc, hd, _, rv⟩
    · have q' : Rd H' a (.tup xs) := by
        rcases q with q | ⟨o, q⟩
        · exact .inl (sm _ _ q)
        · exact .inr ⟨o, sm _ _ q⟩
      obtain ⟨z, its, rv, ⟨o, ho, hc, n, hd⟩⟩ := q'.ok hok
      have hne : H' a ≠ none := by
        rcases q' with q | ⟨o, q⟩ <;> rw [q] <;> exact fun z => by cases z
      obtain ⟨as, hr⟩ := key_readsA hok sm hT h1 h2 ds xs its hp r rv
      exact ⟨_, Reads.tuple (h1 a o ho hne) hc hd hr⟩
    · rw [hT, allK_lookup] at hl
      obtain ⟨as, hr⟩ := key_readsA hok sm hT h1 h2 ds xs its.toList hp r rv
      exact ⟨_, Reads.tuple (h2 a o hl) hc hd hr⟩
  | .list ds, v, u, hp, _, _ => by simp only [pureD] at hp; cases hp
  | .dict kvs, v, u, hp, _, _ => by simp only [pureD] at hp; cases hp
theorem key_readsA (hok : HOk P w H' h) (sm : Same Hf' H') (hT : T'.K = allK g) (h1 : ∀ a o, h.get? a = some o → H' a ≠ none → h0.get? a = some o) (h2 : ∀ a o, g.get? a = some o → h0.get? a = some o) :
    ∀ (ds : List D) (vs : List V) (us : List Value), pureA ds = true → RpA T' Hf' ds vs → Vals vs us → ∃ as, ReadsAll h0 us ds as
  | [], vs, us, _, r, e => by
    simp only [RpA] at r
    subst r
    cases e
    exact ⟨_, ReadsAll.nil⟩
  | d :: ds, vs, us, hp, r, e => by
    simp only [RpA] at r
    simp only [pureA, Bool.and_eq_true] at hp
    obtain ⟨v, q, ev, r1, r2⟩ := r
    subst ev
    cases e with
    | cons e1 e2 =>
      obtain ⟨as, q1⟩ := key_reads hok sm hT h1 h2 d v _ hp.1 r1 e1
      obtain ⟨bs, q2⟩ := key_readsA hok sm hT h1 h2 ds q _ hp.2 r2 e2
      exact ⟨_, ReadsAll.cons q1 q2⟩
end
end
section
variable {X : Cx} {pins : List (Addr × Obj)} {σ : St} {H Hf : Hp} {s s1 : Shared} {T : Wd}
open Classical in
theorem key_run {qual x : Str} {params : Arguments} {body : Expr} {scope : Scope} {pm ctv : Value} {f c' : Addr} {n : Nm} {m : M D} (I : Inv X pins σ H s) (hK : T.K = X.K) (sm : Same Hf H)
    (S : FnScope n.N [x] scope) (hlv : n.lv = 0) (hmp : n.mp = []) (ck : scB n scope = true) (bno : ∀ x ∈ n.bn, X.mg x = none) (fs : ∀ T, n.fs T) (hD : ∀ C, Sc C n → LkSc C scope → DE C body m)
    (hbind : ∀ u, bindArgs (PySem.W.kla_fn "<lambda>" qual params body scope [] pm (.ref c') ctv) ⟨[u], []⟩ = pure [(x, u)])
    (hr : Room 2 X.A) (hf : s.heap.get? f = some (PySem.W.kla_obj "<lambda>" qual params body scope [] pm c' ctv)) (hff : f ∉ frs X.stack) (hc : s.heap.CodeRec (.ref c') qual) (hcf : c' ∉ frs X.stack)
    {d k : D} {v : V} {u : Value} (rv : Rp T Hf d v) (hd : pureD d = true) (ru : RelV v u) {ρ' : Rho} (hm : m (.im d :: List.replicate (n.N.length - 1) .un) = .ok k ρ') (hk : pureD k = true)
    (st : Stands (frs X.stack) s s1) (hz : s.heap.objs.size ≤ s1.heap.objs.size) {R E' : Value → Shared → Prop}
    (hR : ∀ ku s2, Stands (frs X.stack) s1 s2 → (∃ (h0 : Heap) (as : List Addr), (∀ b o, h0.get? b = some o → s2.heap.get? b = some o ∧ b ∉ frs X.stack ∧ (s1.heap.get? b = none ∨ ∃ o', s.heap.get? b = some o')) ∧ Reads h0 ku k as) → R ku s2) :
    wpAny (model X.prog X.w) X.A.in1 (call (.ref f) [u]) R E' s1 := by
  have e0 := env_all I st hz
  have hc1 : s1.heap.CodeRec (.ref c') qual := by
    obtain ⟨c, oc, vs, t, e, q1, q2⟩ := hc
    cases e
    exact ⟨c', oc, vs, t, rfl, st.2.2.1 _ _ q1 hcf, q2⟩
  have rv' : Rp ⟨X.prog, X.w, allK (seen X s), X.mg, seen X s, []⟩ noH d v := pure_all I hK sm rfl (fun a o ho ⟨xs, q⟩ => PySem.W.hideAll_get _ ho fun hm => by
    rcases q with q | ⟨o', its, n', hl, _⟩
    · have := I.stkFree a hm
      rcases q with q | ⟨o'', q⟩ <;> rw [q] at this <;> cases this
    · obtain ⟨z, _⟩ := I.stack.mem hm
      have := I.ok.mod.kin a o' hl
      rw [z] at this; cases this) d v hd rv
  refine wpAny_call (codeAny_mono (lam_call S hlv hmp ck bno (fs _) hD hbind hr.in1 e0 (st.2.2.1 _ _ hf hff) hc1 rv' ru hm) fun r s2 hq => ?_)
  cases r with
  | error e => exact (show False from hq).elim
  | ok fl =>
    cases fl with
    | next => exact False.elim hq
    | brk => exact False.elim hq
    | cont => exact False.elim hq
    | ret ku =>
      obtain ⟨v', H', os, bare, un, hok, r', Hf', sm', rk⟩ := hq
      have std : Stands (frs X.stack) s1 s2 := ⟨os, bare, fun b o hb hn => un.keep b o hb rfl hn (by simp), fun b o hb hn => un.slot b o hb rfl hn (by simp)⟩
      refine hR ku s2 std ?_
      obtain ⟨G, g1, g2⟩ := restrict s2.heap fun b => decide (b ∉ frs X.stack ∧ (s1.heap.get? b = none ∨ ∃ o', s.heap.get? b = some o'))
      have free : ∀ a, H' a ≠ none → s1.heap.get? a = none := fun a ha => by
        cases z : s1.heap.get? a with
        | none => rfl
        | some o => exact absurd (un.free a o z rfl (by simp)) ha
      obtain ⟨as, hr⟩ := key_reads (h0 := G) (g := seen X s) hok sm' rfl (fun a o ho hn => by
        rw [g1 a (decide_eq_true ⟨fun hm => ?_, .inl (free a hn)⟩)]; exact ho
        obtain ⟨_, o', z, _⟩ := e0.funs.mem hm
        rw [free a hn] at z; cases z) (fun a o ho => by
        have hn : a ∉ frs X.stack := fun hm => by
          have := PySem.W.hideAll_none (frs X.stack) (h := s.heap) hm
          rw [ho] at this; cases this
        have hs := PySem.W.of_hideAll _ ho
        rw [g1 a (decide_eq_true ⟨hn, .inr ⟨o, hs⟩⟩)]
        exact std.2.2.1 a o (st.2.2.1 a o hs hn) hn) k v' ku hk rk r'
      refine ⟨G, as, fun b o hb => ?_, hr⟩
      by_cases c : b ∉ frs X.stack ∧ (s1.heap.get? b = none ∨ ∃ o', s.heap.get? b = some o')
      · rw [g1 b (decide_eq_true c)] at hb
        exact ⟨hb, c.1, c.2⟩
      · rw [g2 b (decide_eq_false c)] at hb; cases hb
end
/-! ### the lambda is made -/
open LamX in
theorem RR.tabUp {F : Fx} {Hf G H : Hp} {σ : St} {ρ : Rho} (R : RR F Hf G σ H ρ) {P c : Addr} {q : Str} {ps : Array Value} {pos : Pos} (hu : ∀ p ∈ F.T.tb, p.1 = P → p.2 = q) (hm : (P, q) ∈ F.T.tb) (hP : H P = some (.tbl ps)) (ht : TriplesOk ps.toList) (hc : H c = none) :
    RR F (upd Hf c (CodeO c q)) G σ (upd (upd H P (.tbl (ps ++ #[rawInt pos.line, rawInt pos.col, .ref c]))) c (CodeO c q)) ρ := by
  have R1 := R.new (o := CodeO c q) hc
  have nPc : P ≠ c := ne_of_none hP hc
  have at_ : ∀ b, b ≠ P → upd (upd H P (.tbl (ps ++ #[rawInt pos.line, rawInt pos.col, .ref c]))) c (CodeO c q) b = upd H c (CodeO c q) b := fun b hb => by
    by_cases hbc : b = c
    · rw [hbc, upd_same, upd_same]
    · rw [upd_ne hbc, upd_ne hb, upd_ne hbc]
  have atP : upd (upd H P (.tbl (ps ++ #[rawInt pos.line, rawInt pos.col, .ref c]))) c (CodeO c q) P = some (.tbl (ps ++ #[rawInt pos.line, rawInt pos.col, .ref c])) := by rw [upd_ne nPc, upd_same]
  obtain ⟨f0, g0, _⟩ := R1.tb _ hm
  have eL : (ps ++ #[rawInt pos.line, rawInt pos.col, .ref c]).toList = ps.toList ++ [rawInt pos.line, rawInt pos.col, .ref c] := by simp
  refine ⟨fun b u e => ?_, fun b u e => ?_, R1.dj, R1.len, fun i x e => (R1.sl i x e).at fun p u ho hp hu' => ?_, R1.ds, R1.kp, fun p hp => ?_⟩
  · rw [at_ b fun z => by rw [z, f0] at e; cases e]
    exact R1.fz b u e
  · rw [at_ b fun z => by rw [z, g0] at e; cases e]
    exact R1.fg b u e
  · rw [at_ p fun z => R1.ownT e ho hp _ hm z.symm]
    exact hu'
  · obtain ⟨a1, a2, ps', a3, a4, a5⟩ := R1.tb p hp
    by_cases hb : p.1 = P
    · refine ⟨a1, a2, _, by rw [hb]; exact atP, by rw [eL]; exact PySem.TriplesOk_snoc _ _ _ _ ht, fun p' cv hcv => ?_⟩
      rw [eL] at hcv
      rw [hu p hp hb]
      rcases among_app _ ht hcv with z | z
      · have e2 : ps' = ps := by
          rw [hb, upd_ne nPc, hP] at a3
          cases a3; rfl
        rw [e2, hu p hp hb] at a5
        exact a5 p' cv z
      · exact ⟨c, z, upd_same⟩
    · exact ⟨a1, a2, ps', by rw [at_ _ hb]; exact a3, a4, a5⟩
section
variable {X : Cx} {pins : List (Addr × Obj)} {F : Fx} {Hf G H : Hp} {σ : St} {ρ : Rho} {s : Shared}
open LamX in
theorem lam_mk {c P : Addr} {params : Arguments} {body : Expr} {scope : Scope} {pos : Pos} {E Q : Value → Shared → Prop} (I : Inv X pins σ H s) (rr : RR F Hf G σ H ρ) (TB : TabB X.base X.mg c P) (hcode : X.env.code = .ref c)
    (hm : (P, X.env.qual ++ "<lambda>") ∈ F.T.tb) (hu : ∀ p ∈ F.T.tb, p.1 = P → p.2 = X.env.qual ++ "<lambda>") (hdef : defaultsOf params X.env = ([], [])) (hfree : ∀ y ∈ scope.names, y.2 ≠ .free)
    (h : ∀ (f c' : Addr) (pm ctv : Value) (H1 Hf1 : Hp) (s' : Shared), Inv X pins σ H1 s' → Same Hf Hf1 → RR F Hf1 G σ H1 ρ → (∀ b o, H b = some o → (∀ ps, o ≠ .tbl ps) → H1 b = some o) →
      s'.heap.get? f = some (PySem.W.kla_obj "<lambda>" (X.env.qual ++ "<lambda>") params body scope (cloFrom X.env.cells scope.names []) pm c' ctv) → f ∉ frs X.stack → H1 c' = some (CodeO c' (X.env.qual ++ "<lambda>")) → Q (.ref f) s') :
    wpAny (model X.prog X.w) X.A (eval (.Lambda params body scope pos) X.env) Q E s := by
  obtain ⟨hf0, hg0, ps, hP, ht, ha⟩ := rr.tb _ hm
  refine PySem.W.kla_eval hdef ?_
  have bP : s.heap.BuiltinsAt X.mg P := TB.bm.keeps I.bk
  have hP' : s.heap.get? P = some { cls := .none, data := .fields ps } := I.hok P _ hP
  have hfr : ∀ y ∈ scope.names, y.2 = .free → ∃ c, X.env.cells.lookup y.1 = some c := fun y hy e => absurd e (hfree y hy)
  have nofr : ∀ f, s.heap.objs.size ≤ f → f ∉ frs X.stack := fun f hf z => by
    rcases List.mem_cons.mp (I.stkSub _ z) with e | e
    · have h1 := I.lt
      rw [← e] at h1
      exact Nat.lt_irrefl _ (Nat.lt_of_lt_of_le h1 hf)
    · exact I.nofs hf e
  cases hc : codeAmong pos ps.toList with
  | none =>
    refine PySem.W.kla_makeFunction (mg := X.mg) (c := c) (P := P) (ps := ps) (closure_ok hfr) I.ok.glob (I.mod.glob.keeps I.bk) hcode (TB.code.keeps I.bk) hP' ht hc TB.gP bP fun c' ctv h' tk hx hge hlt hrec htb => ?_
    obtain ⟨c2, oc, vs, t, e2, hoc, hd, hv⟩ := hrec
    cases e2
    have hsz : s.heap.objs.size ≤ h'.objs.size := Nat.le_trans hge (Nat.le_of_lt hlt)
    have nC : H c' = none := I.hok.fresh hge
    have I1 := inv_table (t' := tk) (more := #[rawInt pos.line, rawInt pos.col, .ref c']) (h' := h'.push (PySem.W.kla_obj "<lambda>" (X.env.qual ++ "<lambda>") params body scope (cloFrom X.env.cells scope.names []) ((X.mg "__name__").getD .none) c' ctv)) I hP
      (fun b o hb e => Heap.get?_push_of_some _ (hx b o hb e)) (Heap.get?_push_of_some _ htb) hge ⟨oc, vs, t, Heap.get?_push_of_some _ hoc, hd, hv⟩
    refine h h'.objs.size c' ((X.mg "__name__").getD .none) ctv _ _ _ I1 (Same.updN (rr.fz.free nC)) (rr.tabUp (pos := pos) hu hm hP ht nC) (fun b o e n => ?_) (Heap.get?_push_size _ rfl) (nofr _ hsz) upd_same
    rw [upd_ne (ne_of_none e nC), upd_ne (fun z => n ps (Option.some.inj (e.symm.trans (by rw [z]; exact hP))))]
    exact e
  | some cv =>
    obtain ⟨c', e, hco⟩ := ha pos cv hc
    subst e
    refine PySem.W.kla_makeFunctionHit (mg := X.mg) (c := c) (P := P) (ps := ps) (closure_ok hfr) I.ok.glob (I.mod.glob.keeps I.bk) hcode (TB.code.keeps I.bk) hP' ht hc bP fun ctv h' tk hx hsz => ?_
    have I1 : Inv X pins σ H { s with heap := h'.push (PySem.W.kla_obj "<lambda>" (X.env.qual ++ "<lambda>") params body scope (cloFrom X.env.cells scope.names []) ((X.mg "__name__").getD .none) c' ctv), toks := tk } := I.kept fun b o e => Heap.get?_push_of_some _ (hx b o e)
    exact h h'.objs.size c' ((X.mg "__name__").getD .none) ctv H Hf _ I1 (Same.refl _) rr (fun b o e _ => e) (Heap.get?_push_size _ rfl) (nofr _ hsz) (rr.fz _ _ hco)
theorem inv_stands {s' : Shared} (I : Inv X pins σ H s) (st : Stands (frs X.stack) s s') {v : V} {u : Value} (r : RelV v u) {Q : VK} (q : Q v H) : EP X pins σ Q u s' := by
  refine I.after ⟨v, H, st.1, st.2.1, ⟨fun b o hb _ hn _ => st.2.2.1 b o hb hn, fun b o hb _ hn _ => st.2.2.2 b o hb hn, fun b o _ e _ => e, fun b o hb _ => ?_, fun b xs e => e, fun b o u e => e, fun b ps e => ⟨#[], by simpa using e⟩⟩, fun b u e => ?_, r, q⟩
  · by_cases hn : b ∈ frs X.stack
    · obtain ⟨sl, z⟩ := st.2.2.2 b o hb hn
      exact ⟨_, z⟩
    · exact ⟨o, st.2.2.1 b o hb hn⟩
  · have nf : ∀ d, H d ≠ none → d ∉ frs X.stack := fun d hd z => hd (I.stkFree d z)
    refine (I.hok b u e).stay (fun d v hd q => st.2.2.1 d v q (nf d ?_)) (fun d q => q) fun d xs q => q
    rcases hd with z | z
    · rw [z, e]; exact fun z => by cases z
    · rw [z]; exact fun z => by cases z
end
end DS
/-! min(x, key=lambda one: ..): the rule. -/
namespace DS
open PySem L2
/-- the def's own code object and its table -/
structure LamC (C : DC) : Prop where
  ex : ∃ c P, C.X.env.code = .ref c ∧ LamX.TabB C.X.base C.X.mg c P ∧ (P, C.X.env.qual ++ "<lambda>") ∈ C.tb ∧ ∀ p ∈ C.tb, p.1 = P → p.2 = C.X.env.qual ++ "<lambda>"
/-- the lambda's reading -/
def keyF (nn : Nat) (m : M D) (d : D) : Option D := match m (.im d :: List.replicate (nn - 1) .un) with
  | .ok k _ => if pureD k = true then some k else none
  | _ => none
def keyL (f : D → Option D) : List D → Option (List D)
  | [] => some []
  | d :: ds => match f d, keyL f ds with
    | some k, some ks => some (k :: ks)
    | _, _ => none
def bestI (ks : List D) : Nat := argBest (fun i j => PySem.W.dataLt (ks.getD i .none) (ks.getD j .none)) (ks.length - 1)
def minKD (f : D → Option D) : D → Option D
  | .list ds => match keyL f ds with
    | some (k :: ks) => if (ds.all pureD && minOk (k :: ks)) = true then ds[bestI (k :: ks)]? else none
    | _ => none
  | _ => none
theorem keyL_get {f : D → Option D} : ∀ {ds ks : List D}, keyL f ds = some ks → ks.length = ds.length ∧ ∀ (i : Nat) d, ds[i]? = some d → ∃ k, f d = some k ∧ ks[i]? = some k
  | [], ks, h => by cases h; exact ⟨rfl, fun i d hd => by simp at hd⟩
  | d :: ds, ks, h => by
    unfold keyL at h
    split at h
    · rename_i k ks' e1 e2
      cases h
      obtain ⟨h1, h2⟩ := keyL_get e2
      refine ⟨by simp [h1], fun i d' hd => ?_⟩
      cases i with
      | zero => simp at hd; subst hd; exact ⟨k, e1, rfl⟩
      | succ i => exact h2 i d' (by simpa using hd)
    · cases h
theorem keyF_some {nn : Nat} {m : M D} {d k : D} (h : keyF nn m d = some k) : pureD k = true ∧ ∃ ρ', m (.im d :: List.replicate (nn - 1) .un) = .ok k ρ' := by
  unfold keyF at h
  split at h
  · rename_i k' ρ' e
    split at h
    · cases h; exact ⟨by assumption, ρ', e⟩
    · cases h
  · cases h
section
variable {C : DC} {n nl : Nm} {pos p px lpos kpos : Pos}
theorem de_minK {x y : Str} {params : Arguments} {body : Expr} {scope : Scope} {m : M D} (S : Sc C n) (Z : LamC C) (j : Nat) (hj : n.bs[j]? = some ("min" : Str)) (i : Nat) (hi : i ∈ n.vs) (hx : n.N[i]? = some x) (hlv : 2 ≤ n.lv)
    (SL : FnScope nl.N [y] scope) (hl0 : nl.lv = 0) (hmp : nl.mp = []) (ck : scB nl scope = true) (hbn : ∀ z ∈ nl.bn, z ∈ n.bn) (fs : ∀ T, nl.fs T) (hD : ∀ C, Sc C nl → LkSc C scope → DE C body m)
    (hbind : ∀ (qual : Str) (pm cv ctv u : Value), bindArgs (PySem.W.kla_fn "<lambda>" qual params body scope [] pm cv ctv) ⟨[u], []⟩ = pure [(y, u)])
    (hdef : ∀ env, defaultsOf params env = ([], [])) (hfree : ∀ z ∈ scope.names, z.2 ≠ .free) (hclo : ∀ cells, cloFrom cells scope.names [] = []) :
    DE C (.Call (.Name "min" p) [.Name x px] [⟨some "key", .Lambda params body scope lpos, kpos⟩] pos) (bnd (pk i) fun d => opt (minKD (keyF nl.N.length m) d)) := by
  refine ⟨⟨fun pins s σ H Q I h => ?_⟩, rfl⟩
  obtain ⟨Hf, G, ρ, rr, hp⟩ := h
  obtain ⟨d, v, hv, ra, hp⟩ := pk_bind rr hp
  obtain ⟨z, ez, q⟩ := opt_post hp
  obtain ⟨c, P, z1, z2, z3, z4⟩ := Z.ex
  have hvb : bootBuiltins ("min" : Str) = some (.builtin "min") := by decide +kernel
  refine wpAny_Call_Name_kw (ld_blt I (S.bl hj).1 (S.bl hj).2 hvb ?_ (by decide) (by decide))
  refine PyProof.Rows.callWith_kw (thn ((pa_cons (pv_ok S i hi hx) pa_nil rfl).run pos pins s σ H (fun vs H1 => vs = [v] ∧ H1 = H) I ⟨v, hv, rfl, rfl⟩) fun us s1 ⟨vs, H1, I1, r1, q1⟩ => ?_) rfl rfl rfl rfl
  obtain ⟨rfl, rfl⟩ := q1
  show wpAny _ _ (evalAll ((do let v ← eval (.Lambda params body scope lpos) C.X.env; standAt pos; pure v) :: [])) _ _ s1
  refine wpAny_evalAll_cons (wpAny_bind (lam_mk I1 rr z2 z1 z3 z4 (hdef _) hfree fun f c' pm ctv H2 Hf2 s2 I2 sm2 r2 kp hf hff hco => wpAny_bind (wpAny_standAt (wpAny_pure ?_))))
  refine wpAny_evalAll_nil ?_
  rw [hclo] at hf
  -- the list, its items, their keys
  cases d with
  | none => cases ez
  | bool b => cases ez
  | int b => cases ez
  | str b => cases ez
  | tuple b => cases ez
  | dict b => cases ez
  | list ds =>
    unfold minKD at ez
    dsimp only at ez
    split at ez
    case h_2 => cases ez
    rename_i k ks hks
    split at ez
    case isFalse => cases ez
    rename_i hok
    rw [Bool.and_eq_true] at hok
    obtain ⟨hpu, hmin⟩ := hok
    obtain ⟨kl, kg⟩ := keyL_get hks
    obtain ⟨a, xs, ev, sq, rxs⟩ := rpt_list ra
    subst ev
    cases r1 with
    | cons ru rn =>
      cases rn
      cases ru
      have sq2 : SqL C.X.K H2 a xs := by
        rcases sq with w | w
        · rcases w with w | ⟨o, w⟩
          · exact .inl (.inl (kp _ _ w fun ps z => by cases z))
          · exact .inl (.inr ⟨o, kp _ _ w fun ps z => by cases z⟩)
        · exact .inr w
      obtain ⟨its, rv, pl, _⟩ := I2.list sq2
      have il : its.length = ds.length := by rw [← rv.length, RpA.length rxs]
      have itsz : its.toArray.size = ks.length + 1 := by simp at kl ⊢; omega
      unfold minOk at hmin
      simp only [Bool.and_eq_true, List.all_eq_true, decide_eq_true_eq] at hmin
      obtain ⟨⟨⟨m1, m2⟩, _⟩, m3⟩ := hmin
      have room := S.room.mono hlv
      have hnot : a ∉ frs C.X.stack := fun hm => by
        rcases sq2 with w | ⟨o, its', n', hl, _⟩
        · have := I2.stkFree a hm
          rcases w with w | ⟨o, w⟩ <;> rw [w] at this <;> cases this
        · obtain ⟨z, _⟩ := I2.stack.mem hm
          have := I2.ok.mod.kin a o hl
          rw [z] at this; cases this
      have hcn : c' ∉ frs C.X.stack := fun hm => by
        have := I2.stkFree c' hm
        rw [hco] at this; cases this
      obtain ⟨⟨oc, vs0, t, hoc, hdc, hvc⟩, _, _⟩ := I2.hok c' _ hco
      refine min_key_list (fr := frs C.X.stack) (x := k) (xs := ks) (I2.ok.hd S.calm) pl.isList itsz ⟨fun e he e' he' => m1 e he e' he', fun e he z => by have := m3 e he; rw [z] at this; cases this⟩ (by have := room.un; omega) I2.bare hnot (fun b hb => by
        obtain ⟨_, o, ho, _⟩ := I2.stack.mem hb
        exact Heap.lt_size ho) (fun ix u s3 E' R hu st hz hR => ?_) fun ix u s3 hu hix st => ?_
      · have hlt : ix < ds.length := by
          have := (Array.getElem?_eq_some_iff.mp hu).1
          simp at this; omega
        obtain ⟨k', e1, e2⟩ := kg ix ds[ix] (List.getElem?_eq_getElem hlt)
        obtain ⟨w, ew, rw'⟩ := RpA.get rxs (List.getElem?_eq_getElem hlt)
        obtain ⟨hk', ρ', hm⟩ := keyF_some e1
        have ru : RelV w u := by
          obtain ⟨u', h1, h2⟩ := rv.get ew
          have h3 : its[ix]? = some u := by simpa using hu
          rw [h1] at h3
          cases h3
          exact h2
        have ek : (k :: ks).getD ix .none = k' := by rw [List.getD_eq_getElem?_getD, e2]; rfl
        rw [ek] at hR
        exact key_run (T := C.T) (Hf := Hf2) I2 rfl r2.fz SL hl0 hmp ck (fun z hz => S.bno z (hbn z hz)) fs hD (hbind _ _ _ _) room hf hff ⟨c', oc, vs0, t, rfl, hoc, hdc, hvc⟩ hcn (Rp.mono sm2 _ _ rw') (List.all_eq_true.mp hpu _ (List.getElem_mem hlt)) ru hm hk' st hz hR
      · have hb : bestI (k :: ks) = ix := by unfold bestI; rw [hix]; rfl
        rw [hb] at ez
        obtain ⟨w, ew, rw'⟩ := RpA.get rxs ez
        have ru : RelV w u := by
          obtain ⟨u', h1, h2⟩ := rv.get ew
          have h3 : its[ix]? = some u := by simpa using hu
          rw [h1] at h3
          cases h3
          exact h2
        exact inv_stands I2 st ru (q w H2 Hf2 sm2 r2 (Rp.mono sm2 _ _ rw'))
end
end DS
/-! An own list handed back; a def with a lambda; the end with tables. -/
namespace DS
open PySem L2
def giM (i : Nat) : M (List D) := fun ρ => match ρ[i]? with
  | some (.ml ds) => .ok ds (ρ.set i .un)
  | _ => .no
@[simp ↓] theorem giM_eq (i : Nat) (ρ : Rho) : giM i ρ = match ρ[i]? with
  | some (.ml ds) => .ok ds (ρ.set i .un)
  | _ => .no := id rfl
section
variable {C : DC} {n : Nm} {pos : Pos}
theorem df_give {x : Str} (S : Sc C n) (i : Nat) (hi : i ∈ n.vs) (hx : n.N[i]? = some x) (hm : i ∉ n.mp) : DF C (.Name x pos) (giM i) :=
  ⟨PE.imp (pv_ok S i hi hx) fun σ H Q ⟨Hf, G, ρ, rr, h⟩ => by
    unfold giM at h
    cases e : ρ[i]? with
    | none => rw [e] at h; exact h.elim
    | some y =>
      rw [e] at h
      cases y with
      | un => exact h.elim
      | im d => exact h.elim
      | md d => exact h.elim
      | mi c d => exact h.elim
      | ml ds =>
        obtain ⟨p, vs, hp, hf, hg, hH, ra⟩ := rr.sl i _ e
        have hmp : i ∉ C.F.mp := by rw [show C.F.mp = C.mp from rfl, S.mpe]; exact hm
        have r := rr.drop hmp (some (.ref p))
        have es : σ.set i (some (.ref p)) = σ := by
          obtain ⟨hl, hv⟩ := List.getElem?_eq_some_iff.mp hp
          rw [← hv, List.set_getElem_self]
        rw [es] at r
        refine ⟨.ref p, hp, h (.ref p) H Hf (Same.refl _) r ⟨p, vs, rfl, ⟨hf, hg, fun j z ez oz hz => ?_⟩, hH, ra⟩⟩
        rcases get_set_cases ez with ⟨_, rfl, _⟩ | ⟨hj, ez⟩
        · cases oz
        · exact rr.ds j i z _ p hj ez e oz rfl hz hp, rfl⟩
end
section
variable {P : Program} {w : World} {K : PySem.W.Frag} {mg : Str → Option Value} {base : Heap} {tb : List (Addr × Str)}
theorem hasX_mkL {x qual : Str} {sd : Stmt} {f c Pt : Addr} {fd : FuncData} {ps : List Str} {n : Nm} {m : M Flow} (F : Fun K x qual sd f fd) (hm : mg x = some (.ref f)) (hb : Binds K fd ps []) (S : FnScope n.N ps (defScope sd)) (hp : ps.length ≤ n.N.length)
    (ck : scB n (defScope sd) = true) (bno : ∀ x ∈ n.bn, mg x = none) (fs : n.fs ⟨P, w, K, mg, base, tb⟩) (hcode : fd.code = .ref c) (TB : LamX.TabB base mg c Pt) (hT : (Pt, qual ++ ".<locals>." ++ "<lambda>") ∈ tb) (hu : ∀ p ∈ tb, p.1 = Pt → p.2 = qual ++ ".<locals>." ++ "<lambda>")
    (hD : ∀ C, Sc C n → LkSc C (defScope sd) → LamC C → DSs C (defBody sd) m) : HasX ⟨P, w, K, mg, base, tb⟩ x (n.lv + 1) (runX ps.length n.N.length n.mp m) :=
  ⟨f, fd, ps, fn_okXZ LamC F S hp ck bno fs (fun A outer s H vs E => ⟨c, Pt, hcode, TB, hT, hu⟩) hD, hm, F.kp, hb⟩
/-- the law's promise, where the tables are empty -/
def spT (K : PySem.W.Frag) (tb : List (Addr × Str)) : Sp := fun vs H Q _ => ∃ (a : Addr) (ns : List Int), vs = [.ref a] ∧ SqL K H a (ns.map V.int) ∧ ns.length ≤ 63 ∧ (∀ p ∈ tb, H p.1 = some (.tbl #[])) ∧ ∀ H', Q (.bl true) H'
open Classical in
theorem law_fnT {k : Nat} {f : Addr} {fd : FuncData} {F : List Sl → Res D} (h : FnOk P w K mg base CX0 k f fd ["script"] (fsp ⟨P, w, K, mg, base, tb⟩ F))
    (ht : ∀ ns : List Int, ns.length ≤ 63 → ∃ r, F [.im (.list (ns.map .int))] = .ok (.bool true) r) : FnOk P w K mg base CX0 k f fd ["script"] (spT K tb) := by
  refine h.imp fun vs H Q E ⟨a, ns, e, hS, hl, hT, q⟩ => ?_
  subst e
  obtain ⟨r, hr⟩ := ht ns hl
  let Hf : Hp := fun b => if ∃ p ∈ tb, p.1 = b then none else H b
  have up : ∀ b o, H b = some o → (∀ ps, o ≠ .tbl ps) → Hf b = some o := fun b o e n => by
    show (if ∃ p ∈ tb, p.1 = b then none else H b) = some o
    rw [if_neg fun ⟨p, hp, z⟩ => by
      have := hT p hp
      rw [z, e] at this
      exact n _ (Option.some.inj this)]
    exact e
  have dn : Same Hf H := fun b o e => by
    have e : (if ∃ p ∈ tb, p.1 = b then none else H b) = some o := e
    split at e
    · cases e
    · exact e
  have hS' : SqL K Hf a (ns.map V.int) := by
    rcases hS with z | z
    · rcases z with z | ⟨o, z⟩
      · exact .inl (.inl (up _ _ z fun ps y => by cases y))
      · exact .inl (.inr ⟨o, up _ _ z fun ps y => by cases y⟩)
    · exact .inr z
  refine ⟨Hf, fun _ => none, [.im (.list (ns.map .int))], dn, (fun _ _ z => by cases z), (fun _ _ z => by cases z), (fun p hp => ⟨?_, rfl, #[], hT p hp, trivial, fun pos cv hc => ?_⟩), rfl, fun i v x hv hx => ?_, fun i j p x y hij ex ey ox oy hx hy => ?_, ?_⟩
  · show (if ∃ q ∈ tb, q.1 = p.1 then none else H p.1) = none
    rw [if_pos ⟨p, hp, rfl⟩]
  · have z : codeAmong pos [] = some cv := hc
    simp [codeAmong] at z
  · cases i with
    | succ i => simp at hv
    | zero =>
      simp at hv hx
      subst hv hx
      exact ⟨⟨.ref a, rfl, rp_list hS' (rpa_ints ns)⟩, fun z => by cases z⟩
  · cases i with
    | succ i => simp at hx
    | zero =>
      simp at ex
      subst ex
      cases ox
  · rw [hr]
    intro v H' Hf' _ _ _ _ _ rv _
    have : v = .bl true := by simpa only [Rp] using rv
    subst this
    exact q H'
end
end DS
/-! The end of a law whose text makes a lambda in one def. -/
namespace DS
open PySem L2
theorem tab_code {K : PySem.W.Frag} {x : Str} {c P f : Addr} {oc : Value} {od : Option Addr} {fd : FuncData} {sl : Array (Option Value)} (ht : PySem.W.tabIn K x = some (c, P)) (ha : PySem.W.nsIn K mainGlobals x = some (some (.ref f))) (hl : K.lookup f = some ⟨oc, od, .func fd, sl⟩) : fd.code = .ref c := by
  unfold PySem.W.tabIn at ht
  rw [ha] at ht
  dsimp only at ht
  rw [hl] at ht
  dsimp only at ht
  split at ht
  · rename_i c2 hc
    rw [hc]
    split at ht
    · split at ht
      · cases ht; rfl
      · cases ht
    · cases ht
  · cases ht
theorem walk_T {l : PySem.W.OpenLaw} {q : Program} {loose : List Str} {XP : (Str → Option Value) → Heap → Prop} {YP : World → Heap → Prop} {d : DefRec} {K : Params → PySem.W.Frag} {k : Nat} (hr : Room k callerA) (hn : l.most = some 63) (hdf : d.params.defaults = [])
    (hY : ∀ (w : World) (h : Heap), YP w h → (K w.params).In h) (x nm : Str) (hrec : ∃ d2, (PyProof.Rows.recsOf q).find? (fun e => e.name == x) = some d2)
    (F : ∀ (w : World) (mg : Str → Option Value) (fa : Addr) (h : Heap), (K w.params).In h → h.Ns mainGlobals mg → mg d.name = some (.ref fa) →
      ∃ (c P : Addr) (fd : FuncData), PySem.W.tabIn (K w.params) x = some (c, P) ∧ (K w.params).lookup P = none ∧ (∀ (s : Shared) (u : Value), BindsTo s fd ⟨[u], []⟩ [("script", u)]) ∧ ∀ base : Heap, (K w.params).In base → base.Ns mainGlobals mg → LamX.TabB base mg c P → FnOk l.prog w (K w.params) mg base CX0 k fa fd ["script"] (spT (K w.params) [(P, nm)])) :
    PySem.W.WalkO q loose XP YP l.row.toRowW d [] (fun f vs => PySem.call f vs) := by
  refine Att.attach_callB hn hdf fun w s₀ s₁ mg mb fa o pm cd doc a vs ns G Y ho hd hcd hmg hobj hints hlen hbits hg => ?_
  have KX := hY w _ Y
  obtain ⟨d2, hd2⟩ := hrec
  obtain ⟨c, P, fd, ht, hl, hb, hF⟩ := F w mg fa _ KX G.T.g hmg
  obtain ⟨hC, hP⟩ := PySem.W.tab_of G.T KX hd2 ht
  exact LamX.law_callTs (cs := [(c, P)]) KX G.T.g G.T.b G.T.builtins G.T.nolimit hg (fun p hp => by rw [List.mem_singleton.mp hp]; exact hP) (fun p hp => by rw [List.mem_singleton.mp hp]; exact hl) (fun p hp => by rw [List.mem_singleton.mp hp]; exact hC) G.T.bmain hobj hints (Nat.le_trans hlen (by decide)) hr
    (fun base h1 h2 h3 => hF base h1 h2 (h3 (c, P) (List.mem_singleton.mpr rfl))) hb (fun H hH hS => ⟨a, ns, rfl, hS, hlen, fun p hp => by rw [List.mem_singleton.mp hp]; exact hH (c, P) (List.mem_singleton.mpr rfl), fun _ => rfl⟩) fun H e s' z => z
end DS
/-! x in range(a, b); tuples times a number; lists compared by >. -/
namespace DS
open PySem L2
theorem op_notin_rng {X : Cx} : OpR X (compareOp .NotIn) (fun x y H Q => ∃ i a lo hi, x = V.int i ∧ y = V.ref a ∧ H a = some (.rng lo hi) ∧ Q (.bl (!decide (lo ≤ i ∧ i < hi))) H) := by
  intro pins s σ H x y v u Q I rx ry h
  obtain ⟨i, a, lo, hi, rfl, rfl, ha, q⟩ := h
  obtain ⟨k, rfl⟩ := rx
  obtain rfl : u = Value.ref a := ry
  obtain ⟨t1, t2, t3, ho⟩ := I.hok a _ ha
  show wpAny _ _ (do return Value.bool (!(← contains (Value.ref a) (Value.int i k)))) _ _ s
  refine wpAny_bind (wpAny_contains_slot (T := "range") ⟨_, ho, rfl⟩ F.slot_range_contains (call_meets F.slot_range_contains ⟨_, ho, rfl⟩ F.entry_range_contains (F.args_range_contains_2 _ _) (q_contains a lo hi i t1 t2 t3 k)
    ⟨ho, wpAny_truthy_bool (wpAny_pure ⟨.bl _, H, I, rfl, ?_⟩)⟩))
  rw [place1]
  exact q
def rgIn (neg : Bool) (me ma mb : M D) : M D := bnd me fun x => bnd ma fun i => bnd mb fun j => match x, i, j with
  | .int x, .int i, .int j => ret (.bool (if neg then !decide (i ≤ x ∧ x < j) else decide (i ≤ x ∧ x < j)))
  | _, _, _ => stop
@[simp ↓] theorem rgIn_eq (neg : Bool) (me ma mb : M D) (ρ : Rho) : rgIn neg me ma mb ρ = (bnd me fun x => bnd ma fun i => bnd mb fun j => match x, i, j with
  | .int x, .int i, .int j => ret (.bool (if neg then !decide (i ≤ x ∧ x < j) else decide (i ≤ x ∧ x < j)))
  | _, _, _ => stop) ρ := id rfl
section
variable {C : DC} {n : Nm} {pos p px : Pos} {e a b : Expr} {me ma mb : M D}
theorem lft_rgIn {neg : Bool} : ∀ σ H Q, Lft C (relE C.T) (rgIn neg me ma mb) σ H Q →
    tOp (fun x y H Q => ∃ i a lo hi, x = V.int i ∧ y = V.ref a ∧ H a = some (.rng lo hi) ∧ Q (.bl (if neg then !decide (lo ≤ i ∧ i < hi) else decide (lo ≤ i ∧ i < hi))) H) (Lft C (relE C.T) me)
      (tCB (fun vs H Q => ∃ i j, vs = [V.int i, V.int j] ∧ ∀ p, H p = none → Q (.ref p) (upd H p (.rng i j))) (tCons (Lft C (relE C.T) ma) (tCons (Lft C (relE C.T) mb) tNil))) σ H Q := fun σ H Q ⟨Hf, G, ρ, rr, h⟩ => by
  refine post_bind rr h fun x d H1 Hf1 ρ1 s1 r1 rx p1 => ?_
  refine post_bind r1 p1 fun y d2 H2 Hf2 ρ2 s2 r2 ry p2 => ?_
  refine post_bind r2 p2 fun z d3 H3 Hf3 ρ3 s3 r3 rz p3 => ?_
  split at p3
  · rename_i i j k
    have e1 : x = .int i := by simpa only [Rp] using rx
    have e2 : y = .int j := by simpa only [Rp] using ry
    have e3 : z = .int k := by simpa only [Rp] using rz
    subst e1 e2 e3
    refine ⟨j, k, rfl, fun p hp => ⟨i, p, j, k, rfl, rfl, upd_same, ?_⟩⟩
    exact p3 _ _ Hf3 (Same.refl _) (r3.grow (Same.updN hp)) (rp_bool _)
  · exact p3.elim
theorem de_inRg (S : Sc C n) (j : Nat) (hj : n.bs[j]? = some ("range" : Str)) (he : DE C e me) (ha : DE C a ma) (hb : DE C b mb) : DE C (.Compare e [.In] [.Call (.Name "range" p) [a, b] [] px] pos) (rgIn false me ma mb) :=
  ⟨PE.imp (pe_cmpR op_in_rng he.pe (pe_callTy cr_range2 (S.bl hj).1 (S.bl hj).2 (by decide +kernel) (pa_cons ha.pe (pa_cons hb.pe pa_nil (star_ok hb.ok _ _)) (star_ok ha.ok _ _)) (by decide) (by decide) (star_ok ha.ok _ _) (by rw [star_ok hb.ok]; rfl)) rfl) (lft_rgIn (neg := false)), rfl⟩
theorem de_ninRg (S : Sc C n) (j : Nat) (hj : n.bs[j]? = some ("range" : Str)) (he : DE C e me) (ha : DE C a ma) (hb : DE C b mb) : DE C (.Compare e [.NotIn] [.Call (.Name "range" p) [a, b] [] px] pos) (rgIn true me ma mb) :=
  ⟨PE.imp (pe_cmpR op_notin_rng he.pe (pe_callTy cr_range2 (S.bl hj).1 (S.bl hj).2 (by decide +kernel) (pa_cons ha.pe (pa_cons hb.pe pa_nil (star_ok hb.ok _ _)) (star_ok ha.ok _ _)) (by decide) (by decide) (star_ok ha.ok _ _) (by rw [star_ok hb.ok]; rfl)) rfl) (lft_rgIn (neg := true)), rfl⟩
theorem dt_inRg (S : Sc C n) (j : Nat) (hj : n.bs[j]? = some ("range" : Str)) (he : DE C e me) (ha : DE C a ma) (hb : DE C b mb) : DT C (.Compare e [.In] [.Call (.Name "range" p) [a, b] [] px] pos) (asB (rgIn false me ma mb)) :=
  ⟨PT.imp (pt_cmpR op_in_rng he.pe (pe_callTy cr_range2 (S.bl hj).1 (S.bl hj).2 (by decide +kernel) (pa_cons ha.pe (pa_cons hb.pe pa_nil (star_ok hb.ok _ _)) (star_ok ha.ok _ _)) (by decide) (by decide) (star_ok ha.ok _ _) (by rw [star_ok hb.ok]; rfl)) rfl) (lft_asB (lft_rgIn (neg := false)))⟩
theorem dt_ninRg (S : Sc C n) (j : Nat) (hj : n.bs[j]? = some ("range" : Str)) (he : DE C e me) (ha : DE C a ma) (hb : DE C b mb) : DT C (.Compare e [.NotIn] [.Call (.Name "range" p) [a, b] [] px] pos) (asB (rgIn true me ma mb)) :=
  ⟨PT.imp (pt_cmpR op_notin_rng he.pe (pe_callTy cr_range2 (S.bl hj).1 (S.bl hj).2 (by decide +kernel) (pa_cons ha.pe (pa_cons hb.pe pa_nil (star_ok hb.ok _ _)) (star_ok ha.ok _ _)) (by decide) (by decide) (star_ok ha.ok _ _) (by rw [star_ok hb.ok]; rfl)) rfl) (lft_asB (lft_rgIn (neg := true)))⟩
end
/-! ### tuple * int -/
noncomputable def mulE : D → D → Option D
  | .tuple ds, .int k => if (!ds.isEmpty && decide (2 ≤ k) && decide (k ≤ 1000) && decide (ds.length ≤ 1000)) = true then some (.tuple (List.replicate k.toNat ds).flatten) else none
  | a, b => mulD a b
@[simp ↓] theorem mulE_int (i j : Int) : mulE (.int i) (.int j) = if mulOk i j then some (.int (i * j)) else none := id rfl
@[simp ↓] theorem mulE_list (ds : List D) (b : D) : mulE (.list ds) b = mulD (.list ds) b := id rfl
@[simp ↓] theorem mulE_tuple (ds : List D) (k : Int) : mulE (.tuple ds) (.int k) = if (!ds.isEmpty && decide (2 ≤ k) && decide (k ≤ 1000) && decide (ds.length ≤ 1000)) = true then some (.tuple (List.replicate k.toNat ds).flatten) else none := id rfl
/-! ### list > list -/
def gtOk (a b : List D) : Bool := PySem.W.alike (.list a) (.list b) && decide (min (PyData.depth (.list a)) (PyData.depth (.list b)) ≤ 64) && noObjA a && noObjA b
noncomputable def gtE : D → D → Option D
  | .list a, .list b => if gtOk a b then some (.bool (PySem.W.dataLt (.list b) (.list a))) else none
  | a, b => gtD a b
@[simp ↓] theorem gtE_int (i j : Int) : gtE (.int i) (.int j) = some (.bool (decide (j < i))) := id rfl
@[simp ↓] theorem gtE_str (a b : Str) : gtE (.str a) (.str b) = gtD (.str a) (.str b) := id rfl
@[simp ↓] theorem gtE_list (a b : List D) : gtE (.list a) (.list b) = if gtOk a b then some (.bool (PySem.W.dataLt (.list b) (.list a))) else none := id rfl
section
variable {C : DC} {n : Nm}
theorem o_mulE : OpD C (binaryOp .Mult) mulE :=
  let ⟨_, ho, hr⟩ := o_mul (C := C)
  ⟨_, ho.or op_repT, fun Hf G σ H ρ x y a b d Q rr ra rb e q => by
    unfold mulE at e
    split at e
    · split at e
      · rename_i ds k hc
        cases e
        simp only [Bool.and_eq_true, decide_eq_true_eq, Bool.not_eq_true'] at hc
        obtain ⟨⟨⟨h1, h2⟩, h3⟩, h4⟩ := hc
        obtain ⟨p1, xs, e1, s1, r1⟩ := rpt_tuple ra
        refine .inr ⟨p1, _, xs, e1, rpt_int rb, Same.sqT rr.fz s1, fun z => ?_, h2, h3, by rw [RpA.length r1]; exact h4, new_tup rr (RpA.rep r1 _) q⟩
        have := RpA.length r1
        rw [z] at this
        cases ds with
        | nil => cases h1
        | cons _ _ => simp at this
      · cases e
    · exact .inl (hr Hf G σ H ρ x y a b d Q rr ra rb e q)⟩
def rGtL (K : PySem.W.Frag) : R2 := fun x y H Q => ∃ d e, Dp K H x d ∧ Dp K H y e ∧ PySem.W.alike d e = true ∧ d ≠ .none ∧ min d.depth e.depth ≤ 64 ∧ Q (.bl (PySem.W.dataLt e d)) H
theorem op_gtL {X : Cx} (hu : X.A.units + 65 < cLine) : OpR X (compareOp .Gt) (rGtL X.K) := by
  intro pins s σ H x y v u Q I rx ry h
  obtain ⟨d, e, hd, he, al, nn, hm, q⟩ := h
  obtain ⟨as, r1⟩ := Dp.reads I d x v hd rx
  obtain ⟨bs, r2⟩ := Dp.reads I e y u he ry
  exact PySem.W.gt_data r1 r2 al nn (by omega) ⟨.bl _, H, I, rfl, q⟩
theorem o_gtE (S : Sc C n) : OpD C (compareOp .Gt) gtE :=
  let ⟨_, ho, hr⟩ := o_gt (C := C)
  ⟨_, ho.or (op_gtL S.units), fun Hf G σ H ρ x y a b d Q rr ra rb e q => by
    unfold gtE at e
    split at e
    · split at e
      · rename_i xs ys hc
        cases e
        unfold gtOk at hc
        simp only [Bool.and_eq_true, decide_eq_true_eq] at hc
        obtain ⟨⟨⟨h1, h2⟩, h3⟩, h4⟩ := hc
        obtain ⟨_, a2⟩ := ra.dp rr.fz (by rw [noObj]; exact h3)
        obtain ⟨_, b2⟩ := rb.dp rr.fz (by rw [noObj]; exact h4)
        exact .inr ⟨_, _, a2, b2, h1, (fun z => by cases z), h2, q _ H Hf (Same.refl _) rr (rp_bool _)⟩
      · cases e
    · exact .inl (hr Hf G σ H ρ x y a b d Q rr ra rb e q)⟩
end
end DS
/-! max(x) of a list of data; try: .. except X: return None. -/
namespace DS
open PySem L2
def maxLD : D → Option D
  | .list (x :: xs) => if minOk (x :: xs) then some (PySem.W.maxD x xs) else none
  | _ => none
def rMaxDt (K : PySem.W.Frag) : List V → Hp → VK → Prop := fun vs H Q => ∃ (a : Addr) (xs : List V) (d : D) (ds : List D), vs = [.ref a] ∧ SqL K H a xs ∧ DpAll K H xs (d :: ds) ∧ minOk (d :: ds) = true ∧
  ∀ (i : Nat) (v : V), xs[i]? = some v → (d :: ds)[i]? = some (PySem.W.maxD d ds) → Q v H
theorem cr_maxD {X : Cx} (hc : X.calm = true) (hu : X.A.units + 100 < cLine) : CallR X (.builtin "max") (rMaxDt X.K) := by
  intro pins s σ H vs us Q I r h
  obtain ⟨a, xs, d, ds, rfl, hs, hd, ok, q⟩ := h
  obtain ⟨its, rv, hl, hz⟩ := I.list hs
  rw [Vals.ref1 r]
  obtain ⟨as, ra⟩ := Dp.readsAll I (d :: ds) xs its hd rv
  unfold minOk at ok
  simp only [Bool.and_eq_true, decide_eq_true_eq, List.all_eq_true] at ok
  obtain ⟨⟨⟨o1, o2⟩, o3⟩, o4⟩ := ok
  refine PySem.W.max_list_data (I.ok.hd hc) hl.isList (by simpa using ra) ⟨fun x hx y hy => o1 x hx y hy, fun x hx e => ?_⟩ (by omega) fun i v h' tk bs hv hr hk => ?_
  · subst e
    exact Bool.noConfusion (o4 _ hx)
  · have hv' : its[i]? = some v := by simpa using hv
    have hi : i < its.length := lt_of_get hv'
    have hlx : i < xs.length := by rw [rv.length]; exact hi
    obtain ⟨u, hu2, ru⟩ := rv.get (List.getElem?_eq_getElem hlx)
    rw [hv'] at hu2
    cases hu2
    have hdl : (d :: ds).length = xs.length := (dpall_len hd).symm
    have hdi : (d :: ds)[i]? = some (d :: ds)[i] := List.getElem?_eq_getElem (by rw [hdl]; exact hlx)
    have hdp : Dp X.K H xs[i] (d :: ds)[i] := dpall_get hd (List.getElem?_eq_getElem hlx) hdi
    obtain ⟨as2, r2⟩ := Dp.reads I _ _ _ hdp ru
    have eq := (Reads.unique (PySem.W.reads_keeps hk r2) _ _ hr).1
    exact ⟨xs[i], H, I.kept (t' := tk) hk, ru, q i _ (List.getElem?_eq_getElem hlx) (by rw [hdi, eq])⟩
section
variable {C : DC} {n : Nm} {pos : Pos} {a : Expr} {ma : M D}
theorem de_max1 {p : Pos} (S : Sc C n) (j : Nat) (hj : n.bs[j]? = some ("max" : Str)) (ha : DE C a ma) : DE C (.Call (.Name "max" p) [a] [] pos) (c1 maxLD ma) :=
  ⟨PE.imp (pe_callB (cr_maxD S.calm (by have := S.room.un; omega)) (S.bl hj).1 (S.bl hj).2 (by decide +kernel) (pa_cons ha.pe pa_nil (star_ok ha.ok _ _)) (by decide) (by decide) (star_ok ha.ok _ _) rfl) fun σ H Q ⟨Hf, G, ρ, rr, h⟩ => post_bind rr h fun x d H1 Hf1 ρ1 s1 r1 rx p1 => (by
    obtain ⟨z, e, q⟩ := opt_post p1
    unfold maxLD at e
    split at e
    · split at e
      · rename_i y ys ok
        cases e
        simp only [Rp] at rx
        obtain ⟨a, xs, e1, sa, ra⟩ := rx
        subst e1
        have ok' := ok
        unfold minOk at ok'
        simp only [Bool.and_eq_true] at ok'
        obtain ⟨cl, hdp⟩ := RpA.lay (y :: ys) xs (RpA.mono r1.fz _ _ ra) ok'.1.2
        refine ⟨a, xs, y, ys, rfl, r1.fz.seq sa, hdp, ok, fun i v hv hm => ?_⟩
        obtain ⟨w, hw, rw⟩ := RpA.get ra hm
        rw [hv] at hw
        cases hw
        exact q v H1 Hf1 (Same.refl _) r1 rw
      · cases e
    · cases e), rfl⟩
end
/-! ### try: .. except X: return None -/
def tryN (tab : List Str) (m : M Flow) : M Flow := fun ρ => match m ρ with
  | .ex e r => if tab.contains e.cls then .ok (.rt .none) r else .no
  | r => r
@[simp ↓] theorem tryN_eq (tab : List Str) (m : M Flow) (ρ : Rho) : tryN tab m ρ = match m ρ with
  | .ex e r => if tab.contains e.cls then .ok (.rt .none) r else .no
  | r => r := id rfl
section
variable {C : DC} {n : Nm} {pos : Pos}
theorem ds_tryN {x : Str} {sc : Scope} {tab : List Str} {m : M Flow} {body : List Stmt} {q : Nat} {np pn pa pos' : Pos} (S : Sc C n) (L : LkSc C sc) (k : Nat) (ht : n.top = true)
    (hk : n.gs[k]? = some x) (hX : ExF C.T x tab) (hb : ∀ C', Sc C' n → LkSc C' sc → DSs C' body m) :
    DS C (.Try body [.ExceptHandler (some (.Name x np)) none [.Return (some (.Constant .none q pn)) pa] pos'] [] [] pos) (tryN tab m) := by
  obtain ⟨hs, hf, hex⟩ := S.tp ht
  obtain ⟨c, hc, hcs⟩ := hX.ex
  refine ⟨PS.imp (ps_try_only (c := c) (tb := fun W => LS ⟨C.X, W, C.mp, C.s0, C.tb⟩ m) (ts := fun _ _ _ => tRet (tC .non)) hs hf ⟨(S.gl hk).1, (plB_d (S.gl hk).2).1, .inl hc⟩ S.tk
    (fun W pn xe tk po => (hb (C.tr W pn xe) (S.tr tk po) (L.tr W pn xe)).pss) fun a oe cls d pn _ _ => pss_one (ps_ret pe_non)) fun E σ H ⟨Hf, G, ρ, rr, h⟩ => ⟨Hf, G, ρ, rr, ?_⟩⟩
  unfold tryN at h
  cases e : m ρ with
  | no => rw [e] at h; exact h
  | ok f r =>
    rw [e] at h
    cases f with
    | nx => exact h
    | rt d => exact h
    | ro d => exact h
    | bk => exact h
    | ct => exact h
  | ex x r =>
    rw [e] at h
    by_cases hm : tab.contains x.cls = true
    case neg => simp only [hm] at h; exact h.elim
    simp only [hm, if_true] at h
    intro cls dd σ1 H1 Hf1 s1 r1 xr
    obtain ⟨C0, hC0, hm0⟩ := hcs x.cls (List.contains_iff_mem.mp hm)
    have ec : cls = .ref C0 := by
      have := xr.1
      rw [show (DC.T ⟨C.X, _, C.mp, C.s0, C.tb⟩).mg x.cls = some (.ref C0) from hC0] at this
      exact (Option.some.inj this).symm
    subst ec
    refine ⟨true, hm0, fun _ a ha => ?_, fun z => by cases z⟩
    exact h .non σ1 H1 Hf1 s1 r1 (by simp only [Rp])
end
end DS
/-! str * int. -/
namespace DS
open PySem L2
def mulSok (s : Str) (k : Int) : Bool := decide (2 ≤ k) && decide (k ≤ 100) && decide (1 ≤ s.length) && decide (s.length ≤ 100) && PyData.strOk (Txt.mul s k)
noncomputable def mulS : D → D → Option D
  | .str s, .int k => if mulSok s k then some (.str (Txt.mul s k)) else none
  | a, b => mulE a b
@[simp ↓] theorem mulS_str (s : Str) (k : Int) : mulS (.str s) (.int k) = if mulSok s k then some (.str (Txt.mul s k)) else none := id rfl
section
variable {C : DC} {n : Nm}
theorem op_mulStr {X : Cx} : OpR X (binaryOp .Mult) (fun x y H Q => ∃ s k, x = V.str s ∧ y = V.int k ∧ 2 ≤ k ∧ k ≤ 100 ∧ 1 ≤ s.length ∧ s.length ≤ 100 ∧ Q (.str (Txt.mul s k)) H) := by
  intro pins s σ H x y v u Q I rx ry h
  obtain ⟨z, k, rfl, rfl, h1, h2, h3, h4, q⟩ := h
  obtain ⟨t, rfl⟩ := rx
  obtain ⟨t', rfl⟩ := ry
  have hm : z.length * k.toNat ≤ 100 * 100 := Nat.mul_le_mul h4 (by omega)
  refine SB.mul ⟨?_, fun _ _ => ?_, fun _ _ => ?_⟩ fun t'' tk => ⟨.str _, H, I.kept (t' := tk) fun _ _ e => e, ⟨_, rfl⟩, q⟩
  · rw [decide_eq_false (by omega), decide_eq_false (by omega)]; rfl
  · have h5 : (z.length : Int) * k ≤ 100 * 100 := Int.mul_le_mul (by omega) h2 (by omega) (by omega)
    have h6 : (z.length : Int) ≤ (2 ^ 63 - 1) / k := (Int.le_ediv_iff_mul_le (by omega)).mpr (by omega)
    omega
  · unfold Builtin.Str.tooLong
    exact decide_eq_false (Nat.not_lt.mpr (le_sz (by omega)))
theorem o_mulS : OpD C (binaryOp .Mult) mulS :=
  let ⟨_, ho, hr⟩ := o_mulE (C := C)
  ⟨_, ho.or op_mulStr, fun Hf G σ H ρ x y a b d Q rr ra rb e q => by
    unfold mulS at e
    split at e
    · split at e
      · rename_i s k hc
        cases e
        unfold mulSok at hc
        simp only [Bool.and_eq_true, decide_eq_true_eq] at hc
        obtain ⟨⟨⟨⟨h1, h2⟩, h3⟩, h4⟩, h5⟩ := hc
        have ex : x = .str s := by
          have ra : Rp C.T Hf (.str s) x := ra
          unfold Rp at ra
          exact ra.1
        refine .inr ⟨s, k, ex, rpt_int rb, h1, h2, h3, h4, q _ H Hf (Same.refl _) rr ?_⟩
        unfold Rp
        exact ⟨rfl, h5⟩
      · cases e
    · exact .inl (hr Hf G σ H ρ x y a b d Q rr ra rb e q)⟩
end
end DS
/-! sorted(set(texts)) -/
namespace DS
open PySem PySem.Spec PyProof.Rows L2
def txOf (e : Int × Value) : Str := match e.2 with
  | .str y _ => y
  | _ => Str.empty
def TxE (w : World) (e : Int × Value) : Prop := ∃ y u, e.2 = Value.str y u ∧ e.1 = hashStr w y
/-- the set of texts at a: its texts L, in some order -/
def TxS (w : World) (h : Heap) (a : Addr) (L : List Str) : Prop := ∃ ob ee ep tb, h.get? a = some ob ∧ ob.ExactSet ∧ ob.data = .set ee ep tb ∧ (∀ x ∈ ee.toList, TxE w x) ∧
  (ee.toList.map txOf).Perm L ∧ L.Nodup ∧ L.length < 64 ∧ tb.fits ee.size = true ∧ Ris tb.place.toList ∧ (w.params.followText "set-order" = true ∨ tb.led = true)
section
variable {P : Program} {w : World} {A : Around} {E : Value → Shared → Prop} {s : Shared} {a : Addr} {L : List Str}
theorem tx_elems {l : List (Int × Value)} (g : ∀ x ∈ l, TxE w x) : ElemsOf (PySem.strKind P w) l := fun x hx => by
  obtain ⟨y, u, q1, q2⟩ := g x hx
  refine ⟨⟨y, ?_, q2⟩, by rw [q1] <;> rfl⟩
  rw [q1]
  exact strKind_is P w y u
theorem tx_is {x : Int × Value} (g : TxE w x) (y : Str) : (PySem.strKind P w).is y x.2 = true ↔ txOf x = y := by
  obtain ⟨z, u, q1, _⟩ := g
  unfold txOf
  rw [q1]
  constructor
  · intro q
    have q2 : Value.isStrOf y (.str z u) = true := q
    obtain ⟨u', e⟩ := Value.isStrOf_shape q2
    injection e
  · intro q
    subst q
    exact strKind_is P w _ _
theorem TxS.at {h h' : Heap} (R : TxS w h a L) (k : ∀ o, h.get? a = some o → h'.get? a = some o) : TxS w h' a L := by
  obtain ⟨ob, ee, ep, tb, q, r⟩ := R
  exact ⟨ob, ee, ep, tb, k ob q, r⟩
theorem tx_small {ee : Array (Int × Value)} {L : List Str} (p : (ee.toList.map txOf).Perm L) : ee.size = L.length := by
  have q := p.length_eq
  rw [List.length_map, Array.length_toList] at q
  exact q
theorem tx_tail {g : Bool → Sem Unit} (hg : ∀ (c : Bool) (s1 : Shared) (Q1 : Unit → Shared → Prop), Q1 () s1 → wpAny (model P w) A (g c) Q1 E s1)
    {ob : Obj} {ee : Array (Int × Value)} {ep : Nat} {tb : SetTable} (ho : s.heap.get? a = some ob) (hx : ob.ExactSet) (hd : ob.data = .set ee ep tb)
    {ff : Array (Int × Value)} {tc : SetTable} {M : List Str} (gg : ∀ x ∈ ff.toList, TxE w x) (pm : (ff.toList.map txOf).Perm M) (nd : M.Nodup) (sm : M.length < 64)
    (hf : tc.fits ff.size = true) (hr : Ris tc.place.toList) (hl : w.params.followText "set-order" = true ∨ tc.led = true) {wd : Bool} {R : Option Bool → Shared → Prop}
    (hR : ∀ h', Heap.SameBut a s.heap h' → TxS w h' a M → R (some true) { s with heap := h' }) :
    wpAny (model P w) A (storeSet a ff tc >>= fun _ =>
        if (!wd && tc.tooFull) = true then g (relayAll tc ff (SetTable.grown ff.size)).2.2 >>= fun _ =>
            storeSet a (relayAll tc ff (SetTable.grown ff.size)).1 (relayAll tc ff (SetTable.grown ff.size)).2.1 >>= fun _ => pure (some true)
          else pure (some true)) R E s := by
  have hb : ff.size < scanBound := by rw [tx_small pm]; unfold scanBound; omega
  refine wpAny_bind (wpAny_storeSet_of ho hd ?_ (fits_of_scanBound hb))
  have o1 := store_at (es' := ff) (t' := tc) ho hd
  have s1 := Heap.SameBut.update s.heap a (Obj.putSet ff tc)
  by_cases c : (!wd && tc.tooFull) = true
  · rw [if_pos c]
    have pl := relayAll_perm tc ff (SetTable.grown ff.size)
    have fl := relayAll_fits tc ff (SetTable.grown ff.size)
    have rl := relayAll_ris tc ff (SetTable.grown ff.size)
    have ll := relayAll_led tc ff (SetTable.grown ff.size)
    generalize relayAll tc ff (SetTable.grown ff.size) = Y at pl fl rl ll ⊢
    obtain ⟨kk, td, gv⟩ := Y
    dsimp only at pl fl rl ll ⊢
    have ez : kk.size = ff.size := by rw [← Array.length_toList, pl.length_eq, Array.length_toList]
    refine wpAny_bind (hg _ _ _ (wpAny_bind (wpAny_storeSet_of o1 rfl ?_ (fits_of_scanBound (by rw [ez]; exact hb)))))
    have o2 := store_at (es' := kk) (t' := td) o1 rfl
    exact wpAny_pure (hR _ (s1.trans (Heap.SameBut.update _ a _)) ⟨_, kk, _, td, o2, hx, rfl, fun x q => gg x (pl.mem_iff.mp q), (pl.map txOf).trans pm, nd, sm, fl, rl, hl.imp id fun z => by rw [ll]; exact z⟩)
  · rw [if_neg c]
    exact wpAny_pure (hR _ s1 ⟨_, ff, _, tc, o1, hx, rfl, gg, pm, nd, sm, hf, hr, hl⟩)
def addTo (L : List Str) (y : Str) : List Str := if y ∈ L then L else L ++ [y]
theorem addTo_len (L : List Str) (y : Str) : (addTo L y).length ≤ L.length + 1 := by
  unfold addTo
  split
  · omega
  · rw [List.length_append]; exact Nat.le_refl _
theorem tx_add {y : Str} {u : Tok} {Q : Bool → Shared → Prop} (R : TxS w s.heap a L) (room : L.length + 1 < 64)
    (hQ : ∀ c h', Heap.SameBut a s.heap h' → TxS w h' a (addTo L y) → Q c { s with heap := h' }) :
    wpAny (model P w) A (setAddHashed a (.str y u) ((PySem.strKind P w).hash y)) Q E s := by
  obtain ⟨ob, ee, ep, tb, ho, hx, hd, g, pm, nd, sm, hf, hr, hl⟩ := R
  have ky : (PySem.strKind P w).is y (.str y u) = true := strKind_is P w y u
  have sc : (Value.str y u).scannable = true := rfl
  have el : ElemsOf (PySem.strKind P w) ee.toList := tx_elems g
  have hb : ee.size < scanBound := by rw [tx_small pm]; unfold scanBound; omega
  unfold setAddHashed setAddHashedIn
  refine wpAny_holding (wpAny_bind (wpAny_setState_of ho hd hf ?_))
  dsimp only
  rw [byScan_of sc hb el]
  simp only [↓reduceIte]
  unfold setAddByScan
  refine wpAny_bind ?_
  refine wpAny_bind (wpAny_rule ?_)
  refine wpAny_bind (wpAny_setScan_of ky ho hd hf el ?_)
  cases fi : List.findIdx? (fun x => (PySem.strKind P w).is y x.2) ee.toList with
  | some j =>
    dsimp only
    obtain ⟨lj, pj, _⟩ := List.findIdx?_eq_some_iff_getElem.mp fi
    have my : y ∈ L := pm.mem_iff.mp (List.mem_map.mpr ⟨_, List.getElem_mem lj, (tx_is (g _ (List.getElem_mem lj)) y).1 pj⟩)
    refine wpAny_pure (wpAny_pure ?_)
    refine hQ _ s.heap (Heap.SameBut.refl a s.heap) ?_
    unfold addTo
    rw [if_pos my]
    exact ⟨ob, ee, ep, tb, ho, hx, hd, g, pm, nd, sm, hf, hr, hl⟩
  | none =>
    dsimp only
    have ny : y ∉ L := fun z => by
      obtain ⟨x, q1, q2⟩ := List.mem_map.mp (pm.mem_iff.mpr z)
      have c := List.findIdx?_eq_none_iff.mp fi x q1
      rw [(tx_is (P := P) (g x q1) y).2 q2] at c
      cases c
    have p1 := layNew_perm tb ee ((PySem.strKind P w).hash y) (.str y u)
    have f1 := layNew_fits tb ee ((PySem.strKind P w).hash y) (.str y u)
    have r1 := layNew_ris tb ee ((PySem.strKind P w).hash y) (.str y u) hr
    have l1 := layNew_led tb ee ((PySem.strKind P w).hash y) (.str y u)
    generalize layNew tb ee ((PySem.strKind P w).hash y) (.str y u) = Y at p1 f1 r1 l1 ⊢
    obtain ⟨ff, tc, wd, gv⟩ := Y
    dsimp only at p1 f1 r1 l1 ⊢
    rw [Array.toList_push] at p1
    have pc : ff.toList.Perm (((PySem.strKind P w).hash y, Value.str y u) :: ee.toList) := p1.trans (List.perm_append_singleton _ _)
    have gg : ∀ x ∈ ff.toList, TxE w x := fun x q => by
      rcases List.mem_cons.mp (pc.mem_iff.mp q) with z | z
      · subst z; exact ⟨y, u, rfl, rfl⟩
      · exact g x z
    have pk : (ff.toList.map txOf).Perm (addTo L y) := by
      unfold addTo
      rw [if_neg ny]
      exact (pc.map txOf).trans ((List.Perm.cons y pm).trans (List.perm_append_singleton _ _).symm)
    have nd1 : (addTo L y).Nodup := by
      unfold addTo
      rw [if_neg ny]
      exact (List.perm_append_singleton y L).nodup_iff.mpr (List.nodup_cons.mpr ⟨ny, nd⟩)
    have sm1 : (addTo L y).length < 64 := by
      unfold addTo
      rw [if_neg ny, List.length_append]
      exact room
    have led1 : w.params.followText "set-order" = true ∨ tc.led = true := hl.imp id fun z => by rw [l1]; exact z
    have gw : ∀ (c : Bool) (s1 : Shared) (Q1 : Unit → Shared → Prop), Q1 () s1 → wpAny (model P w) A (match c with | true => rule "set.scan.the-table-gave-way" | false => pure ()) Q1 E s1 :=
      fun c s1 Q1 q => by cases c <;> first | exact wpAny_pure q | exact wpAny_rule q
    refine wpAny_bind (gw _ _ _ ?_)
    split
    · refine wpAny_bind ?_
      rw [hashByValue_scannable 8 sc]
      refine wpAny_pure ?_
      refine tx_tail ?_ ho hx hd gg pk nd1 sm1 ?_ ?_ ?_ ?_
      · intro c s1 Q1 q; cases c <;> first | exact wpAny_pure q | exact wpAny_rule q
      · first | (split <;> first | exact f1 | exact SetTable.fits_plain_off f1) | exact f1
      · first | (split <;> exact r1) | exact r1
      · first | (split <;> exact led1) | exact led1
      · intro h' sb r; dsimp only; exact wpAny_pure (hQ _ h' sb r)
    · refine wpAny_bind (wpAny_pure ?_)
      simp only [↓reduceIte]
      refine tx_tail ?_ ho hx hd gg pk nd1 sm1 f1 r1 led1 ?_
      · intro c s1 Q1 q; cases c <;> first | exact wpAny_pure q | exact wpAny_rule q
      · intro h' sb r; dsimp only; exact wpAny_pure (hQ _ h' sb r)
/-- set.update's loop -/
theorem tx_loop {I : Addr} {fp wr : List Addr} {G : Array GenState → Array GenState → Prop} {n : Nat} {Pv : Nat → Value → Prop} {St : Nat → Shared → Prop} {R : Result → Shared → Prop}
    (W : WalksS P w A.in1 I fp wr G n Pv St) (B : Addr) (nB : B ∉ fp) (ys : List Str) (en : n = ys.length) (few : ys.length < 64) (vl : ∀ i v, Pv i v → ∃ y t, ys[i]? = some y ∧ v = .str y t) :
    ∀ (m i : Nat) (s : Shared), n - i = m → i ≤ n → St i s → TxS w s.heap B ((ys.take i).foldl addTo []) → ((ys.take i).foldl addTo []).length ≤ i →
      (∀ s', Moved (B :: wr) G s s' → TxS w s'.heap B (ys.foldl addTo []) → R (.ok (.ret .none)) s') →
      codeAny (model P w) A (.builtin "set.update.loop" ⟨[.ref B, .ref I], []⟩) R s := by
  have nw : B ∉ wr := fun z => nB (W.sub _ z)
  have sub1 : ∀ b ∈ wr, b ∈ B :: wr := fun b z => List.mem_cons_of_mem _ z
  intro m
  induction m with
  | zero =>
    intro i s e1 e2 st T tl K
    have ei : i = n := by omega
    subst ei
    refine codeAny_builtin PyProof.Rows.F.entry_set_update_loop ?_
    rw [Around.under_plainId PyProof.Rows.F.plain_set_update_loop _]
    show wpAny _ A.in1 (pyNext (.ref I) >>= _) _ _ s
    refine wpAny_bind (W.done s _ _ st fun s1 mv => ?_)
    show wpAny _ A.in1 (PySem.ret Value.none) _ _ s1
    rw [List.take_of_length_le (by omega)] at T
    exact wpAny_pure (K s1 (mv.mono sub1) (T.at fun o z => mv.heap B o nw z))
  | succ m ih =>
    intro i s e1 e2 st T tl K
    have lt : i < n := by omega
    refine codeAny_builtin PyProof.Rows.F.entry_set_update_loop ?_
    rw [Around.under_plainId PyProof.Rows.F.plain_set_update_loop _]
    show wpAny _ A.in1 (pyNext (.ref I) >>= _) _ _ s
    refine wpAny_bind (W.item i s _ _ lt st fun v s1 hp st1 mv => ?_)
    obtain ⟨y, t, gy, rfl⟩ := vl i v hp
    have T1 : TxS w s1.heap B ((ys.take i).foldl addTo []) := T.at fun o z => mv.heap B o nw z
    show wpAny _ A.in1 (holding [Value.str y t] (setAdd B (.str y t)) >>= _) _ _ s1
    refine wpAny_bind (wpAny_holding ?_)
    unfold setAdd
    refine wpAny_holding ?_
    refine wpAny_bind ((PySem.strKind P w).pyHash (k := y) (strKind_is _ _ _ _) ?_)
    refine tx_add (s := { s1 with toks := s1.toks + 1 }) T1 (by omega) fun c h1 sb T2 => ?_
    have et : (ys.take (i + 1)).foldl addTo [] = addTo ((ys.take i).foldl addTo []) y := by
      rw [List.take_add_one, gy, Option.toList_some, List.foldl_append]
      rfl
    have tl1 : ((ys.take (i + 1)).foldl addTo []).length ≤ i + 1 := by
      rw [et]
      exact Nat.le_trans (addTo_len _ y) (Nat.succ_le_succ tl)
    rw [← et] at T2
    refine wpAny_pure ⟨plainId_quiet PyProof.Rows.F.plain_set_update_loop _, ih (i + 1) _ (by omega) lt (W.frame _ s1 _ _ st1 (Nat.le_succ _) fun b z o e => ?_) T2 tl1 fun s2 mv2 T3 => ?_⟩
    · rw [sb.2 b (fun z2 : b = B => nB (by rw [← z2]; exact z))]; exact e
    · refine K s2 (Moved.trans W.gtrans ((mv.mono sub1).then_heap (Nat.le_succ _) fun b o z e => ?_) mv2) T3
      rw [sb.2 b (fun z2 : b = B => z (by rw [z2]; exact List.mem_cons_self))]; exact e
abbrev eSet (w : World) : Obj := { cls := .type "set", dict := none, data := .set #[] 0 (.fresh 0 0 (!w.params.followText "set-order")) }
theorem tx_new {h : Heap} (q : h.get? a = some (eSet w)) : TxS w h a [] :=
  ⟨_, #[], 0, _, q, ⟨rfl, rfl, rfl⟩, rfl, (fun x z => by simp at z), List.Perm.refl _, List.nodup_nil, by decide, rfl, List.Pairwise.nil, by
    cases z : w.params.followText "set-order"
    · exact .inr rfl
    · exact .inl rfl⟩
set_option maxHeartbeats 3200000 in
/-- set(xs) -/
theorem call_setTx {l : Addr} {its : Array Value} {ys : List Str} {Q : Value → Shared → Prop} (hn : A.handled = none) (il : s.heap.IsList l its) (iv : PyProof.Rows.StrsAre its.toList ys) (few : ys.length < 64)
    (K : ∀ (h1 : Heap) (tk : Nat), TxS w h1 s.heap.objs.size (ys.foldl addTo []) → (∀ b o, s.heap.get? b = some o → h1.get? b = some o) → Q (.ref s.heap.objs.size) { s with heap := h1, toks := tk }) :
    wpAny (model P w) A (call (.type "set") [.ref l]) Q E s := by
  obtain ⟨c0, tl0, mro0⟩ := PySem.F.called_set.mro
  have md := PySem.F.called_set.made
  have sb0 := PySem.F.called_set.sub
  refine wpAny_call (codeAny_of_tree ?_)
  show wpAny _ _ (callAny (.type "set") _) _ _ _
  refine wpAny_pure ⟨Code.quiet_builtin _ (by decide +kernel), codeAny_builtin PySem.F.entry_type_call ?_⟩
  rw [Around.under_plain (weight_type_call_type "set" [.ref l] []) rfl]
  have nt := PySem.F.called_set.notType
  have cc := PySem.F.called_set.canCreate
  have ct := PySem.F.typeCall_set_1 (.ref l)
  repeat (any_goals (first | assumption | wp_step))
  refine codeAny_mono (code_set_led1 (.ref l) (E := E) (Q₁ := fun x s1 => x = .ref s.heap.objs.size ∧ s1 = { s with heap := s.heap.push (eSet w) }) ⟨rfl, rfl⟩) fun r s1 hr => ?_
  cases r with
  | error e => exact hr
  | ok fl =>
    cases fl with
    | ret x =>
      obtain ⟨rfl, rfl⟩ := hr
      have gB : (s.heap.push (eSet w)).get? s.heap.objs.size = some (eSet w) := Heap.get?_push_size _ rfl
      have tB : Shared.TypeIs { s with heap := s.heap.push (eSet w) } (.ref s.heap.objs.size) "set" := ⟨_, gB, rfl⟩
      have lk := PySem.F.called_set.init.lookup
      have bd := PySem.F.called_set.init.bind (.ref s.heap.objs.size)
      repeat (any_goals (first | assumption | wp_step))
      refine codeAny_mono (codeAny_call_builtin (R := wants (fun r s2 => r = .none ∧ ∃ h1 tk, s2 = { s with heap := h1, toks := tk } ∧ TxS w h1 s.heap.objs.size (ys.foldl addTo []) ∧
          ∀ b o, s.heap.get? b = some o → h1.get? b = some o) E) PySem.F.called_set.init.plain PySem.F.entry_set_init (check_set_init_1 tB ?_)) fun r2 s2 hr2 => ?_
      · obtain ⟨ol, gl, cl, nl, dl⟩ := il
        obtain ⟨oc, od, oa, os⟩ := ol
        simp only at cl dl
        subst cl; subst dl
        have gl1 : (s.heap.push (eSet w)).get? l = some { cls := .type "list", dict := od, data := .seq its nl, slots := os } := Heap.get?_push_of_some _ gl
        have u1 := PySem.F.sub_list_set
        have u2 := PySem.F.sub_list_frozenset
        have u3 : (Value.type "list" == Value.type "dict") = false := by decide
        have il1 : (s.heap.push (eSet w)).IsList l its := ⟨_, gl1, rfl, nl, rfl⟩
        unfold Builtin.«set.__init__» noKeywords Builtin.Frozenset.updateFrom
        generalize pI : pyIter = PI
        wp_walk
        subst pI
        refine wpAny_pyIter_list il1 ?_
        refine wpAny_bind (wpAny_runValue ?_)
        have lS : l < s.heap.objs.size := Heap.lt_size gl
        have h3 : A.in1.in1.in1.handled = none := by simp [hn]
        have z1 : (s.heap.push (eSet w)).objs.size = s.heap.objs.size + 1 := Heap.size_push ..
        have nI : l ≠ (s.heap.push (eSet w)).objs.size := by rw [z1]; exact Nat.ne_of_lt (Nat.lt_succ_of_lt lS)
        have nB : s.heap.objs.size ∉ [(s.heap.push (eSet w)).objs.size, l] := by
          rw [z1]
          simp only [List.mem_cons, List.not_mem_nil, or_false, not_or]
          exact ⟨Nat.ne_of_lt (Nat.lt_succ_self _), Nat.ne_of_gt lS⟩
        have hz : its.size = ys.length := by rw [← StrsAre.len_eq iv, Array.length_toList]
        have vl : ∀ (i : Nat) (v : Value), its[i]? = some v → ∃ y t, ys[i]? = some y ∧ v = .str y t := fun i v q => by
          obtain ⟨t, e⟩ := SS.strs_at iv i v (by rw [Array.getElem?_toList]; exact q)
          have hi : i < ys.length := by rw [← hz]; exact (Array.getElem?_eq_some_iff.mp q).1
          exact ⟨_, t, by rw [List.getD_eq_getElem?_getD, List.getElem?_eq_getElem hi]; rfl, e⟩
        refine tx_loop ((Walks.list h3 _ l nI its).toS) s.heap.objs.size nB ys hz few vl (its.size - 0) 0 _ (by omega) (Nat.zero_le _)
          ⟨⟨_, Heap.get?_push_size _ rfl, rfl, rfl⟩, (il1.push _)⟩ (tx_new (Heap.get?_push_of_some _ gB)) (Nat.le_refl _) fun s3 mv T => ?_
        obtain ⟨h1, g1, d1, tk1, os1⟩ := s3
        have eg : g1 = s.gens := mv.gens
        have ed : d1 = s.drawn := mv.drawn
        have eo : os1 = s.os := mv.os
        subst eg; subst ed; subst eo
        show wpAny _ _ _ _ _ _
        refine wpAny_pure ?_
        show wpAny _ _ (PySem.ret Value.none) _ _ _
        refine wpAny_pure ⟨rfl, h1, tk1, rfl, T, fun b o e => ?_⟩
        have hb := Heap.lt_size e
        refine mv.heap b o ?_ (Heap.get?_push_of_some _ (Heap.get?_push_of_some _ e))
        rw [z1]
        simp only [List.mem_cons, List.not_mem_nil, or_false, not_or]
        exact ⟨Nat.ne_of_lt hb, Nat.ne_of_lt (Nat.lt_succ_of_lt hb)⟩
      · cases r2 with
        | error e => exact hr2
        | ok fl2 =>
          cases fl2 with
          | ret r =>
            obtain ⟨rfl, h1, tk, rfl, T, kp⟩ := hr2
            repeat (any_goals (first | assumption | wp_step))
            exact K _ _ T kp
          | _ => exact hr2.elim
    | _ => exact hr.elim
end
end DS
namespace DS
open PySem PySem.Spec PyProof.Rows L2
/-! ### sorted of a set of texts -/
def leS (x y : Str) : Bool := PySem.W.dataLe false (fun b : Str => PyData.str b) x y
theorem leS_eq (x y : Str) : leS x y = decide (x.cps.toList ≤ y.cps.toList) := by
  unfold leS
  rw [PySem.W.dataLe_str (fun b : Str => b)]
theorem leS_trans (x y z : Str) : leS x y = true → leS y z = true → leS x z = true := by
  simp only [leS_eq, decide_eq_true_eq]
  exact List.le_trans
theorem leS_total (x y : Str) : (leS x y || leS y x) = true := by
  simp only [leS_eq, Bool.or_eq_true, decide_eq_true_eq]
  exact List.le_total _ _
theorem leS_anti (x y : Str) (h : leS x y = true) (k : leS y x = true) : x = y := by
  simp only [leS_eq, decide_eq_true_eq] at h k
  have e := List.le_antisymm h k
  cases x; cases y
  simp only at e
  exact congrArg Str.mk (Array.toList_inj.mp e)
theorem sort_one {l k : List Str} (p : l.Perm k) : l.mergeSort leS = k.mergeSort leS :=
  List.Perm.eq_of_pairwise (fun x y _ _ h h' => leS_anti x y h h') (List.pairwise_mergeSort leS_trans leS_total l) (List.pairwise_mergeSort leS_trans leS_total k)
    ((List.mergeSort_perm l leS).trans (p.trans (List.mergeSort_perm k leS).symm))
section
variable {P : Program} {w : World} {A : Around} {E : Value → Shared → Prop} {s : Shared} {a : Addr} {L : List Str}
abbrev isTx : Value → Str → Prop := fun v y => ∃ t, v = .str y t
theorem each_tx (r : Value → Str → Prop) : ∀ (vs : List Value), (∀ v ∈ vs, ∃ y t, v = .str y t) → (∀ y t, r (.str y t) y) → PySem.W.EachIs r vs (vs.map fun v => txOf (0, v))
  | [], _, _ => .nil
  | v :: vs, h, k => by
    obtain ⟨y, t, e⟩ := h v List.mem_cons_self
    subst e
    exact .cons (k y t) (each_tx r vs (fun u q => h u (List.mem_cons_of_mem _ q)) k)
theorem sort_setTx {Q : Value → Shared → Prop} (R : TxS w s.heap a L) (hn : A.handled = none) (hu : A.units + 100 < cLine)
    (K : ∀ s1 p (out : Array Value) (c : Nat), (∀ b o, s.heap.get? b = some o → s1.heap.get? b = some o) → s1.gens = s.gens → s1.os = s.os → s.heap.objs.size ≤ p →
      s1.heap.get? p = some (seqObj "list" out c) → PySem.W.EachIs isTx out.toList (L.mergeSort leS) → Q (.ref p) s1) :
    wpAny (model P w) A (call (.builtin "sorted") [.ref a]) Q E s := by
  obtain ⟨ob, ee, ep, tb, ho, hx, hd, g, pm, nd, sm, hf, hr, hl⟩ := R
  have zz := tx_small pm
  refine Calls.call_function_entry kind_sorted plain_sorted entry_sorted (args_sorted1 _) ?_
  unfold Builtin.«sorted»
  refine wpAny_bind (m := checkCount "sorted" 1 1 _) (wpAny_pure ?_)
  refine wpAny_bind (collect_set (A := A.in1) hn ⟨ob, ho, hx.1, hd⟩ hf (by rw [zz]; unfold scanBound; omega) hr hl fun s1 vs k1 hz g1 o1 pv => ?_)
  have vl : vs.length < 64 := by rw [pv.length_eq, List.length_map, Array.length_toList, zz]; exact sm
  have vt : ∀ v ∈ vs, ∃ y t, v = Value.str y t := fun v q => by
    obtain ⟨x, q1, q2⟩ := List.mem_map.mp (pv.mem_iff.mp q)
    obtain ⟨y, u, e, _⟩ := g x q1
    exact ⟨y, u, by rw [← q2]; exact e⟩
  have pt : (vs.map fun v => txOf (0, v)).Perm L := by
    have q := pv.map fun v => txOf (0, v)
    rw [List.map_map] at q
    exact q.trans pm
  refine wpAny_bind (wpAny_newList ?_ (by rw [sizeLine_eq]; omega))
  have oL : (s1.heap.push (seqObj "list" vs.toArray 0)).get? s1.heap.objs.size = some (seqObj "list" vs.toArray 0) := Heap.get?_push_size _ rfl
  refine wpAny_bind (wpAny_holding (PySem.W.list_sort_data (A := A.in1) (s := { s1 with heap := s1.heap.push (seqObj "list" vs.toArray 0) }) (R := isTx) (enc := fun b : Str => PyData.str b) oL
    (each_tx isTx vs vt fun y t => ⟨t, rfl⟩) (each_tx _ vs vt fun y t => ⟨[], .str _ _, by simp⟩) ?_ ?_ (by rw [List.length_map, sizeLine_eq]; omega) (fun b _ => ?_) fun out e1 e2 => ?_))
  · intro d h1 d' h2
    obtain ⟨y, _, rfl⟩ := List.mem_map.mp h1
    obtain ⟨z, _, rfl⟩ := List.mem_map.mp h2
    rfl
  · refine .inr fun d h1 => ?_
    obtain ⟨y, _, rfl⟩ := List.mem_map.mp h1
    exact ⟨(fun z => by cases z), fun xs z => by cases z⟩
  · show A.in1.units + 1 + 0 < cLine
    have : A.in1.units = A.units + 1 := rfl
    omega
  · obtain ⟨c, hc⟩ := sortedHeap_at (vs := vs) (out := out.toArray) oL
    refine wpAny_pure ⟨_, rfl, K _ s1.heap.objs.size out.toArray c (fun b u e => ?_) g1 o1 hz hc ?_⟩
    · have q := k1 b u e
      have lt := Heap.lt_size q
      show (sortedHeap (s1.heap.push (seqObj "list" vs.toArray 0)) s1.heap.objs.size vs out.toArray).get? b = some u
      rw [sortedHeap_old (Nat.ne_of_lt lt) (by rw [size_push']; exact Nat.lt_succ_of_lt lt)]
      exact Heap.get?_push_of_some _ q
    · have e3 : (vs.map fun v => txOf (0, v)).mergeSort (PySem.W.dataLe false fun b : Str => PyData.str b) = L.mergeSort leS := sort_one pt
      rw [e3] at e2
      exact e2
end
/-! ### the rule -/
def txsD : List D → Option (List Str)
  | [] => some []
  | .str x :: ds => (txsD ds).map (x :: ·)
  | _ => none
def ssL (xs : List Str) : List D := ((xs.foldl addTo []).mergeSort leS).map .str
def ssD : D → Option (List D)
  | .list ds => match txsD ds with
    | some xs => if xs.length < 64 then some (ssL xs) else none
    | none => none
  | _ => none
def ssM (m : M D) : M (List D) := bnd m fun x => opt (ssD x)
@[simp ↓] theorem ssM_eq (m : M D) (ρ : Rho) : ssM m ρ = (bnd m fun x => opt (ssD x)) ρ := id rfl
def rSetTx (K : PySem.W.Frag) (w : World) : List V → Hp → VK → Prop := fun xs H Q => ∃ l, ∃ ys : List Str, xs = [.ref l] ∧ SqL K H l (ys.map V.str) ∧ ys.length < 64 ∧
  ∀ q, H q = none → Q (.ref q) (upd H q (.ext fun h => TxS w h q (ys.foldl addTo [])))
theorem cr_setTx {X : Cx} (hc : X.calm = true) : CallR X (.type "set") (rSetTx X.K X.w) := by
  intro pins s σ H xs us Q I r h
  obtain ⟨l, ys, rfl, hl, few, q⟩ := h
  rw [Vals.ref1 r]
  obtain ⟨its, rv, pl, hz⟩ := I.list hl
  refine call_setTx (P := X.prog) (w := X.w) (I.ok.hd hc) pl.isList (by simpa using strsAre_of rv) few fun h1 tk T k => ?_
  refine ⟨.ref s.heap.objs.size, upd H s.heap.objs.size (.ext fun h => TxS X.w h s.heap.objs.size (ys.foldl addTo [])), I.laid (t' := tk) k (Nat.le_refl _) ?_, rfl, q _ (I.hok.fresh (Nat.le_refl _))⟩
  have ⟨o, _, _, _, ho, _⟩ := T
  exact ⟨T, ⟨o, ho⟩, fun h1 h2 p k => TxS.at p k⟩
def rSortTx (w : World) : List V → Hp → VK → Prop := fun vs H Q => ∃ a L, vs = [V.ref a] ∧ H a = some (.ext fun h => TxS w h a L) ∧ ∀ p, H p = none → Q (.ref p) (upd H p (.lst ((L.mergeSort leS).map V.str)))
theorem vals_tx : ∀ {us : List Value} {ys : List Str}, PySem.W.EachIs isTx us ys → Vals (ys.map V.str) us
  | _, _, .nil => .nil
  | _, _, .cons ⟨t, e⟩ r => .cons ⟨t, e⟩ (vals_tx r)
theorem cr_sortTx {X : Cx} (hc : X.calm = true) (hu : X.A.units + 100 < cLine) : CallR X (.builtin "sorted") (rSortTx X.w) := by
  intro pins s σ H vs us Q I r h
  obtain ⟨a, L, rfl, ha, q⟩ := h
  have R : TxS X.w s.heap a L := (I.hok a _ ha).1
  have sm : L.length < 64 := by obtain ⟨_, _, _, _, _, _, _, _, _, _, z, _⟩ := R; exact z
  rw [Vals.ref1 r]
  refine sort_setTx R (I.ok.hd hc) hu fun s1 p out c k g o hp hg he => ?_
  have hlen : ((L.mergeSort leS).map V.str).length ≤ sizeLine := by rw [List.length_map, List.length_mergeSort, sizeLine_eq]; omega
  have hn : H p = none := I.hok.fresh hp
  have J : Inv X pins σ (upd H p (.lst ((L.mergeSort leS).map V.str))) { s with heap := s1.heap, gens := s1.gens, drawn := s1.drawn, toks := s1.toks } :=
    I.call (ch := []) (Un.laid k hp hn) (I.hok.laid k hp ⟨hlen, out.toList, c, vals_tx he, hg⟩) (by rw [g]; exact I.bare) (fun _ z => nomatch z)
  have e : s1 = { s with heap := s1.heap, gens := s1.gens, drawn := s1.drawn, toks := s1.toks } := by
    cases s1; cases s; cases o; rfl
  rw [e]
  exact ⟨.ref p, _, J, rfl, q p hn⟩
theorem txsD_ok : ∀ {ds : List D} {xs : List Str}, txsD ds = some xs → ds = xs.map .str
  | [], xs, h => by cases h; rfl
  | .str x :: ds, xs, h => by
    unfold txsD at h
    cases e : txsD ds with
    | none => rw [e] at h; cases h
    | some ys =>
      rw [e] at h
      cases h
      rw [List.map_cons, ← txsD_ok e]
  | .none :: ds, xs, h => by cases h
  | .bool _ :: ds, xs, h => by cases h
  | .int _ :: ds, xs, h => by cases h
  | .list _ :: ds, xs, h => by cases h
  | .tuple _ :: ds, xs, h => by cases h
  | .dict _ :: ds, xs, h => by cases h
theorem rpa_txs {T : Wd} {H : Hp} : ∀ {xs : List Str} {vs : List V}, RpA T H (xs.map .str) vs → vs = xs.map V.str ∧ ∀ x ∈ xs, PyData.strOk x = true
  | [], vs, h => ⟨RpA.unnil h, fun x z => by cases z⟩
  | x :: xs, vs, h => by
    obtain ⟨v, r, e, q, z⟩ := RpA.uncons h
    obtain ⟨e2, k⟩ := rpa_txs z
    unfold Rp at q
    subst e
    refine ⟨by rw [q.1, e2]; rfl, fun y hy => ?_⟩
    rcases List.mem_cons.mp hy with e | hy
    · rw [e]; exact q.2
    · exact k y hy
theorem txs_rpa {T : Wd} {H : Hp} : ∀ {xs : List Str}, (∀ x ∈ xs, PyData.strOk x = true) → RpA T H (xs.map .str) (xs.map V.str)
  | [], _ => RpA.nil
  | x :: xs, h => RpA.cons (by unfold Rp; exact ⟨rfl, h x List.mem_cons_self⟩) (txs_rpa fun y hy => h y (List.mem_cons_of_mem _ hy))
theorem addTo_mem {L : List Str} {y z : Str} (h : z ∈ addTo L y) : z ∈ L ∨ z = y := by
  unfold addTo at h
  split at h
  · exact .inl h
  · rcases List.mem_append.mp h with h | h
    · exact .inl h
    · exact .inr (List.mem_singleton.mp h)
theorem addAll_mem {z : Str} : ∀ {xs L : List Str}, z ∈ xs.foldl addTo L → z ∈ L ∨ z ∈ xs
  | [], L, h => .inl h
  | x :: xs, L, h => by
    rcases addAll_mem (xs := xs) h with h | h
    · rcases addTo_mem h with h | h
      · exact .inl h
      · exact .inr (by rw [h]; exact List.mem_cons_self)
    · exact .inr (List.mem_cons_of_mem _ h)
section
variable {C : DC} {n : Nm} {pos : Pos}
theorem df_sortSet {a : Expr} {ma : M D} {p p2 pos2 : Pos} (S : Sc C n) (j k : Nat) (hj : n.bs[j]? = some ("sorted" : Str)) (hk : n.bs[k]? = some ("set" : Str)) (ha : DK C a ma) :
    DF C (.Call (.Name "sorted" p) [.Call (.Name "set" p2) [a] [] pos2] [] pos) (ssM ma) :=
  ⟨PE.imp (pe_callB (cr_sortTx S.calm (by have := S.room.un; omega)) (S.bl hj).1 (S.bl hj).2 (by decide +kernel)
      (pa_cons (pe_callTy (cr_setTx S.calm) (S.bl hk).1 (S.bl hk).2 (by decide +kernel) (pa_cons ha.pe pa_nil (star_ok ha.ok _ _)) (by decide) (by decide) (star_ok ha.ok _ _) rfl) pa_nil (star_ok rfl _ _)) (by decide) (by decide) (star_ok rfl _ _) rfl)
    fun σ H Q ⟨Hf, G, ρ, rr, h⟩ => post_bind rr h fun x d H1 Hf1 ρ1 s1 r1 rx p1 => (by
    obtain ⟨z, e, q⟩ := opt_post p1
    unfold ssD at e
    split at e
    · rename_i ds
      split at e
      · rename_i xs ex
        split at e
        · rename_i few
          cases e
          obtain ⟨a, vs, e1, sa, ra⟩ := rpt_list rx
          subst e1
          rw [txsD_ok ex] at ra
          obtain ⟨ev, ok⟩ := rpa_txs ra
          subst ev
          refine ⟨a, xs, rfl, sa, few, fun b nb => ?_⟩
          have r2 := r1.grow (Same.updN (o := .ext fun h => TxS C.X.w h b (xs.foldl addTo [])) nb)
          refine ⟨b, xs.foldl addTo [], rfl, upd_same, ?_⟩
          refine new_own r2 (txs_rpa fun y hy => ?_) q
          rcases addAll_mem (List.mem_mergeSort.mp hy) with z | z
          · cases z
          · exact ok y z
        · cases e
      · cases e
    · cases e), rfl⟩
end
end DS
set_option maxHeartbeats 4000000
/-! d[k] of one's own dict, a call with {} as its last argument, a call with a default. -/
namespace DS
open PySem L2
section
variable {X : Cx} {tb : List (Addr × Str)}
def rGetK (T : Wd) : R2 := fun x y H Q => ∃ Hf a p d key kvs xs ep dv, Same Hf H ∧ y = .ref a ∧ x = .ref p ∧ H p = some (dHO T xs ep p) ∧ (xs.map (·.1)).Nodup ∧ EntOk T Hf kvs xs ∧ nk d = some key ∧ key.depth ≤ 8 ∧ Rp T Hf d (.ref a) ∧ valK kvs key = some dv ∧ ∀ v, Rp T Hf dv v → Q v H
theorem ix_getK (hu : (nestedKind X.prog X.w).room X.A.in1) : IxR X (rGetK (wdOf X tb)) := by
  rintro value slice pins s σ H x y v u Q I rx ry ⟨Hf, a, p, d, key, kvs, xs, ep, dv, sm, rfl, rfl, h1, h2, h3, n, hd, r1, hv, q⟩ hs
  cases rx
  cases ry
  obtain ⟨b, val, v, e1, r2, rv⟩ := ent_val h3 dv hv
  have dk := dictOf_ok (T := wdOf X tb) rfl rfl rfl I sm h1 h2 h3
  exact PyProof.Rows.tail_any dk.typeIs PySem.slot_dict_getitem.lookup (getItem_keyed hu ⟨nk_is rfl I sm d r1 rfl n, hd⟩ ⟨xs, dk, rfl⟩ (v := val) (by rw [valueAt_pairsH, e1]; rfl) ⟨v, H, I.tok _, rv, q v r2⟩) hs
end
section
variable {C : DC} {n : Nm} {pos : Pos} {a : Expr} {ma : M D}
def gdM (i : Nat) (mk : M D) : M D := bnd (vsl.pkO i) fun _ => bnd mk fun k => fun ρ => match ρ[i]? with
  | some (.md kvs) => (match tupK k with
    | some key => opt (valK kvs key) ρ
    | none => .no)
  | _ => .no
@[simp ↓] theorem gdM_eq (i : Nat) (mk : M D) (ρ : Rho) : gdM i mk ρ = (bnd (vsl.pkO i) fun _ => bnd mk fun k => fun ρ => match ρ[i]? with
  | some (.md kvs) => (match tupK k with
    | some key => opt (valK kvs key) ρ
    | none => .no)
  | _ => .no) ρ := id rfl
theorem de_gd {x : Str} {p : Pos} (S : Sc C n) (i : Nat) (hi : i ∈ n.vs) (hx : n.N[i]? = some x) (ha : DE C a ma) : DE C (.Subscript (.Name x p) a pos) (gdM i ma) :=
  ⟨PE.imp (pe_ix (ix_getK (tb := C.tb) S.rmK) (pv_ok S i hi hx) ha.pe (ix_ok ha.ok)) fun σ H Q ⟨Hf, G, ρ, rr, h⟩ => (by
    unfold gdM bnd vsl.pkO at h
    cases eo : ρ[i]? with
    | none => simp only [eo] at h; exact h.elim
    | some z =>
      by_cases oz : owns z = true
      case neg => simp only [eo, oz] at h; exact h.elim
      simp only [eo, oz, if_true] at h
      obtain ⟨v, hv⟩ := slot_some rr eo (owns_un oz)
      refine ⟨v, hv, ?_⟩
      have h' : Post C (relE C.T) Hf G σ Q ((bnd ma fun k => fun ρ => match ρ[i]? with
        | some (.md kvs) => (match tupK k with
          | some key => opt (valK kvs key) ρ
          | none => .no)
        | _ => .no) ρ) := h
      refine post_bind rr h' fun y d H1 Hf1 ρ1 s1 r1 ry p1 => ?_
      cases e : ρ1[i]? with
      | none => simp only [e] at p1; exact p1.elim
      | some z =>
        simp only [e] at p1
        cases z with
        | un => exact p1.elim
        | im d => exact p1.elim
        | ml d => exact p1.elim
        | mi c d => exact p1.elim
        | md kvs =>
          dsimp only at p1
          cases ek : tupK d with
          | none => rw [ek] at p1; exact p1.elim
          | some key =>
            rw [ek] at p1
            dsimp only at p1
            obtain ⟨dv, ev, q⟩ := opt_post p1
            obtain ⟨k1, k2, k3⟩ := tupK_some ek
            obtain ⟨b, rfl⟩ := k3 ry
            have hs := r1.sl i _ e
            rw [hv] at hs
            obtain ⟨p, hp, _, _, hs, xs, ep, hH, nd, en⟩ := hs
            cases hp
            exact ⟨Hf1, b, p, d, key, kvs, xs, ep, dv, r1.fz, rfl, rfl, hH, nd, en, k1, k2, ry, ev, fun v rv => q v H1 Hf1 (Same.refl _) r1 rv⟩), rfl⟩
/-! ### defaults -/
structure HasXD (T : Wd) (x : Str) (k : Nat) (F : List Sl → Res D) (i : Int) : Prop where
  ex : ∃ f fd ps t, FnOk T.P T.w T.K T.mg T.base (L2.CX T.P T.w) k f fd ps (fsp T F) ∧ T.mg x = some (.ref f) ∧ PySem.W.keepIn T.K (.ref f) = true ∧ Binds T.K fd ps [Value.int i t]
theorem avs_snoc {T : Wd} {Hf : Hp} {σ : St} {d : D} {u : V} (r : Rp T Hf d u) : ∀ {vs : List V} {as : List AV}, avsOk T Hf σ vs as → avsOk T Hf σ (vs ++ [u]) (as ++ [.im d])
  | [], as, h => by
    have h : as = [] := h
    subst h
    exact ⟨_, _, rfl, r, rfl⟩
  | v :: vs, as, ⟨a, q, e, h1, h2⟩ => by
    subst e
    exact ⟨_, _, rfl, h1, avs_snoc r h2⟩
def callK (F : List Sl → Res D) (i : Int) (as : List AV) : M D := callM F (as ++ [.im (.int i)])
@[simp ↓] theorem callK_eq (F : List Sl → Res D) (i : Int) (as : List AV) : callK F i as = callM F (as ++ [.im (.int i)]) := id rfl
theorem de_callXD {x : Str} {p : Pos} {e : Expr} {es : List Expr} {k : Nat} {F : List Sl → Res D} {i : Int} {m : M (List AV)} (S : Sc C n) (j : Nat) (hj : n.gs[j]? = some x) (h : HasXD C.T x k F i) (hk : k ≤ n.lv) (ha : DV C (e :: es) m) :
    DE C (.Call (.Name x p) (e :: es) [] pos) (bnd m (callK F i)) := by
  obtain ⟨f, fd, ps, t, hf, hm, hkp, hb⟩ := h.ex
  have hok := ha.ok
  rw [List.all_cons, Bool.and_eq_true] at hok
  exact ⟨PE.imp (pe_callSD hf (S.room.mono hk) (S.gl hj).1 hm hkp hb (dvs := [V.int i]) (.cons ⟨t, rfl⟩ .nil) (fun σ => passAt S.tk σ) ha.pa (plB_d (S.gl hj).2).1 (star_ok hok.1 _ _) (all_star hok.2)) fun σ H Q ⟨Hf, G, ρ, rr, h⟩ => post_bind rr h fun vs as H1 Hf1 ρ1 s1 r1 ra p1 =>
    call_core r1 (avs_snoc (d := .int i) (u := .int i) (by unfold Rp; rfl) ra) p1, rfl⟩
/-! ### {} as the last argument -/
abbrev relVD (T : Wd) : Rel (List V) (List AV) := fun Hf G σ H ρ vs as => ∃ us q, vs = us ++ [.ref q] ∧ avsOk T Hf σ us as ∧ Fresh Hf G σ ρ q ∧ DictAt T Hf H q []
structure DVD (C : DC) (es : List Expr) (m : M (List AV)) : Prop where
  pa : PA C.X es (Lft C (relVD C.T) m)
  ok : es.all okE = true
theorem dvd_end {pos : Pos} : DVD C [.Dict [] [] pos] (ret []) :=
  ⟨PA.imp (pa_cons (dd_empty (C := C) (pos := pos)).pe pa_nil rfl) fun σ H Q ⟨Hf, G, ρ, rr, h⟩ => ⟨Hf, G, ρ, rr, fun v H1 Hf1 s1 r1 ⟨p, e, fr, dd⟩ => by
    subst e
    exact h [.ref p] H1 Hf1 s1 r1 ⟨[], p, rfl, rfl, fr, dd⟩⟩, rfl⟩
theorem dvd_im {e : Expr} {es : List Expr} {a : M D} {b : M (List AV)} (h1 : DE C e a) (h2 : DVD C es b) : DVD C (e :: es) (vim a b) :=
  ⟨PA.imp (pa_cons h1.pe h2.pa (star_ok h1.ok _ _)) fun σ H Q ⟨Hf, G, ρ, rr, h⟩ => post_bind rr h fun x d H1 Hf1 ρ1 s1 r1 rx p1 => post_bind r1 p1 fun xs ds H2 Hf2 ρ2 s2 r2 ⟨us, q, e1, rxs, fr, dd⟩ p2 => by
    subst e1
    exact p2 (x :: (us ++ [.ref q])) H2 Hf2 (Same.refl _) r2 ⟨x :: us, q, rfl, ⟨_, _, rfl, Rp.mono s2 _ _ rx, rxs⟩, fr, dd⟩, by rw [List.all_cons, h1.ok, h2.ok]; rfl⟩
def callD (F : List Sl → Res D) (as : List AV) : M D := fun ρ => match resolve ρ as with
  | none => .no
  | some args => if (slots as).isEmpty then
      match F (args ++ [.md []]) with
      | .ok d _ => .ok d ρ
      | _ => .no
    else .no
@[simp ↓] theorem callD_eq (F : List Sl → Res D) (as : List AV) (ρ : Rho) : callD F as ρ = match resolve ρ as with
  | none => .no
  | some args => if (slots as).isEmpty then
      match F (args ++ [.md []]) with
      | .ok d _ => .ok d ρ
      | _ => .no
    else .no := id rfl
theorem im_args {ρ : Rho} : ∀ {as : List AV} {args : List Sl}, resolve ρ as = some args → slots as = [] → ∀ x ∈ args, owns x = false
  | [], _, h, _, x, hx => by cases h; cases hx
  | .im d :: as, _, h, hs, x, hx => by
    obtain ⟨r, e, rfl⟩ := Option.map_eq_some_iff.mp (show (resolve ρ as).map (.im d :: ·) = some _ from h)
    rcases List.mem_cons.mp hx with rfl | hx
    · rfl
    · exact im_args e hs x hx
  | .sl i :: as, _, h, hs, x, hx => by cases hs
theorem call_coreD {F : List Sl → Res D} {Hf G : Hp} {σ : St} {H : Hp} {ρ : Rho} {us : List V} {q : Addr} {as : List AV} {Q : VK} {E : XK} (rr : RR C.F Hf G σ H ρ) (ra : avsOk C.T Hf σ us as) (fr : Fresh Hf G σ ρ q) (dd : DictAt C.T Hf H q [])
    (p : Post C (relE C.T) Hf G σ Q (callD F as ρ)) : fsp C.T F (us ++ [.ref q]) H Q E := by
  unfold callD at p
  cases er : resolve ρ as with
  | none => rw [er] at p; exact p.elim
  | some args =>
    rw [er] at p
    dsimp only at p
    by_cases hs : (slots as).isEmpty = true
    case neg => rw [if_neg hs] at p; exact p.elim
    rw [if_pos hs] at p
    have hs : slots as = [] := List.isEmpty_iff.mp hs
    have hn : nodupB (slots as) = true := by rw [hs]; rfl
    obtain ⟨c1, c2⟩ := call_pre rr ra er hn
    have ln := res_len er
    have lv := avs_len ra
    have im := im_args er hs
    obtain ⟨xs0, ep0, hq, nd0, en0⟩ := dd.2
    have nt : ∀ t ∈ C.T.tb, t.1 ≠ q := rr.tb.ne hq fun ps z => by unfold dHO at z; cases z
    -- what the callee leaves: all but the new dict
    have gq : ∀ b o, gc Hf H (fun b => passedT C.T.tb σ as b ∨ b = q) b = some o → gc Hf H (passedT C.T.tb σ as) b = some o := fun b o e => by
      obtain ⟨e1, e2, e3⟩ := gc_out e
      exact gc_in e1 (fun z => e2 (.inl z)) e3
    refine ⟨Hf, gc Hf H (fun b => passedT C.T.tb σ as b ∨ b = q), args ++ [.md []], rr.fz, fun b o e => (gc_out e).2.2, fun b o e => (gc_out e).1, fun t ht => ⟨(rr.tb t ht).1, gc_ps (.inl (.inr ⟨t, ht, rfl⟩)), (rr.tb t ht).2.2⟩, by simp [ln, lv], fun i v x hv hx => ?_, fun i j p x y hij hx hy ox oy hi hj => ?_, ?_⟩
    · by_cases hl : i < args.length
      · rw [List.getElem?_append_left hl] at hx
        rw [List.getElem?_append_left (by rw [← lv, ← ln]; exact hl)] at hv
        obtain ⟨h1, h2⟩ := c1 i v x hv hx
        refine ⟨?_, h2⟩
        have : owns x = false := im x (List.mem_of_getElem? hx)
        cases x with
        | un => exact absurd rfl h2
        | im d => exact h1
        | ml d => cases this
        | md d => cases this
        | mi c d => cases this
      · have hi : i = args.length := by
          have := lt_of_get hx
          simp at this
          omega
        subst hi
        rw [List.getElem?_append_right (Nat.le_refl _), Nat.sub_self] at hx
        have e : us.length = args.length := by rw [← lv, ← ln]
        rw [← e, List.getElem?_append_right (Nat.le_refl _), Nat.sub_self] at hv
        simp at hx hv
        subst hx hv
        exact ⟨⟨q, rfl, fr.1, gc_ps (.inr rfl), dd⟩, fun z => by cases z⟩
    · have own : ∀ {i : Nat} {x : Sl}, (args ++ [Sl.md []])[i]? = some x → owns x = true → i = args.length := fun {i x} hx ox => by
        by_cases hl : i < args.length
        · rw [List.getElem?_append_left hl] at hx
          rw [im x (List.mem_of_getElem? hx)] at ox
          cases ox
        · have := lt_of_get hx
          simp at this
          omega
      exact hij ((own hx ox).trans (own hy oy).symm)
    · cases e : F (args ++ [.md []]) with
      | ok d args' =>
        rw [e] at p
        intro v H' Hf' s1 fz fg dj tf rv hp
        refine p v H' Hf' s1 ?_ rv
        -- the callee kept all that the caller holds
        have keepG : ∀ b o, G b = some o → H' b = some o := fun b o eb => fg b o (gc_in (rr.dj b o eb) (fun z => by
          rcases z with z | z
          · rcases z with ⟨j, hj, _⟩ | ⟨t, ht, et⟩
            · rw [hs] at hj; cases hj
            · exact rr.tb.notG eb t ht et
          · subst z
            rw [fr.2.1] at eb; cases eb) (rr.fg b o eb))
        have keepO : ∀ {i : Nat} {x : Sl} {b : Addr} {u : HO}, ρ[i]? = some x → owns x = true → σ[i]? = some (some (.ref b)) → H b = some u → gc Hf H (fun b => passedT C.T.tb σ as b ∨ b = q) b = some u := fun {i x b u} ex ox hb hu => gc_in (rr.own ex ox hb).1 (fun z => by
          rcases z with z | z
          · rcases z with ⟨j, hj, _⟩ | ⟨t, ht, et⟩
            · rw [hs] at hj; cases hj
            · exact rr.ownT ex ox hb t ht et
          · subst z
            exact fr.2.2 i x ex ox hb) hu
        refine ⟨fz, keepG, fun b o eb => dj b o (gc_in (rr.dj b o eb) (fun z => by
          rcases z with z | z
          · rcases z with ⟨j, hj, _⟩ | ⟨t, ht, et⟩
            · rw [hs] at hj; cases hj
            · exact rr.tb.notG eb t ht et
          · subst z
            rw [fr.2.1] at eb; cases eb) (rr.fg b o eb)), rr.len, fun i x ex => ?_, rr.ds, rr.kp, fun t ht => ⟨(tf t ht).1, (rr.tb t ht).2.1, (tf t ht).2.2⟩⟩
        refine ((rr.sl i x ex).at fun b u ox hb hu => fg b u (keepO ex ox hb hu)).fz s1 fun b ox hb => ?_
        obtain ⟨_, _, u, hu⟩ := rr.own ex ox hb
        exact dj b u (keepO ex ox hb hu)
      | ex x r => rw [e] at p; exact p.elim
      | no => rw [e] at p; exact p.elim
theorem de_callD {x : Str} {p : Pos} {e : Expr} {es : List Expr} {k : Nat} {F : List Sl → Res D} {m : M (List AV)} (S : Sc C n) (j : Nat) (hj : n.gs[j]? = some x) (h : Has C.T x k F) (hk : k ≤ n.lv) (ha : DVD C (e :: es) m) :
    DE C (.Call (.Name x p) (e :: es) [] pos) (bnd m (callD F)) := by
  obtain ⟨f, fd, ps, hf, hm, hkp, hb⟩ := h.ex
  have hok := ha.ok
  rw [List.all_cons, Bool.and_eq_true] at hok
  exact ⟨PE.imp (pe_call hf (S.room.mono hk) (S.gl hj).1 hm hkp hb .nil pass0 ha.pa (plB_d (S.gl hj).2).1 (star_ok hok.1 _ _) (all_star hok.2)) fun σ H Q ⟨Hf, G, ρ, rr, h⟩ => post_bind rr h fun vs as H1 Hf1 ρ1 s1 r1 ⟨us, q, e1, ra, fr, dd⟩ p1 => (by
    subst e1
    rw [List.append_nil]
    exact call_coreD r1 ra fr dd p1), rfl⟩
end
end DS
/-! Defs that call themselves, defs with a default: for the end. -/
namespace DS
open PySem L2
theorem memB {i : Nat} {l : List Nat} (h : l.contains i = true) : i ∈ l := List.contains_iff_mem.mp h
theorem dss_never {C : DC} {ss : List Stmt} : DSs C ss stop := ⟨⟨fun pins s σ H Q I h => by obtain ⟨_, _, _, _, z⟩ := h; exact z.elim⟩⟩
section
variable {P : Program} {w : World} {K : PySem.W.Frag} {mg : Str → Option Value} {base : Heap} {tb : List (Addr × Str)}
theorem funD_mk {x qual : Str} {sd : Stmt} {f T : Addr} {oc kV doc pm cdv ct : Value} {od an to : Option Addr} {osl ts : Array (Option Value)} {i : Int} {tn : Nat} {tk : Tok}
    (l : K.lookup f = some ⟨oc, od, .func (PySem.W.fnOf x qual (defArgs sd) (defBody sd) (defScope sd) (.ref T) kV doc pm an cdv ct), osl⟩) (c : PySem.W.codeIn K cdv qual = true) (k : PySem.W.keepIn K (.ref f) = true)
    (t : K.lookup T = some ⟨.type "tuple", to, .seq #[.int i tk] tn, ts⟩) : FunD K x qual (defArgs sd) (defBody sd) (defScope sd) [V.int i] [] f (PySem.W.fnOf x qual (defArgs sd) (defBody sd) (defScope sd) (.ref T) kV doc pm an cdv ct) :=
  ⟨⟨oc, od, .ref T, kV, doc, pm, an, cdv, ct, osl, rfl, l, c, .inr ⟨by simp, T, _, [.int i tk], tn, rfl, t, rfl, .cons ⟨tk, rfl⟩ .nil⟩, .inl rfl⟩, k⟩
theorem hasX_mkG {x qual : Str} {sd : Stmt} {f : Addr} {ps : List Str} {n : Nm} {m : M Flow} {oc dV kV doc pm cdv ct : Value} {od an : Option Addr} {osl : Array (Option Value)}
    (lk : K.lookup f = some ⟨oc, od, .func (PySem.W.fnOf x qual (defArgs sd) (defBody sd) (defScope sd) dV kV doc pm an cdv ct), osl⟩) (hcd : PySem.W.codeIn K cdv qual = true) (kp : PySem.W.keepIn K (.ref f) = true) (hm : mg x = some (.ref f))
    (hb : ∃ ds, Vals ([] : List V) ds ∧ Binds K (PySem.W.fnOf x qual (defArgs sd) (defBody sd) (defScope sd) dV kV doc pm an cdv ct) ps ds) (S : FnScope n.N ps (defScope sd)) (hp : ps.length ≤ n.N.length)
    (ck : scB n (defScope sd) = true) (bno : ∀ x ∈ n.bn, mg x = none) (fs : n.fs ⟨P, w, K, mg, base, tb⟩) (hD : ∀ C, Sc C n → LkSc C (defScope sd) → DSs C (defBody sd) m) : HasX ⟨P, w, K, mg, base, tb⟩ x (n.lv + 1) (runX ps.length n.N.length n.mp m) := by
  obtain ⟨ds, h1, h2⟩ := hb
  cases h1
  exact ⟨f, _, ps, fn_okXG (fun _ => True) lk hcd S hp ck bno fs (fun _ _ _ _ _ _ => trivial) (fun C S L _ => hD C S L), hm, kp, h2⟩
theorem hasXD_mk {x qual : Str} {sd : Stmt} {f : Addr} {ps : List Str} {n : Nm} {m : M Flow} {i : Int} {oc dV kV doc pm cdv ct : Value} {od an : Option Addr} {osl : Array (Option Value)}
    (lk : K.lookup f = some ⟨oc, od, .func (PySem.W.fnOf x qual (defArgs sd) (defBody sd) (defScope sd) dV kV doc pm an cdv ct), osl⟩) (hcd : PySem.W.codeIn K cdv qual = true) (kp : PySem.W.keepIn K (.ref f) = true) (hm : mg x = some (.ref f))
    (hb : ∃ ds, Vals [V.int i] ds ∧ Binds K (PySem.W.fnOf x qual (defArgs sd) (defBody sd) (defScope sd) dV kV doc pm an cdv ct) ps ds) (S : FnScope n.N ps (defScope sd)) (hp : ps.length ≤ n.N.length)
    (ck : scB n (defScope sd) = true) (bno : ∀ x ∈ n.bn, mg x = none) (fs : n.fs ⟨P, w, K, mg, base, tb⟩) (hD : ∀ C, Sc C n → LkSc C (defScope sd) → DSs C (defBody sd) m) : HasXD ⟨P, w, K, mg, base, tb⟩ x (n.lv + 1) (runX ps.length n.N.length n.mp m) i := by
  obtain ⟨ds, h1, h2⟩ := hb
  cases h1 with
  | cons r1 r2 =>
    cases r2
    obtain ⟨t, rfl⟩ := r1
    exact ⟨f, _, ps, t, fn_okXG (fun _ => True) lk hcd S hp ck bno fs (fun _ _ _ _ _ _ => trivial) (fun C S L _ => hD C S L), hm, kp, h2⟩
end
end DS
set_option maxHeartbeats 4000000
/-! d[k] of a dict that is one's own or frozen. -/
namespace DS
open PySem L2
section
variable {C : DC} {n : Nm} {pos : Pos} {a : Expr} {ma : M D}
def gdA (i : Nat) (mk : M D) : M D := fun ρ0 => match kvAt ρ0[i]? with
  | none => .no
  | some _ => (bnd mk fun k => fun ρ => match kvAt ρ[i]?, tupK k with
    | some kvs, some key => opt (valK kvs key) ρ
    | _, _ => .no) ρ0
@[simp ↓] theorem gdA_eq (i : Nat) (mk : M D) (ρ0 : Rho) : gdA i mk ρ0 = match kvAt ρ0[i]? with
  | none => .no
  | some _ => (bnd mk fun k => fun ρ => match kvAt ρ[i]?, tupK k with
    | some kvs, some key => opt (valK kvs key) ρ
    | _, _ => .no) ρ0 := id rfl
theorem de_gdA {x : Str} {p : Pos} (S : Sc C n) (i : Nat) (hi : i ∈ n.vs) (hx : n.N[i]? = some x) (ha : DE C a ma) : DE C (.Subscript (.Name x p) a pos) (gdA i ma) :=
  ⟨PE.imp (pe_ix (ix_getK (tb := C.tb) S.rmK) (pv_ok S i hi hx) ha.pe (ix_ok ha.ok)) fun σ H Q ⟨Hf, G, ρ, rr, h⟩ => (by
    unfold gdA at h
    cases e0 : kvAt ρ[i]? with
    | none => rw [e0] at h; exact h.elim
    | some kvs0 =>
      rw [e0] at h
      obtain ⟨q, xs0, ep0, hq, _⟩ := kv_at rr e0
      refine ⟨.ref q, hq, ?_⟩
      refine post_bind rr h fun y d H1 Hf1 ρ1 s1 r1 ry p1 => ?_
      split at p1
      · rename_i kvs key e ek
        obtain ⟨dv, ev, k⟩ := opt_post p1
        obtain ⟨k1, k2, k3⟩ := tupK_some ek
        obtain ⟨b, rfl⟩ := k3 ry
        obtain ⟨p, xs, ep, hp, hs, hH, nd, en⟩ := kv_at r1 e
        rw [hq] at hp
        cases hp
        exact ⟨Hf1, b, q, d, key, kvs, xs, ep, dv, r1.fz, rfl, rfl, hH, nd, en, k1, k2, ry, ev, fun v rv => k v H1 Hf1 (Same.refl _) r1 rv⟩
      · exact p1.elim), rfl⟩
end
end DS
set_option maxHeartbeats 4000000
/-! A dict that is walked by its keys; d.get(k, x). -/
namespace DS
open PySem L2
/-- the keys of the dict at d, in their order -/
def Itx (T : Wd) (xs : List (NestedKey × Addr × Value)) (ep : Nat) (d : Addr) : It :=
  ⟨fun i H => H d = some (dHO T xs ep d) ∧ i < xs.length, fun i H x H' => H' = H ∧ ∃ y, xs[i]? = some y ∧ x = .ref y.2.1, fun i H => H d = some (dHO T xs ep d) ∧ xs.length ≤ i⟩
section
variable {X : Cx} {pins : List (Addr × Obj)} {σ : St} {H : Hp} {s : Shared} {tb : List (Addr × Str)}
theorem dict_raw {T : Wd} {d : Addr} {xs : List (NestedKey × Addr × Value)} {ep : Nat} (I : Inv X pins σ H s) (h : H d = some (dHO T xs ep d)) : ∃ es, s.heap.DictRaw d es ep ∧ es.size = xs.length ∧ ∀ (i : Nat) (hi : i < es.size), ∃ y, xs[i]? = some y ∧ es[i].key = .ref y.2.1 := by
  have ho : ObjOk X.prog X.w H s.heap d (.ext fun h => ∃ o es, h.get? d = some o ∧ o.ExactDict ∧ o.data = .dict es ep ∧ es.toList = xs.map (entryOfKey (nestedKind T.P T.w))) := I.hok d _ h
  obtain ⟨⟨o, es, e1, e2, e3, e4⟩, _⟩ := ho
  have hl : es.size = xs.length := by rw [← Array.length_toList, e4, List.length_map]
  refine ⟨es, ⟨o, e1, e2, e3⟩, hl, fun i hi => ?_⟩
  have hx : i < xs.length := hl ▸ hi
  refine ⟨xs[i], List.getElem?_eq_getElem hx, ?_⟩
  have e : es.toList[i]? = (xs.map (entryOfKey (nestedKind T.P T.w)))[i]? := by rw [e4]
  rw [Array.getElem?_toList, Array.getElem?_eq_getElem hi, List.getElem?_map, List.getElem?_eq_getElem hx, Option.map_some] at e
  rw [Option.some.inj e]
  rfl
end
section
variable {P : Program} {w : World} {K : PySem.W.Frag} {tg : Expr}
theorem turn_keysX {T : Wd} {d : Addr} {xs : List (NestedKey × Addr × Value)} {ep : Nat} (it : Addr) : Turn P w K tg (Itx T xs ep d) [it] it (fun i h => h.IsKeyIter it d i xs.length ep) where
  mem := by simp
  obj := fun i h st b hb => by
    have e : b = it := by simpa using hb
    subst e
    obtain ⟨oi, e, c, dd⟩ := st
    exact ⟨oi, e, fun v z => by rw [dd] at z; cases z⟩
  keep := fun i h h' st k => st.at fun oi e => k it (by simp) oi e
  item := by
    intro X hP hw hK hc i pins s σ H E I hf st hg
    subst hP hw hK
    obtain ⟨hd, hi⟩ := hg
    obtain ⟨f0, f1, f2, f3, f4, f5⟩ := hf it (by simp)
    obtain ⟨es, raw, hl, ke⟩ := dict_raw I hd
    rw [← hl] at st hi
    refine wpAny_pyNext_keys_item_raw st raw hi fun h' st' sb => ?_
    have I1 : Inv X pins σ H { s with heap := h' } := I.turned (t' := s.toks) (fun b ob hb e => (sb.2 b hb).trans e) f0 f1 f3 f4 f5
    obtain ⟨oi, e, c, dd⟩ := id st'
    obtain ⟨y, hy, ey⟩ := ke i hi
    refine ⟨es[i].key, rfl, go_of (s := { s with heap := h' }) e c dd (by decide) ⟨.ref y.2.1, H, I1, ey, ⟨rfl, y, hy, rfl⟩, ?_, fun b hb => (hf b hb).1⟩⟩
    show h'.IsKeyIter it d (i + 1) xs.length ep
    rw [← hl]
    exact st'
  done := by
    intro X hP hw hK hc i pins s σ H E I hf st hg
    subst hP hw hK
    obtain ⟨hd, hi⟩ := hg
    obtain ⟨f0, f1, f2, f3, f4, f5⟩ := hf it (by simp)
    obtain ⟨es, raw, hl, ke⟩ := dict_raw I hd
    rw [← hl] at st hi
    exact wpAny_pyNext_keys_end_raw (I.ok.hd hc) st raw hi fun h' eb => ⟨rfl, I.turned (t' := s.toks) (fun b ob hb e => eb b ob hb e) f0 f1 f3 f4 f5⟩
  self := fun A i s Q E st h => wpAny_pyIter_keyiter st h
end
def iKeysX (T : Wd) (td : TE) : TI := fun σ H R => td σ H fun x H1 => ∃ d xs ep, x = .ref d ∧ (d == sysModules) = false ∧ H1 d = some (dHO T xs ep d) ∧ R (Itx T xs ep d) H1
theorem pi_keysX {X : Cx} {T : Wd} {tg e : Expr} {td : TE} (he : PE X e td) : PI X tg e (iKeysX T td) := by
  refine ⟨fun pins s σ H R I h => ?_⟩
  refine thn (he.run pins s σ H _ I h) fun u s1 ⟨x, H1, I1, rx, d, xs, ep, ex, hs, hd, q⟩ => ?_
  subst ex
  obtain rfl : u = Value.ref d := rx
  obtain ⟨es, raw, hl, ke⟩ := dict_raw I1 hd
  refine wpAny_pyIter_dict_raw hs raw (pi_one (tk := s1.toks) I1 _ (turn_keysX _) ⟨_, Heap.get?_push_size _ rfl, rfl, ?_⟩ q)
  rw [hl]
  rfl
/-- the keys of a frozen dict -/
def keysD : D → Option (List D)
  | .dict ((.none, .none) :: kvs) => some (kvs.map (·.1))
  | _ => none
@[simp ↓] theorem keysD_fr (kvs : List (D × D)) : keysD (frD kvs) = some (kvs.map (·.1)) := id rfl
def itD (m : M D) : M (List D) := bnd m fun x => opt (keysD x)
@[simp ↓] theorem itD_eq (m : M D) (ρ : Rho) : itD m ρ = (bnd m fun x => opt (keysD x)) ρ := id rfl
theorem ent_key {T : Wd} {Hf : Hp} : ∀ {kvs : List (D × D)} {xs : List (NestedKey × Addr × Value)} {i : Nat} {d : D} {y : NestedKey × Addr × Value}, EntOk T Hf kvs xs → (kvs.map (·.1))[i]? = some d → xs[i]? = some y → Rp T Hf d (.ref y.2.1)
  | [], xs, i, d, y, h, e, _ => by simp at e
  | p :: r, xs, 0, d, y, ⟨key, a, val, v, q, e1, n, hd, r1, r2, rv, t⟩, e, ey => by
    subst e1
    simp at e ey
    subst e ey
    exact r1
  | p :: r, xs, i + 1, d, y, ⟨key, a, val, v, q, e1, n, hd, r1, r2, rv, t⟩, e, ey => by
    subst e1
    simp only [List.map_cons, List.getElem?_cons_succ] at e ey
    exact ent_key t e ey
section
variable {C : DC} {n : Nm} {pos : Pos} {a b : Expr} {ma mb : M D}
theorem di_dict {tg : Expr} (h : DE C a ma) : DI C tg a (itD ma) :=
  ⟨PI.imp (pi_keysX (T := C.T) h.pe) fun σ H R ⟨Hf, G, ρ, rr, h⟩ => post_bind rr h fun x d H1 Hf1 ρ1 s1 r1 rx p1 => (by
    obtain ⟨ks, e, q⟩ := opt_post p1
    unfold keysD at e
    split at e
    · rename_i kvs
      cases e
      obtain ⟨p, xs, ep, rfl, hs, hH, nd, en⟩ := frD_rp (kvs := kvs) rx
      refine ⟨p, xs, ep, rfl, hs, r1.fz _ _ hH, q _ H1 Hf1 (Same.refl _) r1 ⟨fun i H s hi => ⟨s _ _ hH, ?_⟩, fun i H x H' d s e y => .inl ?_, fun H s => ⟨s _ _ hH, ?_⟩⟩⟩
      · rw [ent_len en]; simpa using hi
      · obtain ⟨e1, y, hy, rfl⟩ := y
        exact ⟨e1, ent_key en e hy⟩
      · rw [ent_len en]; simp
    · cases e), h.ok⟩
/-- d.get(k, x) -/
def gtM (i : Nat) (mk mv : M D) : M D := fun ρ0 => match kvAt ρ0[i]? with
  | none => .no
  | some _ => (bnd mk fun k => bnd mv fun v => fun ρ => match kvAt ρ[i]?, tupK k with
    | some kvs, some key => .ok ((valK kvs key).getD v) ρ
    | _, _ => .no) ρ0
@[simp ↓] theorem gtM_eq (i : Nat) (mk mv : M D) (ρ0 : Rho) : gtM i mk mv ρ0 = match kvAt ρ0[i]? with
  | none => .no
  | some _ => (bnd mk fun k => bnd mv fun v => fun ρ => match kvAt ρ[i]?, tupK k with
    | some kvs, some key => .ok ((valK kvs key).getD v) ρ
    | _, _ => .no) ρ0 := id rfl
def tGetOr (T : Wd) (to : TE) (ta : TA) : TE := fun σ H Q => to σ H fun x H1 => (∃ Hf p kvs xs ep, x = .ref p ∧ Same Hf H1 ∧ H1 p = some (dHO T xs ep p) ∧ (xs.map (·.1)).Nodup ∧ EntOk T Hf kvs xs) ∧ ta σ H1 fun vs H2 =>
  ∃ Hf a p v d key kvs xs ep, Same Hf H2 ∧ x = .ref p ∧ (p == sysModules) = false ∧ vs = [.ref a, v] ∧ H2 p = some (dHO T xs ep p) ∧ (xs.map (·.1)).Nodup ∧ EntOk T Hf kvs xs ∧ nk d = some key ∧ key.depth ≤ 8 ∧ Rp T Hf d (.ref a) ∧
    (valK kvs key = none → Q v H2) ∧ ∀ dv u, valK kvs key = some dv → Rp T Hf dv u → Q u H2
theorem ent_no {T : Wd} {Hf : Hp} {k : NestedKey} {kvs : List (D × D)} {xs : List (NestedKey × Addr × Value)} (h : EntOk T Hf kvs xs) (e : valK kvs k = none) : atKey xs k = none := by
  have := ent_has (k := k) h
  have hn : hasK kvs k = false := by
    unfold hasK
    unfold valK at e
    rw [Option.map_eq_none_iff, List.find?_eq_none] at e
    rw [List.any_eq_false]
    exact e
  rw [hn] at this
  cases h : atKey xs k with
  | none => rfl
  | some z => rw [h] at this; cases this
theorem pe_getOr {X : Cx} {tb : List (Addr × Str)} {o e f : Expr} {to : TE} {t : TA} {apos cpos : Pos} (hu : (nestedKind X.prog X.w).room X.A.in1) (ho : PE X o to) (ha : PA X [e, f] t)
    (hbase : attributeBase o "get" X.env (eval o X.env) = eval o X.env)
    (hfew : ((backTo cpos (starEach [e, f] X.env)).all (fun x => !x.1) && (backToKw cpos (keywordEach [] X.env)).all (fun x => x.1.isSome)
      && decide ([e, f].length + ([] : List Keyword).length + (if ([] : List Keyword).isEmpty then 0 else 1) < 30)) = true)
    (hline : (apos.endLine == cpos.line) = true) (hs : starEach [e, f] X.env = (false, eval e X.env) :: starEach [f] X.env) (hplain : (backTo cpos (starEach [f] X.env)).any (·.1) = false) :
    PE X (.Call (.Attribute o "get" apos) [e, f] [] cpos) (tGetOr (wdOf X tb) to t) := by
  refine ⟨fun pins s σ H Q I h => ?_⟩
  refine wpAny_Call_method_late hbase hfew hline rfl (thn (ho.run pins s σ H _ I h) fun v s1 ⟨x, H1, I1, r1, ty, q1⟩ => ?_)
  obtain ⟨Hf, p, kvs, xs, ep, rfl, sm, hd, nd, en⟩ := ty
  have dk := dictOf_ok (T := wdOf X tb) rfl rfl rfl I1 sm hd nd en
  cases r1
  refine ⟨"dict", "dict.get", PySem.F.plainAttrs_dict, PySem.F.slot_dict_get, PySem.F.type_dict_get, dk.typeIs, ?_, ?_⟩
  · intro b eb
    injection eb with eb
    subst eb
    obtain ⟨o, _, _, ho, hc, _⟩ := dk
    exact ⟨o, ho, hc.2.1⟩
  have hA := ha.run cpos pins s1 σ H1 _ I1 q1
  rw [hs] at hA ⊢
  refine Calls.callWith_builtin (by show (false || (backTo cpos (starEach [f] X.env)).any (·.1)) = false; rw [hplain] <;> rfl) (Calls.evalArgs_plain ?_)
  refine thn hA fun us s2 ⟨vs, H2, I2, r2, q2⟩ => ?_
  obtain ⟨Hf2, a, p', v, d, key, kvs2, xs2, ep2, sm2, ep', hsm, ev, hd2, nd2, en2, n, hdp, rd, hn, hv⟩ := q2
  cases ep'
  subst ev
  cases r2 with
  | cons ra r2 =>
    cases r2 with
    | cons rb r2 =>
      cases r2
      cases ra
      have dk2 := dictOf_ok (T := wdOf X tb) rfl rfl rfl I2 sm2 hd2 nd2 en2
      refine getOr_keyed hu ⟨nk_is rfl I2 sm2 d rd rfl n, hdp⟩ hsm ⟨xs2, dk2, rfl⟩ ?_
      rw [valueAt_pairsH]
      cases ek : valK kvs2 key with
      | none =>
        rw [ent_no en2 ek]
        exact ⟨v, H2, I2.tok _, rb, hn ek⟩
      | some dv =>
        obtain ⟨c, val, u, e1, r3, rv⟩ := ent_val en2 dv ek
        rw [e1]
        exact ⟨u, H2, I2.tok _, rv, hv dv u ek r3⟩
theorem de_get {x : Str} {p apos : Pos} (S : Sc C n) (i : Nat) (hi : i ∈ n.vs) (hx : n.N[i]? = some x) (ha : DE C a ma) (hb : DE C b mb) (hline : (apos.endLine == pos.line) = true) : DE C (.Call (.Attribute (.Name x p) "get" apos) [a, b] [] pos) (gtM i ma mb) :=
  ⟨PE.imp (pe_getOr (tb := C.tb) S.rmK (pv_ok S i hi hx) (pa_cons ha.pe (pa_cons hb.pe pa_nil (star_ok hb.ok _ _)) (star_ok ha.ok _ _)) rfl (by rw [star_ok ha.ok, star_ok hb.ok]; rfl) hline (star_ok ha.ok _ _) (by rw [star_ok hb.ok]; rfl)) fun σ H Q ⟨Hf, G, ρ, rr, h⟩ => (by
    unfold gtM at h
    cases e0 : kvAt ρ[i]? with
    | none => rw [e0] at h; exact h.elim
    | some kvs0 =>
      rw [e0] at h
      obtain ⟨q, xs0, ep0, hq, hs0, hH0, nd0, en0⟩ := kv_at rr e0
      refine ⟨.ref q, hq, ⟨Hf, q, kvs0, xs0, ep0, rfl, rr.fz, hH0, nd0, en0⟩, ?_⟩
      refine post_bind rr h fun y d H1 Hf1 ρ1 s1 r1 ry p1 => post_bind r1 p1 fun z dz H2 Hf2 ρ2 s2 r2 rz p2 => ?_
      split at p2
      · rename_i kvs key e ek
        obtain ⟨k1, k2, k3⟩ := tupK_some ek
        obtain ⟨b, rfl⟩ := k3 ry
        obtain ⟨p, xs, ep, hp, hs, hH, nd, en⟩ := kv_at r2 e
        rw [hq] at hp
        cases hp
        refine ⟨Hf2, b, q, z, d, key, kvs, xs, ep, r2.fz, rfl, hs, rfl, hH, nd, en, k1, k2, Rp.mono s2 _ _ ry, fun hn => ?_, fun dv u hv ru => ?_⟩
        · rw [hn] at p2
          exact p2 _ H2 Hf2 (Same.refl _) r2 rz
        · rw [hv] at p2
          exact p2 _ H2 Hf2 (Same.refl _) r2 ru
      · exact p2.elim), rfl⟩
noncomputable def geE : D → D → Option D
  | .list a, .list b => if gtOk a b then some (.bool (!PySem.W.dataLt (.list a) (.list b))) else none
  | a, b => geD a b
@[simp ↓] theorem geE_list (a b : List D) : geE (.list a) (.list b) = if gtOk a b then some (.bool (!PySem.W.dataLt (.list a) (.list b))) else none := id rfl
def rGeL (K : PySem.W.Frag) : R2 := fun x y H Q => ∃ d e, Dp K H x d ∧ Dp K H y e ∧ PySem.W.alike d e = true ∧ d ≠ .none ∧ min d.depth e.depth ≤ 64 ∧ Q (.bl (!PySem.W.dataLt d e)) H
theorem op_geL {X : Cx} (hu : X.A.units + 65 < cLine) : OpR X (compareOp .GtE) (rGeL X.K) := by
  intro pins s σ H x y v u Q I rx ry h
  obtain ⟨d, e, hd, he, al, nn, hm, q⟩ := h
  obtain ⟨as, r1⟩ := Dp.reads I d x v hd rx
  obtain ⟨bs, r2⟩ := Dp.reads I e y u he ry
  exact PySem.W.ge_data r1 r2 al nn (by omega) ⟨.bl _, H, I, rfl, q⟩
theorem o_geE (S : Sc C n) : OpD C (compareOp .GtE) geE :=
  let ⟨_, ho, hr⟩ := o_ge (C := C)
  ⟨_, ho.or (op_geL S.units), fun Hf G σ H ρ x y a b d Q rr ra rb e q => by
    unfold geE at e
    split at e
    · split at e
      · rename_i xs ys hc
        cases e
        unfold gtOk at hc
        simp only [Bool.and_eq_true, decide_eq_true_eq] at hc
        obtain ⟨⟨⟨h1, h2⟩, h3⟩, h4⟩ := hc
        obtain ⟨_, a2⟩ := ra.dp rr.fz (by rw [noObj]; exact h3)
        obtain ⟨_, b2⟩ := rb.dp rr.fz (by rw [noObj]; exact h4)
        exact .inr ⟨_, _, a2, b2, h1, (fun z => by cases z), h2, q _ H Hf (Same.refl _) rr (rp_bool _)⟩
      · cases e
    · exact .inl (hr Hf G σ H ρ x y a b d Q rr ra rb e q)⟩
end
end DS
set_option maxHeartbeats 4000000
/-! A dict of dicts of one's own: its objects are held, and known by name. -/
namespace DS
open PySem L2
section
variable {F : Fx} {Hf G G' H : Hp} {σ : St} {ρ : Rho}
/-- what is held is written -/
theorem RR.wrG {q : Addr} {o o' : HO} (R : RR F Hf G σ H ρ) (h : G q = some o) : RR F Hf (upd G q o') σ (upd H q o') ρ := by
  have hf : Hf q = none := R.dj q o h
  have nt : ∀ t ∈ F.T.tb, t.1 ≠ q := fun t ht e => by
    have := (R.tb t ht).2.1
    rw [e, h] at this; cases this
  refine ⟨fun b u e => by rw [upd_ne (ne_of_none e hf)]; exact R.fz b u e, fun b u e => ?_, fun b u e => ?_, R.len, fun i x e => ?_, R.ds, R.kp, (R.tb.gup nt).hup nt⟩
  · by_cases hb : b = q
    · subst hb; rw [upd_same] at e ⊢; exact e
    · rw [upd_ne hb] at e ⊢; exact R.fg b u e
  · by_cases hb : b = q
    · subst hb; exact hf
    · rw [upd_ne hb] at e; exact R.dj b u e
  · have hs := R.sl i x e
    have ne : ∀ {p : Addr}, G p = none → p ≠ q := fun {p} z w => by rw [w, h] at z; cases z
    cases x with
    | un => trivial
    | im d => exact hs
    | ml ds => obtain ⟨p, vs, a, b, c, d, r⟩ := hs; exact ⟨p, vs, a, b, by rw [upd_ne (ne c)]; exact c, by rw [upd_ne (ne c)]; exact d, r⟩
    | md kvs => obtain ⟨p, a, b, c, d1, xs, ep, d, r⟩ := hs; exact ⟨p, a, b, by rw [upd_ne (ne c)]; exact c, d1, xs, ep, by rw [upd_ne (ne c)]; exact d, r⟩
    | mi k fs => obtain ⟨p, C, dx, vs, a, b, c, d, r⟩ := hs; exact ⟨p, C, dx, vs, a, b, by rw [upd_ne (ne c)]; exact c, by rw [upd_ne (ne c)]; exact d, r⟩
/-- less is held -/
theorem RR.lessG (R : RR F Hf G' σ H ρ) (s : Same G G') : RR F Hf G σ H ρ := by
  have nn : ∀ {p : Addr}, G' p = none → G p = none := fun {p} e => by
    cases h : G p with
    | none => rfl
    | some u => rw [s _ _ h] at e; cases e
  refine ⟨R.fz, fun b u e => R.fg b u (s _ _ e), fun b u e => R.dj b u (s _ _ e), R.len, fun i x e => ?_, R.ds, R.kp, fun t ht => ?_⟩
  · have hs := R.sl i x e
    cases x with
    | un => trivial
    | im d => exact hs
    | ml ds => obtain ⟨p, vs, a, b, c, d, r⟩ := hs; exact ⟨p, vs, a, b, nn c, d, r⟩
    | md kvs => obtain ⟨p, a, b, c, d⟩ := hs; exact ⟨p, a, b, nn c, d⟩
    | mi k fs => obtain ⟨p, C, dx, vs, a, b, c, d, r⟩ := hs; exact ⟨p, C, dx, vs, a, b, nn c, d, r⟩
  · obtain ⟨a, b, c⟩ := R.tb t ht
    exact ⟨a, nn b, c⟩
/-- other slots are kept -/
theorem RR.keepAt {i : Nat} (R : RR F Hf G σ H ρ) (hu : ρ[i]? = some .un) : RR ⟨F.T, [i], σ⟩ Hf G σ H ρ := ⟨R.fz, R.fg, R.dj, R.len, R.sl, R.ds, fun _ _ => rfl, R.tb⟩
theorem RR.unkeep {mp : List Nat} {s0 : St} (R : RR F Hf G σ H ρ) (hk : ∀ i ∈ mp, σ[i]? = s0[i]?) : RR ⟨F.T, mp, s0⟩ Hf G σ H ρ := ⟨R.fz, R.fg, R.dj, R.len, R.sl, R.ds, hk, R.tb⟩
end
/-- the dict of dicts: its keys, its address, the inner addresses, what others hold -/
structure Fw where
  ks : List Int
  p : Addr
  as : List Addr
  G0 : Hp
abbrev Fd := List (List (D × D))
def topO (ks : List Int) (as : List Addr) : HO := .dK (ks.zip as |>.map fun e => (Sum.inl e.1, V.ref e.2))
structure FSt (T : Wd) (B : Fw) (fd : Fd) (Hf G : Hp) : Prop where
  sub : Same B.G0 G
  la : B.as.length = B.ks.length
  lf : fd.length = B.ks.length
  np : B.G0 B.p = none
  na : ∀ a ∈ B.as, B.G0 a = none
  nd : (B.p :: B.as).Nodup
  top : G B.p = some (topO B.ks B.as)
  inn : ∀ (j : Nat) a kvs, B.as[j]? = some a → fd[j]? = some kvs → (a == sysModules) = false ∧ ∃ xs ep, G a = some (dHO T xs ep a) ∧ (xs.map (·.1)).Nodup ∧ EntOk T Hf kvs xs
theorem FSt.mono {T : Wd} {B : Fw} {fd : Fd} {Hf Hf' G : Hp} (h : FSt T B fd Hf G) (s : Same Hf Hf') : FSt T B fd Hf' G :=
  ⟨h.sub, h.la, h.lf, h.np, h.na, h.nd, h.top, fun j a kvs e1 e2 => by
    obtain ⟨h1, xs, ep, h2, h3, h4⟩ := h.inn j a kvs e1 e2
    exact ⟨h1, xs, ep, h2, h3, h4.mono s⟩⟩
/-- an inner dict is written -/
theorem FSt.wr {T : Wd} {B : Fw} {fd : Fd} {Hf G : Hp} {j : Nat} {a : Addr} {kvs : List (D × D)} {xs : List (NestedKey × Addr × Value)} {ep : Nat} (h : FSt T B fd Hf G) (ha : B.as[j]? = some a) (nd : (xs.map (·.1)).Nodup) (en : EntOk T Hf kvs xs) : FSt T B (fd.set j kvs) Hf (upd G a (dHO T xs ep a)) := by
  have hd := h.nd
  rw [List.nodup_cons] at hd
  have am : a ∈ B.as := List.mem_of_getElem? ha
  have pa : B.p ≠ a := fun e => hd.1 (e ▸ am)
  refine ⟨fun b u e => ?_, h.la, by rw [List.length_set]; exact h.lf, h.np, h.na, h.nd, by rw [upd_ne pa]; exact h.top, fun i b kv e1 e2 => ?_⟩
  · have : b ≠ a := fun z => by rw [z, h.na a am] at e; cases e
    rw [upd_ne this]; exact h.sub b u e
  · by_cases hij : i = j
    · subst hij
      rw [ha] at e1
      cases e1
      have hl : i < fd.length := by simpa using lt_of_get e2
      rw [List.getElem?_set_self hl] at e2
      cases e2
      obtain ⟨h1, _⟩ := h.inn i a _ ha (List.getElem?_eq_getElem hl)
      exact ⟨h1, xs, ep, upd_same, nd, en⟩
    · rw [List.getElem?_set_ne (Ne.symm hij)] at e2
      have nb : b ≠ a := fun z => by
        subst z
        obtain ⟨l1, g1⟩ := List.getElem?_eq_some_iff.mp e1
        obtain ⟨l2, g2⟩ := List.getElem?_eq_some_iff.mp ha
        have pw := List.pairwise_iff_getElem.mp hd.2
        rcases Nat.lt_or_gt_of_ne hij with w | w
        · exact pw i j l1 l2 w (g1.trans g2.symm)
        · exact pw j i l2 l1 w (g2.trans g1.symm)
      rw [upd_ne nb]
      exact h.inn i b kv e1 e2
/-! ### expressions that know what is held -/
def LftP (C : DC) {α β : Type} (Φ : Hp → Hp → Prop) (rel : Rel β α) (m : M α) : St → Hp → (β → Hp → Prop) → Prop := fun σ H Q => ∃ Hf G ρ, Φ Hf G ∧ RR C.F Hf G σ H ρ ∧ Post C rel Hf G σ Q (m ρ)
def PMono (Φ : Hp → Hp → Prop) : Prop := ∀ Hf Hf' G, Same Hf Hf' → Φ Hf G → Φ Hf' G
theorem fst_mono {T : Wd} {B : Fw} {fd : Fd} : PMono (FSt T B fd) := fun _ _ _ s h => h.mono s
section
variable {C : DC} {n : Nm} {pos : Pos} {Φ : Hp → Hp → Prop}
theorem postP {α β γ δ : Type} {rel : Rel β α} {rel2 : Rel δ γ} {ma : M α} {f : α → M γ} {Hf G : Hp} {σ : St} {H : Hp} {ρ : Rho} {Q : δ → Hp → Prop} {R : β → Hp → Prop} (pm : PMono Φ) (ph : Φ Hf G) (rr : RR C.F Hf G σ H ρ) (h : Post C rel2 Hf G σ Q (bnd ma f ρ))
    (k : ∀ b a H1 Hf1 ρ1, Same Hf Hf1 → Φ Hf1 G → RR C.F Hf1 G σ H1 ρ1 → rel Hf1 G σ H1 ρ1 b a → Post C rel2 Hf1 G σ Q (f a ρ1) → R b H1) : LftP C Φ rel ma σ H R := by
  refine ⟨Hf, G, ρ, ph, rr, ?_⟩
  unfold bnd at h
  cases e : ma ρ with
  | ok a ρ1 =>
    rw [e] at h
    exact fun b H1 Hf1 s r1 r => k b a H1 Hf1 ρ1 s (pm _ _ _ s ph) r1 r (h.up s)
  | ex x ρ1 => rw [e] at h; exact h
  | no => rw [e] at h; exact h
theorem lftP_of {α β : Type} {rel : Rel β α} {m : M α} : ∀ σ H Q, LftP C Φ rel m σ H Q → Lft C rel m σ H Q := fun _ _ _ ⟨Hf, G, ρ, _, rr, h⟩ => ⟨Hf, G, ρ, rr, h⟩
/-- the place of a key -/
def kIx (ks : List Int) : D → Option Nat
  | .int i => ks.findIdx? (fun k => decide (k = i))
  | _ => none
theorem top_at : ∀ {ks : List Int} {as : List Addr} {i : Int} {j : Nat}, as.length = ks.length → ks.findIdx? (fun k => decide (k = i)) = some j → ∃ a, as[j]? = some a ∧ valV (ks.zip as |>.map fun e => ((Sum.inl e.1 : Key), V.ref e.2)) (.inl i) = some (.ref a)
  | [], _, _, _, _, h => by simp at h
  | k :: ks, [], _, _, hl, _ => by simp at hl
  | k :: ks, a :: as, i, j, hl, h => by
    rw [List.findIdx?_cons] at h
    by_cases e : k = i
    · subst e
      simp at h
      subst h
      exact ⟨a, rfl, by simp [valV]⟩
    · simp only [e, decide_false, Bool.false_eq_true, if_false] at h
      obtain ⟨m, h1, rfl⟩ := Option.map_eq_some_iff.mp h
      obtain ⟨b, h2, h3⟩ := top_at (i := i) (by simpa using hl) h1
      refine ⟨b, h2, ?_⟩
      rw [← h3]
      unfold valV
      rw [List.zip_cons_cons, List.map_cons, List.find?_cons]
      have : ¬ ((Sum.inl k : Key) = Sum.inl i) := fun z => e (Sum.inl.inj z)
      simp only [this, decide_false]
abbrev relQ (B : Fw) : Rel V Nat := fun _ _ _ _ _ v j => ∃ a, B.as[j]? = some a ∧ v = .ref a
def qM (ks : List Int) (me : M D) : M Nat := bnd me fun d => opt (kIx ks d)
/-- found[e] -/
theorem pe_found {B : Fw} {fd : Fd} {x : Str} {p1 : Pos} {e : Expr} {me : M D} (S : Sc C n) (i : Nat) (hi : i ∈ n.vs) (hx : n.N[i]? = some x) (hm : i ∈ C.mp) (h0 : C.s0[i]? = some (some (.ref B.p))) (he : DE C e me) : PE C.X (.Subscript (.Name x p1) e pos) (LftP C (FSt C.T B fd) (relQ B) (qM B.ks me)) :=
  PE.imp (pe_dget (by have := S.room.units; omega) (pv_ok S i hi hx) he.pe (ix_ok he.ok)) fun σ H Q ⟨Hf, G, ρ, ph, rr, h⟩ => by
    refine ⟨.ref B.p, by rw [rr.kp i hm]; exact h0, ?_⟩
    refine post_bind rr h fun y d H1 Hf1 ρ1 s1 r1 ry p1 => ?_
    obtain ⟨j, ej, q⟩ := opt_post p1
    unfold kIx at ej
    split at ej
    · rename_i k
      have ey : y = .int k := by simpa only [relE, Rp] using ry
      obtain ⟨a, ha, hv⟩ := top_at ph.la ej
      refine ⟨B.p, .ref a, rfl, ?_, q (.ref a) H1 Hf1 (Same.refl _) r1 ⟨a, ha, rfl⟩⟩
      rw [← hv, ey]
      exact DGet.k (k := .inl k) (r1.fg _ _ ph.top)
    · cases ej
/-- what stands at an inner place -/
theorem inner_at {B : Fw} {fd : Fd} {Hf G H : Hp} {σ : St} {ρ : Rho} {j : Nat} {a : Addr} {kvs : List (D × D)} (ph : FSt C.T B fd Hf G) (rr : RR C.F Hf G σ H ρ) (ha : B.as[j]? = some a) (hk : fd[j]? = some kvs) : (a == sysModules) = false ∧ ∃ xs ep, H a = some (dHO C.T xs ep a) ∧ (xs.map (·.1)).Nodup ∧ EntOk C.T Hf kvs xs := by
  obtain ⟨h1, xs, ep, h2, h3, h4⟩ := ph.inn j a kvs ha hk
  exact ⟨h1, xs, ep, rr.fg _ _ h2, h3, h4⟩
/-- found[e][k] -/
def gd2 (ks : List Int) (fd : Fd) (me mk : M D) : M D := bnd (qM ks me) fun j => bnd mk fun k => opt (match fd[j]?, tupK k with
  | some kvs, some key => valK kvs key
  | _, _ => none)
theorem pe_gd2 {B : Fw} {fd : Fd} {o k : Expr} {me mk : M D} (S : Sc C n) (ho : PE C.X o (LftP C (FSt C.T B fd) (relQ B) (qM B.ks me))) (hk : DE C k mk) : PE C.X (.Subscript o k pos) (LftP C (FSt C.T B fd) (relE C.T) (gd2 B.ks fd me mk)) :=
  PE.imp (pe_ix (ix_getK (tb := C.tb) S.rmK) ho hk.pe (ix_ok hk.ok)) fun σ H Q ⟨Hf, G, ρ, ph, rr, h⟩ => postP fst_mono ph rr h fun x j H1 Hf1 ρ1 s1 ph1 r1 rx p1 => post_bind r1 p1 fun y d H2 Hf2 ρ2 s2 r2 ry p2 => by
    obtain ⟨dv, ev, q⟩ := opt_post p2
    obtain ⟨a, ha, rfl⟩ := rx
    split at ev
    · rename_i kvs key e1 e2
      obtain ⟨k1, k2, k3⟩ := tupK_some e2
      obtain ⟨b, rfl⟩ := k3 ry
      obtain ⟨_, xs, ep, h2, h3, h4⟩ := inner_at (ph1.mono s2) r2 ha e1
      exact ⟨Hf2, b, a, d, key, kvs, xs, ep, dv, r2.fz, rfl, rfl, h2, h3, h4, k1, k2, ry, ev, fun v rv => q v H2 Hf2 (Same.refl _) r2 rv⟩
    · cases ev
/-- found[e].get(k, v) -/
def gt2 (ks : List Int) (fd : Fd) (me mk mv : M D) : M D := bnd (qM ks me) fun j => bnd mk fun k => bnd mv fun v => opt (match fd[j]?, tupK k with
  | some kvs, some key => some ((valK kvs key).getD v)
  | _, _ => none)
theorem pe_gt2 {B : Fw} {fd : Fd} {o k v : Expr} {me mk mv : M D} {apos : Pos} (S : Sc C n) (ho : PE C.X o (LftP C (FSt C.T B fd) (relQ B) (qM B.ks me))) (hk : DE C k mk) (hv : DE C v mv) (hbase : attributeBase o "get" C.X.env (eval o C.X.env) = eval o C.X.env) (hline : (apos.endLine == pos.line) = true) :
    PE C.X (.Call (.Attribute o "get" apos) [k, v] [] pos) (LftP C (FSt C.T B fd) (relE C.T) (gt2 B.ks fd me mk mv)) :=
  PE.imp (pe_getOr (tb := C.tb) S.rmK ho (pa_cons hk.pe (pa_cons hv.pe pa_nil (star_ok hv.ok _ _)) (star_ok hk.ok _ _)) hbase (by rw [star_ok hk.ok, star_ok hv.ok]; rfl) hline (star_ok hk.ok _ _) (by rw [star_ok hv.ok]; rfl)) fun σ H Q ⟨Hf, G, ρ, ph, rr, h⟩ => postP fst_mono ph rr h fun x j H1 Hf1 ρ1 s1 ph1 r1 rx p1 => by
    obtain ⟨a, ha, rfl⟩ := rx
    have hj : j < fd.length := by have := lt_of_get ha; rw [ph.la, ← ph.lf] at this; exact this
    obtain ⟨_, xs0, ep0, g2, g3, g4⟩ := inner_at ph1 r1 ha (List.getElem?_eq_getElem hj)
    refine ⟨⟨Hf1, a, _, xs0, ep0, rfl, r1.fz, g2, g3, g4⟩, ?_⟩
    refine post_bind r1 p1 fun y d H2 Hf2 ρ2 s2 r2 ry p2 => post_bind r2 p2 fun z dz H3 Hf3 ρ3 s3 r3 rz p3 => ?_
    obtain ⟨dv, ev, q⟩ := opt_post p3
    split at ev
    · rename_i kvs key e1 e2
      cases ev
      obtain ⟨k1, k2, k3⟩ := tupK_some e2
      obtain ⟨b, rfl⟩ := k3 ry
      obtain ⟨hs, xs, ep, h2, h3, h4⟩ := inner_at ((ph1.mono s2).mono s3) r3 ha e1
      refine ⟨Hf3, b, a, z, d, key, kvs, xs, ep, r3.fz, rfl, hs, rfl, h2, h3, h4, k1, k2, Rp.mono s3 _ _ ry, fun hn => ?_, fun dv u hv ru => ?_⟩
      · rw [hn] at q
        exact q _ H3 Hf3 (Same.refl _) r3 rz
      · rw [hv] at q
        exact q _ H3 Hf3 (Same.refl _) r3 ru
    · cases ev
/-- a + b, both of what is held -/
theorem pe_binP {a b : Expr} {ma mb : M D} {op : Operator} {g : D → D → Option D} (pm : PMono Φ) (o : OpD C (binaryOp op) g) (ha : PE C.X a (LftP C Φ (relE C.T) ma)) (hb : PE C.X b (LftP C Φ (relE C.T) mb)) : PE C.X (.BinOp a op b pos) (LftP C Φ (relE C.T) (bin g ma mb)) := by
  obtain ⟨r, ho, hr⟩ := o
  refine PE.imp (pe_op ho ha hb) fun σ H Q ⟨Hf, G, ρ, ph, rr, h⟩ => postP pm ph rr h fun x d H1 Hf1 ρ1 s1 ph1 r1 rx p1 => postP pm ph1 r1 p1 fun y e H2 Hf2 ρ2 s2 ph2 r2 ry p2 => ?_
  obtain ⟨z, ez, q⟩ := opt_post p2
  exact hr Hf2 G σ H2 ρ2 x y d e z Q r2 (Rp.top r2.fz (Rp.mono s2 _ _ rx)) (Rp.top r2.fz ry) ez q
/-- min(a, b) -/
theorem pe_minP {a b : Expr} {ma mb : M D} {p : Pos} (pm : PMono Φ) (S : Sc C n) (j : Nat) (hj : n.bs[j]? = some ("min" : Str)) (ha : DE C a ma) (hb : PE C.X b (LftP C Φ (relE C.T) mb)) (ob : okE b = true) : PE C.X (.Call (.Name "min" p) [a, b] [] pos) (LftP C Φ (relE C.T) (bin min2D ma mb)) :=
  PE.imp (pe_callB (call_min2 S.calm) (S.bl hj).1 (S.bl hj).2 (by decide +kernel) (pa_cons (PE.imp ha.pe (lftP_of (Φ := Φ))) (pa_cons hb pa_nil (star_ok ob _ _)) (star_ok ha.ok _ _)) (by decide) (by decide) (star_ok ha.ok _ _) (by show ((backTo pos (starEach [b] C.X.env)).any (·.1)) = false; rw [star_ok ob]; rfl)) fun σ H Q ⟨Hf, G, ρ, ph, rr, h⟩ => postP pm ph rr h fun x d H1 Hf1 ρ1 s1 ph1 r1 rx p1 => postP pm ph1 r1 p1 fun y d2 H2 Hf2 ρ2 s2 ph2 r2 ry p2 => by
    obtain ⟨z, e, q⟩ := opt_post p2
    unfold min2D at e
    split at e
    · rename_i i j
      cases e
      have e1 : x = .int i := by simpa only [relE, Rp] using rx
      have e2 : y = .int j := by simpa only [relE, Rp] using ry
      exact ⟨i, j, by rw [e1, e2], q _ H2 Hf2 (Same.refl _) r2 (rp_int _)⟩
    · cases e
end
end DS
set_option maxHeartbeats 4000000
/-! A dict of dicts: its keys as a list, comprehensions over it, statements that change it. -/
namespace DS
open PySem L2
/-! ### list(d.keys()) -/
theorem kdl_rawK {prog : Program} {w : World} {r d : Addr} (es : Array DictEntry) (ep : Nat) : PySem.W.KdlSrc prog w "dict_keys" r d es.size (fun i v => ∃ hi : i < es.size, v = es[i].key) (fun h => PySem.W.KdlKeysView h r d ∧ h.DictRaw d es ep) where
  type := fun _ hm => hm.1.typeIs
  there := fun _ hm => ⟨let ⟨_, ho, _⟩ := hm.1; Heap.lt_size ho, let ⟨_, ho, _⟩ := hm.2; Heap.lt_size ho⟩
  keep := fun _ _ hm hk => ⟨let ⟨o, ho, x⟩ := hm.1; ⟨o, hk r (.inl rfl) o ho, x⟩, hm.2.at fun o e => hk d (.inr rfl) o e⟩
  notList := by decide
  notTuple := by decide
  hint := fun _ _ _ _ hm hq => PySem.W.kdl_hint_keys hm.1.typeIs hq
  iter := fun _ _ hh hm => ⟨_, _, (fun _ _ hq => wpAny_pyIter_keys_raw hm.1 hm.2 hq), Walks.rawKeys hh _ d (Nat.ne_of_lt (let ⟨_, ho, _⟩ := hm.2; Heap.lt_size ho)) es ep, ⟨⟨_, Heap.get?_push_size _ rfl, rfl, rfl⟩, hm.2.at fun o e => Heap.get?_push_of_some _ e⟩⟩
def viewO (v d : Addr) : HO := .ext fun h => PySem.W.KdlKeysView h v d
def tKeysV (T : Wd) (to : TE) : TE := fun σ H Q => to σ H fun x H1 => ∃ d xs ep, x = .ref d ∧ (d == sysModules) = false ∧ H1 d = some (dHO T xs ep d) ∧ ∀ v, H1 v = none → Q (.ref v) (upd H1 v (viewO v d))
section
variable {X : Cx} {T : Wd} {o : Expr} {to : TE} {apos cpos : Pos}
theorem pe_keysV (ho : PE X o to) (hbase : attributeBase o "keys" X.env (eval o X.env) = eval o X.env) (hline : (apos.endLine == cpos.line) = true) : PE X (.Call (.Attribute o "keys" apos) [] [] cpos) (tKeysV T to) := by
  refine ⟨fun pins s σ H Q I h => ?_⟩
  refine wpAny_Call_method (T := "dict") (id := "dict.keys") hbase rfl hline PySem.F.plainAttrs_dict PySem.F.slot_dict_keys PySem.F.type_dict_keys (thn (ho.run pins s σ H _ I h) fun u s1 ⟨x, H1, I1, rx, d, xs, ep, ex, hs, hd, q⟩ => ?_)
  subst ex
  obtain rfl : u = Value.ref d := rx
  obtain ⟨es, raw, hl, ke⟩ := dict_raw I1 hd
  refine ⟨raw.typeIs, fun b eb => ?_, ?_⟩
  · injection eb with eb
    subst eb
    obtain ⟨ob, ho, hc, _⟩ := raw
    exact ⟨ob, ho, hc.2.1⟩
  have I2 : Inv X pins σ (upd H1 s1.heap.objs.size (viewO s1.heap.objs.size d)) { s1 with heap := s1.heap.push { cls := .type "dict_keys", data := .fields #[.ref d] } } :=
    I1.laid (t' := s1.toks) (a := s1.heap.objs.size) (o := viewO s1.heap.objs.size d) (fun _ _ q => Heap.get?_push_of_some _ q) (Nat.le_refl _) ⟨⟨_, Heap.get?_push_size _ rfl, rfl, rfl⟩, ⟨_, Heap.get?_push_size _ rfl⟩, fun h1 h2 ⟨o, ho, r⟩ k => ⟨o, k _ ho, r⟩⟩
  show wpAny _ _ (callWith cpos (.builtin "dict.keys") [.ref d] [] []) _ X.xe s1
  exact method_meetsIn PySem.F.slot_dict_keys PySem.F.entry_dict_keys rfl (PySem.evalArgs_none ⟨rfl, raw.typeIs, PySem.F.args_dict_keys_1 _, _, meets_dict_keys_raw d hs, ⟨es, ep, raw⟩, (show EP X pins σ Q (.ref s1.heap.objs.size) _ from ⟨.ref s1.heap.objs.size, _, I2, rfl, q _ (I1.hok.fresh (Nat.le_refl _))⟩)⟩)
theorem call_list_view (hc : X.calm = true) : CallR X (.type "list") (fun vs H Q => ∃ v d xs ep, vs = [V.ref v] ∧ H v = some (viewO v d) ∧ H d = some (dHO T xs ep d) ∧ xs.length ≤ sizeLine ∧ ∀ p, H p = none → Q (.ref p) (upd H p (.lst (xs.map fun y => V.ref y.2.1)))) := by
  intro pins s σ H vs us Q I r h
  obtain ⟨v, d, xs, ep, rfl, hv, hd, hz, q⟩ := h
  obtain ⟨u, rfl, rx⟩ := r.one
  cases rx
  obtain ⟨es, raw, hl, ke⟩ := dict_raw I hd
  have hvw : PySem.W.KdlKeysView s.heap v d := (show ObjOk X.prog X.w H s.heap v (.ext fun h => PySem.W.KdlKeysView h v d) from I.hok v _ hv).1
  refine PySem.W.kdl_call (kdl_rawK es ep) (I.ok.hd hc) ⟨hvw, raw⟩ (by omega) fun h' tk acc' c' kp e it => ?_
  have ea : acc'.toList = xs.map fun y => Value.ref y.2.1 := by
    have hl2 : acc'.toList.length = xs.length := by rw [Array.length_toList, it.1]; exact hl
    apply List.ext_getElem?
    intro j
    rw [List.getElem?_map]
    cases hj : acc'.toList[j]? with
    | none =>
      have h1 := List.getElem?_eq_none_iff.mp hj
      rw [List.getElem?_eq_none (by omega)]
      rfl
    | some w =>
      obtain ⟨hi, hw⟩ := it.2 j w (by rw [← Array.getElem?_toList]; exact hj)
      obtain ⟨y, hy, ey⟩ := ke j hi
      rw [hy, hw, ey]
      rfl
  have rv : Vals (xs.map fun y => V.ref y.2.1) acc'.toList := by
    rw [ea]
    clear ea it ke hl raw q hd hz
    induction xs with
    | nil => exact .nil
    | cons y xs ih => exact .cons rfl ih
  refine ⟨.ref s.heap.objs.size, _, I.laid (t' := tk) (o := .lst (xs.map fun y => V.ref y.2.1)) kp (Nat.le_refl _) ?_, rfl, q _ (I.hok.fresh (Nat.le_refl _))⟩
  exact ⟨by rw [List.length_map]; exact hz, acc'.toList, c', rv, by rw [Array.toArray_toList]; exact e⟩
end
theorem ent_keysR {T : Wd} {Hf : Hp} : ∀ {kvs : List (D × D)} {xs : List (NestedKey × Addr × Value)}, EntOk T Hf kvs xs → RpA T Hf (kvs.map (·.1)) (xs.map fun y => V.ref y.2.1)
  | [], xs, h => by have h : xs = [] := h; subst h; exact RpA.nil
  | p :: r, xs, ⟨key, a, val, v, q, e, n, hd, r1, r2, rv, t⟩ => by
    subst e
    exact RpA.cons r1 (ent_keysR t)
section
variable {C : DC} {n : Nm} {pos : Pos} {Φ : Hp → Hp → Prop}
def kl2 (ks : List Int) (fd : Fd) (me : M D) : M D := bnd (qM ks me) fun j => opt (match fd[j]? with
  | some kvs => if kvs.length ≤ sizeLine then some (.list (kvs.map (·.1))) else none
  | none => none)
theorem pe_kl2 {B : Fw} {fd : Fd} {o : Expr} {me : M D} {apos cpos p : Pos} (S : Sc C n) (j : Nat) (hj : n.bs[j]? = some ("list" : Str)) (ho : PE C.X o (LftP C (FSt C.T B fd) (relQ B) (qM B.ks me))) (hbase : attributeBase o "keys" C.X.env (eval o C.X.env) = eval o C.X.env) (hline : (apos.endLine == cpos.line) = true) :
    PE C.X (.Call (.Name "list" p) [.Call (.Attribute o "keys" apos) [] [] cpos] [] pos) (LftP C (FSt C.T B fd) (relE C.T) (kl2 B.ks fd me)) :=
  PE.imp (pe_callTy (call_list_view (T := C.T) S.calm) (S.bl hj).1 (S.bl hj).2 (by decide +kernel) (pa_cons (pe_keysV (T := C.T) ho hbase hline) pa_nil rfl) (by decide) (by decide) rfl rfl) fun σ H Q ⟨Hf, G, ρ, ph, rr, h⟩ => postP fst_mono ph rr h fun x j H1 Hf1 ρ1 s1 ph1 r1 rx p1 => by
    obtain ⟨d, ed, q⟩ := opt_post p1
    obtain ⟨a, ha, rfl⟩ := rx
    have hjl : j < fd.length := by have := lt_of_get ha; rw [ph.la, ← ph.lf] at this; exact this
    obtain ⟨hs, xs, ep, g2, g3, g4⟩ := inner_at ph1 r1 ha (List.getElem?_eq_getElem hjl)
    rw [List.getElem?_eq_getElem hjl] at ed
    dsimp only at ed
    split at ed
    · rename_i hz
      cases ed
      refine ⟨a, xs, ep, rfl, hs, g2, fun v hv => ?_⟩
      have nv : a ≠ v := fun z => by rw [z, hv] at g2; cases g2
      refine ⟨v, a, xs, ep, rfl, upd_same, by rw [upd_ne nv]; exact g2, by rw [ent_len g4]; exact hz, fun p hp => ?_⟩
      have r2 : RR C.F (upd Hf1 v (viewO v a)) G σ (upd H1 v (viewO v a)) ρ1 := r1.new hv
      have s2 : Same Hf1 (upd Hf1 v (viewO v a)) := r1.sameN hv
      have r3 : RR C.F (upd (upd Hf1 v (viewO v a)) p (.lst (xs.map fun y => V.ref y.2.1))) G σ (upd (upd H1 v (viewO v a)) p (.lst (xs.map fun y => V.ref y.2.1))) ρ1 := r2.new hp
      have s3 := s2.trans (r2.sameN (o := .lst (xs.map fun y => V.ref y.2.1)) hp)
      refine q (.ref p) _ _ s3 r3 ?_
      simp only [relE, Rp]
      exact ⟨p, _, rfl, SqL.of upd_same, RpA.mono s3 _ _ (ent_keysR g4)⟩
    · cases ed
/-! ### comprehensions -/
def ItOkG (T : Wd) (Hf G : Hp) (J : It) (ds : List D) : Prop :=
  (∀ i H, Same Hf H → Same G H → i < ds.length → J.go i H) ∧
  (∀ (i : Nat) H x H' d, Same Hf H → Same G H → ds[i]? = some d → J.yld i H x H' → H' = H ∧ Rp T Hf d x) ∧
  (∀ H, Same Hf H → Same G H → J.stop ds.length H)
abbrev relIG (T : Wd) : Rel It (List D) := fun Hf G _ _ _ J ds => ItOkG T Hf G J ds
def PExt (Φ : Hp → Hp → Prop) : Prop := ∀ Hf G A o, G A = none → Φ Hf G → Φ Hf (upd G A o)
theorem fst_ext {T : Wd} {B : Fw} {fd : Fd} : PExt (FSt T B fd) := fun Hf G A o hA h => by
  have ne : ∀ {b : Addr} {u : HO}, G b = some u → upd G A o b = some u := fun {b u} e => by rw [upd_ne (ne_of_none e hA)]; exact e
  exact ⟨fun b u e => ne (h.sub b u e), h.la, h.lf, h.np, h.na, h.nd, ne h.top, fun j a kvs e1 e2 => by
    obtain ⟨h1, xs, ep, h2, h3⟩ := h.inn j a kvs e1 e2
    exact ⟨h1, xs, ep, ne h2, h3⟩⟩
theorem lcP_read {us ws : List Nat} {mi : M (List D)} {f : D → M Unit} {t : M Bool} {el : M D} (pm : PMono Φ) (px : PExt Φ) (hmp : ∀ i ∈ us, i ∉ C.F.mp) (hws : ∀ i ∈ ws, i ∈ us) : ∀ σ H Q, LftP C Φ (relF C.T) (lcM us mi f t el) σ H Q →
    tLc (LftP C Φ (relIG C.T) mi) (LG C.blk1 ws f) (fun σ H Q => LftP C.blk1 Φ relB t σ H Q) (Lft C.blk1 (relE C.T) el) us σ H Q := fun σ H Q ⟨Hf, G, ρ, ph, rr, h⟩ => by
  refine postP pm ph rr h fun J ds H1 Hf1 ρ1 s1 ph1 r1 k p1 => ?_
  intro A hA
  refine ⟨fun i m H => m = ds.length - i ∧ i ≤ ds.length ∧ ∃ Hf' ρ' acc vacc, Same Hf1 Hf' ∧ RR C.F Hf' G σ H (wpR ρ' us) ∧ Fresh Hf' G σ (wpR ρ' us) A ∧ H A = some (.lst vacc) ∧ RpA C.T Hf' acc vacc ∧ Post C (relF C.T) Hf' G σ Q (lcA us f t el acc (ds.drop i) ρ'),
    ⟨_, rfl, Nat.zero_le _, Hf1, ρ1, [], [], Same.refl _, (r1.grow (Same.updN hA)).wiped hmp rfl, (r1.fresh hA).wiped rfl, upd_same, RpA.nil, p1⟩, ?_⟩
  rintro i m H2 ⟨rfl, hil, Hf2, ρ2, acc, vacc, s2, r2, f2, hA2, ra2, p2⟩
  by_cases hlt : i < ds.length
  · have hd : ds.drop i = ds[i] :: ds.drop (i + 1) := List.drop_eq_getElem_cons hlt
    rw [hd] at p2
    refine .inr ⟨k.1 i H2 (s2.trans r2.fz) r2.fg hlt, fun H => ∃ Hf' ρ' acc vacc, Same Hf1 Hf' ∧ RR C.F Hf' G σ H (wpR ρ' us) ∧ Fresh Hf' G σ (wpR ρ' us) A ∧ H A = some (.lst vacc) ∧ RpA C.T Hf' acc vacc ∧ Post C (relF C.T) Hf' G σ Q (lcA us f t el acc (ds.drop (i + 1)) ρ'), fun H' z => ⟨ds.length - (i + 1), by omega, rfl, hlt, z⟩, fun x H3 y => ?_⟩
    obtain ⟨e3, rp⟩ := k.2.1 i H2 x H3 ds[i] (s2.trans r2.fz) r2.fg (List.getElem?_eq_getElem hlt) y
    subst e3
    have r3 := r2.aside f2 hA2
    have r3w : RR C.F Hf2 (upd G A (.lst vacc)) (wipe σ us) H3 (wpR ρ2 us) :=
      r3.unwipe hmp (fun i x hi hx => wpR_un hi hx) (wipe_length _ _) fun i hi => wipe_get hi
    have ph2 : Φ Hf2 (upd G A (.lst vacc)) := px _ _ _ _ f2.2.1 (pm _ _ _ s2 ph1)
    refine ⟨Hf2, _, wpR ρ2 us, ds[i], r3w, Rp.mono s2 _ _ rp, ?_⟩
    unfold lcA at p2
    cases e : f ds[i] (wpR ρ2 us) with
    | ok u ρ3 =>
      simp only [e] at p2
      intro σ4 H4 Hf4 s4 r4 ag
      have w4 : wipe σ4 us = wipe σ us := (wipe_ag ag hws).trans wipe_wipe
      refine ⟨w4, Hf4, _, ρ3, pm _ _ _ s4 ph2, r4, ?_⟩
      cases e2 : t ρ3 with
      | ok b ρ4 =>
        intro b' H5 Hf5 s5 r5 eb
        subst eb
        have s25 : Same Hf2 Hf5 := s4.trans s5
        cases b' with
        | true =>
          simp only [e2] at p2
          rw [if_pos rfl]
          refine ⟨Hf5, _, ρ4, r5, ?_⟩
          cases e3 : el ρ4 with
          | ok y ρ5 =>
            simp only [e3] at p2
            intro v H6 Hf6 s6 r6 rv
            by_cases hsz : acc.length < sizeLine
            · rw [if_pos hsz] at p2
              have hA6 : H6 A = some (.lst vacc) := r6.fg A _ upd_same
              have s26 : Same Hf2 Hf6 := s25.trans s6
              obtain ⟨b1, b2⟩ := r6.back (o' := .lst (vacc ++ [v])) f2.2.1
              refine ⟨vacc, hA6, by rw [RpA.length ra2]; exact hsz, Hf6, ρ5, acc ++ [y], vacc ++ [v], s2.trans s26, RR.wiped b1 hmp w4, Fresh.wiped b2 w4, upd_same, RpA.append (RpA.mono s26 _ _ ra2) (RpA.cons rv RpA.nil), p2.up s26⟩
            · rw [if_neg hsz] at p2; exact p2.elim
          | ex x ρ5 => simp only [e3] at p2; exact p2.elim
          | no => simp only [e3] at p2; exact p2.elim
        | false =>
          simp only [e2] at p2
          rw [if_neg Bool.false_ne_true]
          have hA5 : H5 A = some (.lst vacc) := r5.fg A _ upd_same
          obtain ⟨b1, b2⟩ := r5.back (o' := .lst vacc) f2.2.1
          have hup : upd H5 A (.lst vacc) = H5 := by
            funext b
            by_cases hb : b = A
            · subst hb; rw [upd_same, hA5]
            · rw [upd_ne hb]
          rw [hup] at b1
          exact ⟨Hf5, ρ4, acc, vacc, s2.trans s25, RR.wiped b1 hmp w4, Fresh.wiped b2 w4, hA5, RpA.mono s25 _ _ ra2, p2.up s25⟩
      | ex x ρ4 => simp only [e2] at p2; exact p2.elim
      | no => simp only [e2] at p2; exact p2.elim
    | ex x ρ3 => simp only [e] at p2; exact p2.elim
    | no => simp only [e] at p2; exact p2.elim
  · have e : i = ds.length := by omega
    subst e
    rw [List.drop_length] at p2
    exact .inl ⟨k.2.2 H2 (s2.trans r2.fz) r2.fg, p2 (.ref A) H2 Hf2 (Same.refl _) r2 ⟨A, vacc, rfl, f2, hA2, ra2⟩⟩
section
variable {elt tg iter : Expr} {ifs : List Expr} {sc scope : Scope} {own : List (Str × Nat)} {vs ws : List Nat} {gs bs : List Str} {mi : M (List D)} {f : D → M Unit} {t : M Bool} {el : M D}
theorem pe_lcP (pm : PMono Φ) (px : PExt Φ) (S : Sc C n) (L : LkSc C sc)
    (hb : blB n sc scope own vs gs bs = true) (hi : PI C.X tg iter (LftP C Φ (relIG C.T) mi)) (hio : okE iter = true)
    (hg : ∀ C', Sc C' (n.sub vs (own.map (·.2)) gs bs) → LkSc C' scope → DG C' tg ws f) (ht : ∀ C', C'.F = C.F → Sc C' (n.sub vs (own.map (·.2)) gs bs) → LkSc C' scope → PTs C'.X ifs (LftP C' Φ relB t)) (he : ∀ C', Sc C' (n.sub vs (own.map (·.2)) gs bs) → LkSc C' scope → DE C' elt el) (hw : ws.all (fun i => (own.map (·.2)).contains i) = true) :
    PE C.X (.ListComp elt [⟨tg, iter, ifs, 0⟩] scope pos) (LftP C Φ (relF C.T) (lcM (own.map (·.2)) mi f t el)) := by
  obtain ⟨hblk, hmp⟩ := lc_facts S L hb
  exact PE.imp (pe_lc (own := own) (g := LG C.blk1 ws f) (tt := LftP C.blk1 Φ relB t) (te := Lft C.blk1 (relE C.T) el) S.calm (by rw [S.hN]; exact S.nd) hi hblk (fun s H A cl fp => (hg _ (S.blk hb s H A cl fp) (.blk s H A cl fp)).pg) (fun s H A cl fp => ht (C.blk s H scope A cl fp) rfl (S.blk hb s H A cl fp) (.blk s H A cl fp)) (fun s H A cl fp => (he _ (S.blk hb s H A cl fp) (.blk s H A cl fp)).pe) (fold_ok hio _)) (lcP_read pm px hmp fun i hi => List.contains_iff_mem.mp (List.all_eq_true.mp hw i hi))
end
/-- for k in found[e] -/
def ky2 (ks : List Int) (fd : Fd) (me : M D) : M (List D) := bnd (qM ks me) fun j => opt ((fd[j]?).map fun kvs => kvs.map (·.1))
theorem pi_ky2 {B : Fw} {fd : Fd} {tg o : Expr} {me : M D} (ho : PE C.X o (LftP C (FSt C.T B fd) (relQ B) (qM B.ks me))) : PI C.X tg o (LftP C (FSt C.T B fd) (relIG C.T) (ky2 B.ks fd me)) :=
  PI.imp (pi_keysX (T := C.T) ho) fun σ H R ⟨Hf, G, ρ, ph, rr, h⟩ => postP fst_mono ph rr h fun x j H1 Hf1 ρ1 s1 ph1 r1 rx p1 => by
    obtain ⟨ds, e, q⟩ := opt_post p1
    obtain ⟨kvs, ek, rfl⟩ := Option.map_eq_some_iff.mp e
    obtain ⟨a, ha, rfl⟩ := rx
    obtain ⟨hs, xs, ep, g2, g3, g4⟩ := ph1.inn j a kvs ha ek
    refine ⟨a, xs, ep, rfl, hs, r1.fg _ _ g2, q _ H1 Hf1 (Same.refl _) r1 ⟨fun i H s1 s2 hi => ⟨s2 _ _ g2, ?_⟩, fun i H x H' d s1 s2 e y => ?_, fun H s1 s2 => ⟨s2 _ _ g2, ?_⟩⟩⟩
    · rw [ent_len g4]; simpa using hi
    · obtain ⟨e1, y, hy, rfl⟩ := y
      exact ⟨e1, ent_key g4 e hy⟩
    · rw [ent_len g4]; simp
/-- a comparison, its left side of what is held -/
theorem pt_cmpP {a b : Expr} {ma mb : M D} {op : CmpOp} {g : D → D → Option D} (pm : PMono Φ) (o : OpD C (compareOp op) g) (ha : PE C.X a (LftP C Φ (relE C.T) ma)) (hb : DE C b mb) : PT C.X (.Compare a [op] [b] pos) (LftP C Φ relB (asB (bin g ma mb))) := by
  obtain ⟨r, ho, hr⟩ := o
  refine PT.imp (pt_cmpR ho ha hb.pe (mark_ok hb.ok)) fun σ H Q ⟨Hf, G, ρ, ph, rr, h⟩ => ?_
  refine postP (rel2 := relE C.T) pm ph rr (asB_post h) fun x d H1 Hf1 ρ1 s1 ph1 r1 rx p1 => post_bind r1 p1 fun y e H2 Hf2 ρ2 s2 r2 ry p2 => ?_
  obtain ⟨z, ez, q⟩ := opt_post p2
  exact hr Hf2 G σ H2 ρ2 x y d e z _ r2 (Rp.top r2.fz (Rp.mono s2 _ _ rx)) (Rp.top r2.fz ry) ez q
theorem pe_frzP {e : Expr} {m : M (List D)} (pm : PMono Φ) (h : PE C.X e (LftP C Φ (relF C.T) m)) : PE C.X e (LftP C Φ (relE C.T) (frzM m)) := by
  refine PE.imp h fun σ H Q ⟨Hf, G, ρ, ph, rr, hh⟩ => ?_
  refine postP pm ph rr hh fun v ds H1 Hf1 ρ1 s ph1 r1 r p => ?_
  obtain ⟨q, vs, e, f, hq, ra⟩ := r
  subst e
  refine p (.ref q) H1 (upd Hf1 q (.lst vs)) (Same.updN f.1) (r1.freeze hq f.1 f.2.1 f.2.2 (r1.tb.ne hq fun ps z => by cases z)) ?_
  simp only [Rp]
  exact ⟨q, vs, rfl, SqL.of upd_same, RpA.mono (Same.updN f.1) _ _ ra⟩
end
end DS
set_option maxHeartbeats 4000000
/-! Statements over a dict of dicts. -/
namespace DS
open PySem L2
inductive Re2 where
  | nx (ρ : Rho) (fd : Fd) | rt (d : D) (ρ : Rho) (fd : Fd) | no
def Post2 (C : DC) (E : Ends) (B : Fw) (Hf : Hp) : Re2 → Prop
  | .nx ρ fd => ∀ σ H Hf' G, Same Hf Hf' → FSt C.T B fd Hf' G → RR C.F Hf' G σ H ρ → E.nx σ H
  | .rt d ρ fd => ∀ v σ H Hf' G, Same Hf Hf' → FSt C.T B fd Hf' G → RR C.F Hf' G σ H ρ → Rp C.T Hf' d v → E.rt v H
  | .no => False
theorem Post2.up {C : DC} {E : Ends} {B : Fw} {Hf Hf1 : Hp} (s : Same Hf Hf1) : ∀ {r : Re2}, Post2 C E B Hf r → Post2 C E B Hf1 r
  | .nx ρ fd, h => fun σ H Hf' G s' => h σ H Hf' G (s.trans s')
  | .rt d ρ fd, h => fun v σ H Hf' G s' => h v σ H Hf' G (s.trans s')
  | .no, h => h
abbrev N2 := Fd → Rho → Re2
def L2S (C : DC) (B : Fw) (m : N2) : TS := fun E σ H => ∃ fd Hf G ρ, FSt C.T B fd Hf G ∧ RR C.F Hf G σ H ρ ∧ Post2 C E B Hf (m fd ρ)
theorem PS.all {X : Cx} {st : Stmt} {ι : Type} {t : ι → TS} (h : ∀ i, PS X st (t i)) : PS X st (fun E σ H => ∃ i, t i E σ H) := ⟨fun pins s σ H E I ⟨i, hw⟩ => (h i).run pins s σ H E I hw⟩
theorem PSs.all {X : Cx} {st : List Stmt} {ι : Type} {t : ι → TS} (h : ∀ i, PSs X st (t i)) : PSs X st (fun E σ H => ∃ i, t i E σ H) := ⟨fun pins s σ H E I ⟨i, hw⟩ => (h i).run pins s σ H E I hw⟩
theorem PT.all {X : Cx} {e : Expr} {ι : Type} {t : ι → TT} (h : ∀ i, PT X e (t i)) : PT X e (fun σ H Q => ∃ i, t i σ H Q) := ⟨fun pins s σ H Q I ⟨i, hw⟩ => (h i).run pins s σ H Q I hw⟩
theorem PI.all {X : Cx} {tg e : Expr} {ι : Type} {t : ι → TI} (h : ∀ i, PI X tg e (t i)) : PI X tg e (fun σ H Q => ∃ i, t i σ H Q) := ⟨fun pins s σ H Q I ⟨i, hw⟩ => (h i).run pins s σ H Q I hw⟩
section
variable {C : DC} {n : Nm} {pos : Pos} {B : Fw}
def up2 (m : M Flow) : N2 := fun fd ρ => match m ρ with
  | .ok .nx ρ' => .nx ρ' fd
  | .ok (.rt d) ρ' => .rt d ρ' fd
  | _ => .no
theorem s2_ds {st : Stmt} {m : M Flow} (h : DS C st m) : PS C.X st (L2S C B (up2 m)) := PS.imp h.ps fun E σ H ⟨fd, Hf, G, ρ, fs, rr, p⟩ => by
  refine ⟨Hf, G, ρ, rr, ?_⟩
  unfold up2 at p
  cases e : m ρ with
  | ok f ρ1 =>
    rw [e] at p
    cases f with
    | nx => exact fun σ' H' Hf' s r => p σ' H' Hf' G s (fs.mono s) r
    | rt d => exact fun v σ' H' Hf' s r rp => p v σ' H' Hf' G s (fs.mono s) r rp
    | ro d => exact p.elim
    | bk => exact p.elim
    | ct => exact p.elim
  | ex x ρ1 => rw [e] at p; exact p.elim
  | no => rw [e] at p; exact p.elim
def sq2 (a b : N2) : N2 := fun fd ρ => match a fd ρ with
  | .nx ρ' fd' => b fd' ρ'
  | r => r
theorem s2_cons {st : Stmt} {rest : List Stmt} {a b : N2} (h1 : PS C.X st (L2S C B a)) (h2 : PSs C.X rest (L2S C B b)) : PSs C.X (st :: rest) (L2S C B (sq2 a b)) := PSs.imp (pss_cons h1 h2) fun E σ H ⟨fd, Hf, G, ρ, fs, rr, p⟩ => by
  refine ⟨fd, Hf, G, ρ, fs, rr, ?_⟩
  unfold sq2 at p
  cases e : a fd ρ with
  | nx ρ1 fd1 =>
    rw [e] at p
    exact fun σ1 H1 Hf1 G1 s1 fs1 r1 => ⟨fd1, Hf1, G1, ρ1, fs1, r1, p.up s1⟩
  | rt d ρ1 fd1 => rw [e] at p; exact p
  | no => rw [e] at p; exact p.elim
theorem s2_one {st : Stmt} {a : N2} (h1 : PS C.X st (L2S C B a)) : PSs C.X [st] (L2S C B a) := pss_one h1
theorem s2_nil : PSs C.X [] (L2S C B fun fd ρ => .nx ρ fd) := PSs.imp pss_nil fun E σ H ⟨fd, Hf, G, ρ, fs, rr, p⟩ => p σ H Hf G (Same.refl _) fs rr
def if2 (t : Fd → M Bool) (a b : N2) : N2 := fun fd ρ => match t fd ρ with
  | .ok true ρ' => a fd ρ'
  | .ok false ρ' => b fd ρ'
  | _ => .no
theorem s2_if {c : Expr} {a b : List Stmt} {t : Fd → M Bool} {ma mb : N2} (hc : ∀ fd, PT C.X c (LftP C (FSt C.T B fd) relB (t fd))) (ha : PSs C.X a (L2S C B ma)) (hb : PSs C.X b (L2S C B mb)) : PS C.X (.If c a b pos) (L2S C B (if2 t ma mb)) :=
  PS.imp (ps_if (PT.all hc) ha hb) fun E σ H ⟨fd, Hf, G, ρ, fs, rr, p⟩ => by
    refine ⟨fd, Hf, G, ρ, fs, rr, ?_⟩
    unfold if2 at p
    cases e : t fd ρ with
    | ok x ρ1 =>
      rw [e] at p
      intro x' H1 Hf1 s1 r1 ex
      subst ex
      cases x' with
      | true => rw [if_pos rfl]; exact ⟨fd, Hf1, G, ρ1, fs.mono s1, r1, p.up s1⟩
      | false => rw [if_neg Bool.false_ne_true]; exact ⟨fd, Hf1, G, ρ1, fs.mono s1, r1, p.up s1⟩
    | ex x ρ1 => rw [e] at p; exact p.elim
    | no => rw [e] at p; exact p.elim
theorem pt_up {c : Expr} {t : M Bool} (h : DT C c t) (fd : Fd) : PT C.X c (LftP C (FSt C.T B fd) relB t) := PT.imp h.pt lftP_of
theorem pi_up {tg it : Expr} {m : M (List D)} (h : DI C tg it m) (fd : Fd) : PI C.X tg it (LftP C (FSt C.T B fd) (relI C.T) m) := PI.imp h.pi lftP_of
def fo2 (f : D → M Unit) (b : N2) : List D → N2
  | [] => fun fd ρ => .nx ρ fd
  | d :: ds => fun fd ρ => match f d ρ with
    | .ok _ ρ1 => (match b fd ρ1 with
      | .nx ρ2 fd2 => fo2 f b ds fd2 ρ2
      | r => r)
    | _ => .no
def for2 (mi : Fd → M (List D)) (f : D → M Unit) (b : N2) : N2 := fun fd ρ => match mi fd ρ with
  | .ok ds ρ1 => fo2 f b ds fd ρ1
  | _ => .no
theorem s2_for {tg it : Expr} {body : List Stmt} {ws : List Nat} {mi : Fd → M (List D)} {f : D → M Unit} {b : N2} (S : Sc C n) (hi : ∀ fd, PI C.X tg it (LftP C (FSt C.T B fd) (relI C.T) (mi fd))) (ho : okE it = true) (hg : DG C tg ws f) (hb : PSs C.X body (L2S C B b)) : PS C.X (.For tg it body [] pos) (L2S C B (for2 mi f b)) :=
  PS.imp (ps_for S.po S.calm (PI.all hi) hg.pg hb (fold_ok ho _)) fun E σ H ⟨fd, Hf, G, ρ, fs, rr, p⟩ => by
    refine ⟨fd, Hf, G, ρ, fs, rr, ?_⟩
    unfold for2 at p
    cases e : mi fd ρ with
    | ex x ρ1 => rw [e] at p; exact p.elim
    | no => rw [e] at p; exact p.elim
    | ok ds ρ1 =>
      rw [e] at p
      intro J H1 Hf1 s1 r1 k
      refine ⟨fun i m σ H => m = ds.length - i ∧ i ≤ ds.length ∧ ∃ fd' Hf' G' ρ', Same Hf1 Hf' ∧ FSt C.T B fd' Hf' G' ∧ RR C.F Hf' G' σ H ρ' ∧ Post2 C E B Hf' (fo2 f b (ds.drop i) fd' ρ'), ⟨_, rfl, Nat.zero_le _, fd, Hf1, G, ρ1, Same.refl _, fs.mono s1, r1, p.up s1⟩, ?_⟩
      rintro i m σ2 H2 ⟨rfl, hi, fd2, Hf2, G2, ρ2, s2, fs2, r2, p2⟩
      by_cases hlt : i < ds.length
      · refine .inr ⟨k.1 i H2 (s2.trans r2.fz) hlt, fun σ' H' => ∃ fd' Hf' G' ρ', Same Hf1 Hf' ∧ FSt C.T B fd' Hf' G' ∧ RR C.F Hf' G' σ' H' ρ' ∧ Post2 C E B Hf' (fo2 f b (ds.drop (i + 1)) fd' ρ'), fun σ' H' z => ⟨ds.length - (i + 1), by omega, rfl, hlt, z⟩, fun x H3 y => ?_⟩
        have hd : ds.drop i = ds[i] :: ds.drop (i + 1) := List.drop_eq_getElem_cons hlt
        rw [hd] at p2
        obtain ⟨Hf3, s3, r3, rp⟩ := ItOk.step k s2 r2 (List.getElem?_eq_getElem hlt) y
        refine ⟨Hf3, G2, ρ2, ds[i], r3, rp, ?_⟩
        unfold fo2 at p2
        cases e : f ds[i] ρ2 with
        | ok u ρ3 =>
          simp only [e] at p2
          refine fun σ4 H4 Hf4 s4 r4 _ => ⟨fd2, Hf4, G2, ρ3, fs2.mono (s3.trans s4), r4, ?_⟩
          have s14 : Same Hf1 Hf4 := s2.trans (s3.trans s4)
          have s24 : Same Hf2 Hf4 := s3.trans s4
          cases e2 : b fd2 ρ3 with
          | nx ρ4 fd4 => simp only [e2] at p2; exact fun σ5 H5 Hf5 G5 s5 fs5 r5 => ⟨fd4, Hf5, G5, ρ4, s14.trans s5, fs5, r5, p2.up (s24.trans s5)⟩
          | rt d ρ4 fd4 => simp only [e2] at p2; exact (Post2.up s24 p2)
          | no => simp only [e2] at p2; exact p2.elim
        | ex x ρ3 => simp only [e] at p2; exact p2
        | no => simp only [e] at p2; exact p2
      · have e : i = ds.length := by omega
        subst e
        rw [List.drop_length] at p2
        exact .inl ⟨k.2.2 H2 (s2.trans r2.fz), p2 σ2 H2 Hf2 G2 (Same.refl _) fs2 r2⟩
/-- found[e][k] = v -/
def sto2 (ks : List Int) (mv : Fd → M D) (mo mk : M D) : N2 := fun fd ρ => match (bnd (mv fd) fun d => bnd (qM ks mo) fun j => bnd mk fun k => ret (d, j, k)) ρ with
  | .ok (d, j, k) ρ' => (match fd[j]?, tupK k with
    | some kvs, some key => if kvs.length ≤ sizeLine then .nx ρ' (fd.set j (stoK kvs key k d)) else .no
    | _, _ => .no)
  | _ => .no
theorem s2_store {o k v : Expr} {mv : Fd → M D} {mo mk : M D} {p2 : Pos} (S : Sc C n) (ho : ∀ fd, PE C.X o (LftP C (FSt C.T B fd) (relQ B) (qM B.ks mo))) (hk : DE C k mk) (hv : ∀ fd, PE C.X v (LftP C (FSt C.T B fd) (relE C.T) (mv fd))) (ov : okE v = true) (hl : noLc v = true) :
    PS C.X (.Assign [.Subscript o k p2] v pos) (L2S C B (sto2 B.ks mv mo mk)) := by
  refine PS.imp (PS.all (ι := Fd) (t := fun fd => tAsg (LftP C (FSt C.T B fd) (relE C.T) (mv fd)) (gSub (LftP C (FSt C.T B fd) (relQ B) (qM B.ks mo)) (Lft C (relE C.T) mk) (rSetK (wdOf C.X C.tb)))) fun fd =>
    ps_asg (hv fd) (pg_sub (ho fd) hk.pe (set_keyed S.rmK) (fun v => asg_ok hk.ok _ _ _ _)) (sws_ok ov hl _ _ _) (by cases v <;> rfl) rfl) fun E σ H ⟨fd, Hf, G, ρ, fs, rr, p⟩ => ?_
  refine ⟨fd, Hf, G, ρ, fs, rr, ?_⟩
  unfold sto2 bnd at p
  cases e1 : mv fd ρ with
  | ex x ρ1 => rw [e1] at p; exact p.elim
  | no => rw [e1] at p; exact p.elim
  | ok d ρ1 =>
    rw [e1] at p
    intro y H1 Hf1 s1 r1 ry
    refine ⟨Hf1, G, ρ1, fs.mono s1, r1, ?_⟩
    dsimp only at p
    cases e2 : qM B.ks mo ρ1 with
    | ex x ρ2 => rw [e2] at p; exact p.elim
    | no => rw [e2] at p; exact p.elim
    | ok j ρ2 =>
      rw [e2] at p
      intro x H2 Hf2 s2 r2 rx
      refine ⟨Hf2, G, ρ2, r2, ?_⟩
      dsimp only at p
      cases e3 : mk ρ2 with
      | ex x ρ3 => rw [e3] at p; exact p.elim
      | no => rw [e3] at p; exact p.elim
      | ok kd ρ3 =>
        rw [e3] at p
        intro z H3 Hf3 s3 r3 rz
        obtain ⟨a, ha, rfl⟩ := rx
        dsimp only at p
        cases ef : fd[j]? with
        | none => simp only [ret, ef] at p; exact p.elim
        | some kvs =>
          cases ek : tupK kd with
          | none => simp only [ret, ef, ek] at p; exact p.elim
          | some key =>
            simp only [ret, ef, ek] at p
            split at p
            · rename_i hsz
              obtain ⟨k1, k2, k3⟩ := tupK_some ek
              obtain ⟨b, rfl⟩ := k3 rz
              have fs3 : FSt C.T B fd Hf3 G := fs.mono (s1.trans (s2.trans s3))
              obtain ⟨_, xs, ep, g2, g3, g4⟩ := fs3.inn j a kvs ha ef
              refine ⟨Hf3, b, a, kd, key, kvs, xs, ep, r3.fz, rfl, rfl, r3.fg _ _ g2, g3, g4, k1, k2, rz, by rw [ent_len g4]; exact hsz, fun val ep' rval nod => ?_⟩
              exact p σ _ Hf3 _ (s1.trans (s2.trans s3)) (fs3.wr ha nod (ent_sto k1 k2 rz (Rp.mono (s2.trans s3) _ _ ry) rval g4)) (r3.wrG g2)
            · exact p.elim
end
end DS
set_option maxHeartbeats 4000000
/-! A dict of dicts is made: found = {}, found[k] = {}, found[0] = layer. -/
namespace DS
open PySem L2
theorem val_none : ∀ {ks : List Int} {as : List Addr} {k : Int}, k ∉ ks → valV (ks.zip as |>.map fun e => ((Sum.inl e.1 : Key), V.ref e.2)) (.inl k) = none
  | [], _, _, _ => rfl
  | _ :: _, [], _, _ => rfl
  | x :: ks, a :: as, k, h => by
    rw [List.mem_cons, not_or] at h
    have ih := val_none (as := as) h.2
    unfold valV at ih ⊢
    rw [List.zip_cons_cons, List.map_cons, List.find?_cons]
    have : ¬ ((Sum.inl x : Key) = Sum.inl k) := fun z => h.1 (Sum.inl.inj z).symm
    simp only [this, decide_false]
    exact ih
theorem topO_snoc {ks : List Int} {as : List Addr} (h : as.length = ks.length) (k : Int) (a : Addr) : topO (ks ++ [k]) (as ++ [a]) = .dK (putK (ks.zip as |>.map fun e => ((Sum.inl e.1 : Key), V.ref e.2)) (.inl k) (.ref a)) ∨ k ∈ ks := by
  by_cases hk : k ∈ ks
  · exact .inr hk
  · refine .inl ?_
    rw [putK_new _ (val_none hk)]
    unfold topO
    rw [List.zip_append h.symm]
    simp
theorem FSt.snoc {T : Wd} {ks : List Int} {p a : Addr} {as : List Addr} {G0 Hf G : Hp} {fd : Fd} {kvs : List (D × D)} {xs : List (NestedKey × Addr × Value)} {ep : Nat} {k : Int} (h : FSt T ⟨ks, p, as, G0⟩ fd Hf G) (ha : G a = none) (hs : (a == sysModules) = false) (nd : (xs.map (·.1)).Nodup) (en : EntOk T Hf kvs xs) :
    FSt T ⟨ks ++ [k], p, as ++ [a], G0⟩ (fd ++ [kvs]) Hf (upd (upd G a (dHO T xs ep a)) p (topO (ks ++ [k]) (as ++ [a]))) := by
  have top := h.top
  have la := h.la
  have lf := h.lf
  dsimp only at top la lf
  have pa : a ≠ p := fun z => by rw [z, top] at ha; cases ha
  have na : ∀ b ∈ as, b ≠ a ∧ b ≠ p := fun b hb => by
    obtain ⟨j, hj⟩ := List.mem_iff_getElem?.mp hb
    have hl : j < fd.length := by have := lt_of_get hj; omega
    obtain ⟨_, xs', ep', g, _⟩ := h.inn j b _ hj (List.getElem?_eq_getElem hl)
    refine ⟨fun z => (by rw [z, ha] at g; cases g), fun z => ?_⟩
    have := (List.nodup_cons.mp h.nd).1
    exact this (z ▸ hb)
  have g0 : G0 a = none := by
    cases e : G0 a with
    | none => rfl
    | some u => rw [h.sub a u e] at ha; cases ha
  refine ⟨fun b u e => ?_, by simp [la], by simp [lf], h.np, fun b hb => ?_, ?_, upd_same, fun j b kv e1 e2 => ?_⟩
  · have e : G0 b = some u := e
    have np0 : G0 p = none := h.np
    have n1 : b ≠ p := fun z => by rw [z, np0] at e; cases e
    have n2 : b ≠ a := fun z => by rw [z, g0] at e; cases e
    rw [upd_ne n1, upd_ne n2]
    exact h.sub b u e
  · rcases List.mem_append.mp hb with hb | hb
    · exact h.na b hb
    · rw [List.mem_singleton] at hb
      subst hb
      exact g0
  · have hn := List.nodup_cons.mp h.nd
    dsimp only at hn ⊢
    rw [List.nodup_cons, List.nodup_append]
    refine ⟨fun hb => ?_, hn.2, by simp, fun x hx y hy => ?_⟩
    · rcases List.mem_append.mp hb with hb | hb
      · exact hn.1 hb
      · rw [List.mem_singleton] at hb
        exact pa hb.symm
    · rw [List.mem_singleton] at hy
      subst hy
      exact (na x hx).1
  · have e1 : (as ++ [a])[j]? = some b := e1
    by_cases hj : j < as.length
    · rw [List.getElem?_append_left hj] at e1
      rw [List.getElem?_append_left (by omega)] at e2
      obtain ⟨h1, xs', ep', g, r⟩ := h.inn j b kv e1 e2
      have nb := na b (List.mem_of_getElem? e1)
      exact ⟨h1, xs', ep', by rw [upd_ne nb.2, upd_ne nb.1]; exact g, r⟩
    · have : j = as.length := by have := lt_of_get e1; simp at this; omega
      subst this
      rw [List.getElem?_append_right (Nat.le_refl _), Nat.sub_self] at e1
      rw [List.getElem?_append_right (by omega), show as.length - fd.length = 0 by omega] at e2
      simp at e1 e2
      subst e1 e2
      exact ⟨hs, xs, ep, by rw [upd_ne pa, upd_same], nd, en⟩
def keys1 (i : Nat) : List Int := (List.range i).map fun (x : Nat) => (1 + (x : Int))
theorem keys1_succ (i : Nat) : keys1 (i + 1) = keys1 i ++ [1 + (i : Int)] := by simp [keys1, List.range_succ]
theorem keys1_no (i : Nat) : (1 + (i : Int)) ∉ keys1 i := fun h => by
  obtain ⟨x, hx, e⟩ := List.mem_map.mp h
  rw [List.mem_range] at hx
  omega
theorem keys1_zero (i : Nat) : (0 : Int) ∉ keys1 i := fun h => by
  obtain ⟨x, hx, e⟩ := List.mem_map.mp h
  omega
def fd0 (m : Nat) (kvs : List (D × D)) : Fd := List.replicate m [] ++ [kvs]
abbrev C1of (C : DC) (i : Nat) (s0 : St) : DC := ⟨C.X, C.W, [i], s0, C.tb⟩
/-- the whole: the dict of dicts is made, then what is done with it -/
def twoM (mm : List Int → N2) : M Flow := fun ρ => match ρ with
  | [.im P, .im (.int m), .un, .un, .un, .un, .un, .un] => if 0 ≤ m ∧ m ≤ 1000 then
      (match mm (keys1 m.toNat ++ [0]) (fd0 m.toNat [(.tuple [], .int 1)]) [.im P, .im (.int m), .un, .un, .un, .un, .un, .un] with
      | .rt d ρ' _ => .ok (.rt d) ρ'
      | _ => .no) else .no
  | _ => .no
section
variable {C : DC} {n : Nm}
abbrev r8 (P : D) (m : Int) (z2 z4 : Sl) : Rho := [.im P, .im (.int m), z2, .un, z4, .un, .un, .un]
/-- the loop that lays the inner dicts -/
def InitW (C : DC) (G0 : Hp) (p : Addr) (P : D) (m : Nat) (kvs0 : List (D × D)) (Hf0 : Hp) (i : Nat) (σ : St) (H : Hp) : Prop :=
  ∃ Hf G as z4, Same Hf0 Hf ∧ FSt C.T ⟨keys1 i, p, as, G0⟩ (List.replicate i []) Hf G ∧ RR C.F Hf G σ H (r8 P m (.md kvs0) z4) ∧ σ[3]? = some (some (.ref p)) ∧ (z4 = .un ∨ ∃ d, z4 = .im d)
theorem ps_init {pb p1 p2 pd : Pos} (S : Sc C n) (h3 : 3 ∈ n.vs) (x3 : n.N[3]? = some ("found" : Str)) (h4 : 4 ∈ n.vs) (x4 : n.N[4]? = some ("long" : Str)) :
    PS C.X (.Assign [.Subscript (.Name "found" p1) (.Name "long" p2) pb] (.Dict [] [] pd) pos) (sDPut (tVar 3) (tVar 4) (tDict0 (wdOf C.X C.tb))) :=
  ps_dput (by have := S.room.units; omega) (pv_ok S 3 h3 x3) (pv_ok S 4 h4 x4) pe_dict0 (sw_ok rfl rfl _ _ _)
theorem init_step {G0 : Hp} {p : Addr} {P : D} {m : Nat} {kvs0 : List (D × D)} {Hf0 : Hp} {i : Nat} {σ : St} {H : Hp} {E : Ends} (hm : m ≤ 1000) (hi : i < m) (w : ∃ Hf G as, Same Hf0 Hf ∧ FSt C.T ⟨keys1 i, p, as, G0⟩ (List.replicate i []) Hf G ∧ RR C.F Hf G σ H (r8 P m (.md kvs0) (.im (.int (1 + (i : Int))))) ∧ σ[3]? = some (some (.ref p)) ∧ σ[4]? = some (some (.int (1 + (i : Int)))))
    (k : ∀ σ H, InitW C G0 p P m kvs0 Hf0 (i + 1) σ H → E.nx σ H) : sDPut (tVar 3) (tVar 4) (tDict0 (wdOf C.X C.tb)) E σ H := by
  obtain ⟨Hf, G, as, s0, fs, rr, e3, e4⟩ := w
  intro a ep ha hs
  refine ⟨.ref p, e3, .int (1 + (i : Int)), e4, p, upd (upd H a (dHO (wdOf C.X C.tb) [] ep a)) p (.dK (putK (keys1 i |>.zip as |>.map fun e => ((Sum.inl e.1 : Key), V.ref e.2)) (.inl (1 + (i : Int))) (.ref a))), rfl, ?_, ?_⟩
  · have np : p ≠ a := fun z => by
      have := rr.fg _ _ fs.top
      dsimp only at this
      rw [z, ha] at this; cases this
    refine DPut.k (k := .inl (1 + (i : Int))) (by rw [upd_ne np]; exact rr.fg _ _ fs.top) ?_
    have la := fs.la
    dsimp only at la
    rw [List.length_map, List.length_zip, la, Nat.min_self]
    simp only [keys1, List.length_map, List.length_range]
    rw [sizeLine_eq]
    omega
  · refine k _ _ ?_
    have gn : G a = none := rr.fg.free ha
    have la := fs.la
    dsimp only at la
    have tp := (topO_snoc la (1 + (i : Int)) a).resolve_right (keys1_no i)
    have fs1 := fs.snoc (k := 1 + (i : Int)) (ep := ep) (kvs := []) (xs := []) gn hs List.nodup_nil rfl
    have r1 : RR C.F Hf (upd G a (dHO C.T [] ep a)) σ (upd H a (dHO C.T [] ep a)) (r8 P m (.md kvs0) (.im (.int (1 + (i : Int))))) := rr.hold ha
    have np : p ≠ a := fun z => by
      have := rr.fg _ _ fs.top
      dsimp only at this
      rw [z, ha] at this; cases this
    have r2 := r1.wrG (q := p) (o := topO (keys1 i) as) (o' := topO (keys1 i ++ [1 + (i : Int)]) (as ++ [a])) (by rw [upd_ne np]; exact fs.top)
    refine ⟨Hf, upd (upd G a (dHO C.T [] ep a)) p (topO (keys1 i ++ [1 + (i : Int)]) (as ++ [a])), as ++ [a], .im (.int (1 + (i : Int))), s0, ?_, by rw [← tp]; exact r2, e3, .inr ⟨_, rfl⟩⟩
    rw [keys1_succ, List.replicate_succ']
    exact fs1
end
end DS
set_option maxHeartbeats 4000000
/-! The def whose dict of dicts is made first. -/
namespace DS
open PySem L2
section
variable {C : DC} {n : Nm}
/-- an own dict is moved among what is held -/
theorem RR.give {F : Fx} {Hf G H : Hp} {σ : St} {ρ : Rho} {i : Nat} {kvs : List (D × D)} {q : Addr} {o : HO} (R : RR F Hf G σ H ρ) (hm : i ∉ F.mp) (e : ρ[i]? = some (.md kvs)) (hq : σ[i]? = some (some (.ref q))) (hH : H q = some o) (no : ∀ ps, o ≠ .tbl ps) : RR F Hf (upd G q o) σ H (ρ.set i .un) := by
  have hl : i < σ.length := by rw [← R.len]; exact lt_of_get e
  have es : σ.set i (some (.ref q)) = σ := by
    apply List.ext_getElem?
    intro j
    by_cases hj : j = i
    · subst hj; rw [List.getElem?_set_self hl, hq]
    · rw [List.getElem?_set_ne (Ne.symm hj)]
  have r1 := R.drop hm (some (.ref q))
  rw [es] at r1
  obtain ⟨a, b, _⟩ := R.own e rfl hq
  refine r1.aside ⟨a, b, fun j x ex ox hx => ?_⟩ hH no
  rcases get_set_cases ex with ⟨_, rfl, _⟩ | ⟨hj, ex⟩
  · cases ox
  · exact R.ds j i x _ q hj ex e ox rfl hx hq
theorem dss_two {rest : List Stmt} {mm : List Int → N2} {kk : Nat} {pl pt pd pa pf pfd pfa pL pr pm pbo pra f1 f2 f3 f4 f5 pfor g1 g2 g3 g4 p5 p6 p7 p8 : Pos} {u1 u2 u3 u4 : Nat} (S : Sc C n) (hmp : C.mp = []) (jr : Nat) (hjr : n.bs[jr]? = some ("range" : Str))
    (v1 : 1 ∈ n.vs) (x1 : n.N[1]? = some ("most_here" : Str)) (v2 : 2 ∈ n.vs) (w2 : 2 ∈ n.ws) (x2 : n.N[2]? = some ("layer" : Str)) (v3 : 3 ∈ n.vs) (w3 : 3 ∈ n.ws) (x3 : n.N[3]? = some ("found" : Str)) (v4 : 4 ∈ n.vs) (w4 : 4 ∈ n.ws) (x4 : n.N[4]? = some ("long" : Str))
    (hmain : ∀ (B : Fw) (s0 : St), s0[3]? = some (some (.ref B.p)) → PSs C.X rest (L2S (C1of C 3 s0) B (mm B.ks))) :
    DSs C (.Assign [.Name "layer" pl] (.Dict [some (.Tuple [] kk pt)] [.Constant (.int 1) u1 pd] pa) pf :: .Assign [.Name "found" pfd] (.Dict [] [] pfa) pL :: .For (.Name "long" pr) (.Call (.Name "range" pm) [.Constant (.int 1) u2 pbo, .BinOp (.Name "most_here" pra) .Add (.Constant (.int 1) u3 f1) f2] [] f3) [.Assign [.Subscript (.Name "found" f4) (.Name "long" f5) pfor] (.Dict [] [] g1) g2] [] g3 ::
      .Assign [.Subscript (.Name "found" g4) (.Constant (.int 0) u4 p5) p6] (.Name "layer" p7) p8 :: rest) (twoM mm) := by
  have i3 : 3 ∉ C.F.mp := by show 3 ∉ C.mp; rw [hmp]; simp
  have i2 : 2 ∉ C.F.mp := by show 2 ∉ C.mp; rw [hmp]; simp
  have i4 : 4 ∉ C.F.mp := by show 4 ∉ C.mp; rw [hmp]; simp
  have d1 : DS C (.Assign [.Name "layer" pl] (.Dict [some (.Tuple [] kk pt)] [.Constant (.int 1) u1 pd] pa) pf) (smM (d1M (tupM (ret [])) (ret (.int 1))) 2) := ds_setD S 2 w2 x2 (dd_one S (de_tup da_nil) de_int)
  have d2 : PS C.X (.Assign [.Name "found" pfd] (.Dict [] [] pfa) pL) (tAsg tDNewK (gName 3)) := ps_asg pe_dnewK (pg_ok S 3 w3 x3) rfl rfl rfl
  have d3i : DI C (.Name "long" pr) (.Call (.Name "range" pm) [.Constant (.int 1) u2 pbo, .BinOp (.Name "most_here" pra) .Add (.Constant (.int 1) u3 f1) f2] [] f3) (rg2 (ret (.int 1)) (binN addD 1 (ret (.int 1)))) := di_rg2 S jr hjr de_int (de_binN S o_add 1 v1 x1 (DE.k de_int))
  have d3 := ps_for (pos := g3) S.po S.calm d3i.pi (pg_ok (pos := pr) S 4 w4 x4) (pss_one (ps_init (pb := pfor) (p1 := f4) (p2 := f5) (pd := g1) (pos := g2) S v3 x3 v4 x4)) (fun _ => rfl)
  have d4 : PS C.X (.Assign [.Subscript (.Name "found" g4) (.Constant (.int 0) u4 p5) p6] (.Name "layer" p7) p8) (sDPut (tVar 3) (Lft C (relE C.T) (ret (.int 0))) (tVar 2)) :=
    ps_dput (by have := S.room.units; omega) (pv_ok S 3 v3 x3) de_int.pe (pv_ok S 2 v2 x2) (sw_ok rfl rfl _ _ _)
  have d5 := PSs.all (ι := { x : Fw × St // x.2[3]? = some (some (.ref x.1.p)) }) fun x => hmain x.1.1 x.1.2 x.2
  refine ⟨PSs.imp (pss_cons d1.ps (pss_cons d2 (pss_cons d3 (pss_cons d4 d5)))) fun E σ H ⟨Hf, G, ρ, rr, h⟩ => ?_⟩
  unfold twoM at h
  split at h
  case h_2 => exact h.elim
  rename_i P m
  split at h
  case isFalse => exact h.elim
  rename_i hm
  obtain ⟨m, rfl⟩ : ∃ k : Nat, m = (k : Int) := ⟨m.toNat, by omega⟩
  have hm2 : m ≤ 1000 := by omega
  rw [show ((m : Int)).toNat = m by omega] at h
  have sz0 : 0 ≤ sizeLine := Nat.zero_le _
  have tk : tupK (.tuple []) = some (.tup []) := by decide +kernel
  -- layer = {(): 1}
  refine ⟨Hf, G, _, rr, ?_⟩
  have e1 : (smM (d1M (tupM (ret [])) (ret (.int 1))) 2) [.im P, .im (.int (m : Int)), .un, .un, .un, .un, .un, .un] = .ok .nx [.im P, .im (.int (m : Int)), .md [(.tuple [], .int 1)], .un, .un, .un, .un, .un] := by
    simp [sz0, tk]
  rw [e1]
  intro σ1 H1 Hf1 s1 r1
  -- found = {}
  intro p hp
  have ln : σ1.length = 8 := by rw [← r1.len]; rfl
  have r2 : RR C.F Hf1 (upd G p (.dK [])) (σ1.set 3 (some (.ref p))) (upd H1 p (.dK [])) [.im P, .im (.int (m : Int)), .md [(.tuple [], .int 1)], .un, .un, .un, .un, .un] := (r1.hold hp).drop i3 (some (.ref p))
  have gp : G p = none := r1.fg.free hp
  have fs2 : FSt C.T ⟨keys1 0, p, [], G⟩ (List.replicate 0 []) Hf1 (upd G p (.dK [])) :=
    ⟨fun b u e => by rw [upd_ne (ne_of_none e gp)]; exact e, rfl, rfl, gp, fun a ha => (by cases ha), by simp, upd_same, fun j a kvs e1 e2 => (by cases e1)⟩
  have l3 : (σ1.set 3 (some (.ref p)))[3]? = some (some (.ref p)) := List.getElem?_set_self (by omega)
  -- the loop
  have d3m : (rg2 (ret (.int 1)) (binN addD 1 (ret (.int 1)))) [.im P, .im (.int (m : Int)), .md [(.tuple [], .int 1)], .un, .un, .un, .un, .un] = .ok (rgD 1 m 1) [.im P, .im (.int (m : Int)), .md [(.tuple [], .int 1)], .un, .un, .un, .un, .un] := by
    have q1 : inR 1 = true := inR_nat (k := 1) (by omega)
    have q2 : inR ((m : Int) + 1) = true := by
      have := inR_nat (k := m + 1) (by omega)
      rwa [show ((m + 1 : Nat) : Int) = (m : Int) + 1 by omega] at this
    have q3 : ((m : Int) + 1 - 1).toNat = m := by omega
    simp [q1, q2, q3]
  refine ⟨Hf1, _, _, r2, ?_⟩
  rw [d3m]
  intro J H2 Hf2 s2 r3 kI
  refine ⟨fun i mm σ H => mm = m - i ∧ i ≤ m ∧ InitW C G p P m [(.tuple [], .int 1)] Hf2 i σ H, ⟨m, rfl, Nat.zero_le _, Hf2, _, [], .un, Same.refl _, fs2.mono s2, r3, l3, .inl rfl⟩, ?_⟩
  rintro i mm' σ3 H3 ⟨rfl, hi, Hf3, G3, as3, z4, s3, fs3, r4, l4, hz4⟩
  have lr : (rgD 1 m 1).length = m := by simp
  by_cases hlt : i < m
  · refine .inr ⟨kI.1 i H3 (s3.trans r4.fz) (by rw [lr]; exact hlt), fun σ H => InitW C G p P m [(.tuple [], .int 1)] Hf2 (i + 1) σ H, fun σ' H' z => ⟨m - (i + 1), by omega, rfl, hlt, z⟩, fun x H4 y => ?_⟩
    have hd : (rgD 1 m 1)[i]? = some (.int (1 + (i : Int))) := by
      unfold rgD
      rw [List.getElem?_map, List.getElem?_range hlt, Option.map_some, Int.mul_one]
    obtain ⟨Hf4, s4, r5, rp⟩ := ItOk.step kI s3 r4 hd y
    have ex : x = .int (1 + (i : Int)) := by simpa only [Rp] using rp
    subst ex
    have ln3 : σ3.length = 8 := by rw [← r4.len]; rfl
    exact init_step (E := { nx := fun σ H => InitW C G p P m [(.tuple [], .int 1)] Hf2 (i + 1) σ H, ct := _, bk := _, rt := _ }) hm2 hlt ⟨Hf4, G3, as3, s3.trans s4, fs3.mono s4, r5.set i4 (rp_int _), by rw [List.getElem?_set_ne (by decide)]; exact l4, List.getElem?_set_self (by omega)⟩ fun σ H z => z
  · have : i = m := by omega
    subst this
    refine .inl ⟨by have := kI.2.2 H3 (s3.trans r4.fz); rw [lr] at this; exact this, ?_⟩
    -- found[0] = layer
    obtain ⟨q, hq, fq, gq, hqs, xs, ep, hH, nd, en⟩ := r4.sl 2 _ rfl
    refine ⟨.ref q, hq, .ref p, l4, Hf3, G3, _, r4, fun y H5 Hf5 s5 r6 ry => ?_⟩
    have ey : y = .int 0 := by simpa only [relE, Rp] using ry
    subst ey
    have la := fs3.la
    dsimp only at la
    have tp := (topO_snoc la (0 : Int) q).resolve_right (keys1_zero i)
    obtain ⟨q', hq', fq5, gq5, hqs5, xs5, ep5, hH5, nd5, en5⟩ := r6.sl 2 _ rfl
    rw [hq] at hq'
    cases hq'
    have fs5 := (fs3.mono s5).snoc (k := 0) (ep := ep5) (kvs := [(.tuple [], .int 1)]) (xs := xs5) gq5 hqs5 nd5 en5
    have r7 := r6.give (i := 2) i2 rfl hq hH5 (fun ps z => by unfold dHO at z; cases z)
    have np : p ≠ q := fun z => by
      have := (fs3.mono s5).top
      dsimp only at this
      rw [z, gq5] at this; cases this
    have r8' := r7.wrG (q := p) (o := topO (keys1 i) as3) (o' := topO (keys1 i ++ [0]) (as3 ++ [q])) (by rw [upd_ne np]; exact fs3.top)
    refine ⟨p, upd H5 p (.dK (putK (keys1 i |>.zip as3 |>.map fun e => ((Sum.inl e.1 : Key), V.ref e.2)) (.inl 0) (.ref q))), rfl, ?_, ?_⟩
    · refine DPut.k (k := .inl 0) (r6.fg _ _ fs3.top) ?_
      rw [List.length_map, List.length_zip, la, Nat.min_self]
      simp only [keys1, List.length_map, List.length_range]
      rw [sizeLine_eq]
      omega
    · rw [← tp]
      have r9 : RR C.F Hf5 (upd (upd G3 q (dHO C.T xs5 ep5 q)) p (topO (keys1 i ++ [0]) (as3 ++ [q]))) σ3 (upd H5 p (topO (keys1 i ++ [0]) (as3 ++ [q]))) (r8 P i .un .un) := by
        have ln3 : σ3.length = 8 := by rw [← r4.len]; rfl
        rcases hz4 with rfl | ⟨d, rfl⟩
        · exact r8'
        · have q9 := r8'.drop (i := 4) i4 (σ3[4]'(by omega))
          have es : σ3.set 4 (σ3[4]'(by omega)) = σ3 := List.set_getElem_self _
          rw [es] at q9
          exact q9
      refine ⟨⟨(⟨keys1 i ++ [0], p, as3 ++ [q], G⟩, σ3), l4⟩, fd0 i [(.tuple [], .int 1)], Hf5, _, _, fs5, r9.unkeep (mp := [3]) (s0 := σ3) (fun _ _ => rfl), ?_⟩
      have sAll : Same Hf Hf5 := s1.trans (s2.trans (s3.trans s5))
      cases em : mm (keys1 i ++ [0]) (fd0 i [(.tuple [], .int 1)]) [.im P, .im (.int (i : Int)), .un, .un, .un, .un, .un, .un] with
      | nx ρ' fd' => rw [em] at h; exact h.elim
      | no => rw [em] at h; exact h.elim
      | rt d ρ' fd' =>
        rw [em] at h
        intro v σ' H' Hf' G' s' fs' r' rp'
        refine h v σ' H' Hf' (sAll.trans s') ?_ rp'
        have ra := (r'.lessG fs'.sub).unkeep (mp := C.mp) (s0 := C.s0) (fun j hj => by rw [hmp] at hj; cases hj)
        exact ra
theorem pi_seqP {Φ : Hp → Hp → Prop} {tg a : Expr} {ma : M D} (pm : PMono Φ) (h : PE C.X a (LftP C Φ (relE C.T) ma)) : PI C.X tg a (LftP C Φ (relI C.T) (itM ma)) :=
  PI.imp (pi_seq h) fun σ H R ⟨Hf, G, ρ, ph, rr, h⟩ => postP pm ph rr h fun x d H1 Hf1 ρ1 s1 ph1 r1 rx p1 => (by
    obtain ⟨z, e, q⟩ := opt_post p1
    unfold walkD at e
    split at e
    · cases e
      simp only [Rp] at rx
      obtain ⟨p, xs, e1, s1, ra⟩ := rx
      refine .inl ⟨p, xs, e1, (r1.fz.seq s1), q _ H1 Hf1 (Same.refl _) r1 (it_at walk_list (fun H s => s.seq s1) ra)⟩
    · cases e
      simp only [Rp] at rx
      obtain ⟨p, xs, e1, s1, ra⟩ := rx
      refine .inr (.inl ⟨p, xs, e1, Same.sqT r1.fz s1, q _ H1 Hf1 (Same.refl _) r1 (it_at walk_tup (fun H s => Same.sqT s s1) ra)⟩)
    · cases e
      simp only [Rp] at rx
      exact .inr (.inr ⟨_, rx.1, q _ H1 Hf1 (Same.refl _) r1 (it_str rx.2)⟩)
    · cases e)
/-- the context in which one slot is kept -/
theorem Sc.one {sc : Scope} {ws : List Nat} {i : Nat} {s0 : St} (S : Sc C n) (L : LkSc C sc) (hw : ws.all (fun j => n.ws.contains j) = true) (ck : scB { n with mp := [i], ws := ws } sc = true) : Sc (C1of C i s0) { n with mp := [i], ws := ws } := by
  refine ⟨S.hN, S.nd, ?_, S.kd, S.calm, fun j hj x hx => S.fnc j (List.contains_iff_mem.mp (List.all_eq_true.mp hw j hj)) x hx, rfl, S.po, S.room, S.bno, S.fs, S.tk, S.tp⟩
  rcases L with L | ⟨env, L⟩
  · show scB _ C.X.env.scope = true
    rw [L]; exact ck
  · show scB _ C.X.env.scope = true
    rw [L]; exact scB_rel ck
end
end DS
set_option maxHeartbeats 4000000
/-! Rules for a def that is called within an except suite. -/
namespace DS
open PySem L2
structure ScH (C : DC) (n : Nm) : Prop where
  hN : C.X.N = n.N
  nd : n.N.Nodup
  ck : scB n C.X.env.scope = true
  fnc : ∀ i ∈ n.ws, ∀ x, n.N[i]? = some x → C.X.env.scope.names.lookup x = some .cell → C.X.fn x = true
  mpe : C.mp = n.mp
  room : L2H.RoomH n.lv C.X.A
  bno : ∀ x ∈ n.bn, C.X.mg x = none
  fs : n.fs C.T
section
variable {C : DC} {n : Nm} {pos : Pos} {a b : Expr} {ma mb : M D} {g : D → D → Option D}
theorem ScH.vis (S : ScH C n) {i : Nat} {x : Str} (hi : i ∈ n.vs) (hx : n.N[i]? = some x) : Vis C.X.env.scope x ∧ plB x = true := by
  have h := S.ck
  unfold scB at h
  simp only [Bool.and_eq_true] at h
  have h1 := List.all_eq_true.mp h.1 i hi
  rw [hx] at h1
  simp only [Bool.and_eq_true, visB, Bool.or_eq_true] at h1
  refine ⟨?_, h1.2⟩
  rcases h1.1 with (z | z) | z
  · exact .inl (eq_of_beq_kind z)
  · exact .inr (.inl (eq_of_beq_kind z))
  · exact .inr (.inr (eq_of_beq_kind z))
theorem ScH.loc (S : ScH C n) {i : Nat} {x : Str} (hi : i ∈ n.ws) (hx : n.N[i]? = some x) : Loc C.X.env.scope x ∧ (C.X.fn x = true ∨ C.X.env.scope.names.lookup x = some .local) := by
  have h := S.ck
  unfold scB at h
  simp only [Bool.and_eq_true] at h
  have h1 := List.all_eq_true.mp h.2.1 i hi
  rw [hx, Bool.and_eq_true] at h1
  have h1 := h1.1
  simp only [locB, Bool.or_eq_true] at h1
  rcases h1 with z | z
  · exact ⟨.inl (eq_of_beq_kind z), .inr (eq_of_beq_kind z)⟩
  · exact ⟨.inr (eq_of_beq_kind z), .inl (S.fnc i hi x hx (eq_of_beq_kind z))⟩
theorem ScH.mpo (S : ScH C n) : ∀ i ∈ n.ws, i ∉ C.mp := fun i hi hm => by
  have h := S.ck
  unfold scB at h
  simp only [Bool.and_eq_true] at h
  have h1 := List.all_eq_true.mp h.2.1 i hi
  rw [Bool.and_eq_true] at h1
  rw [S.mpe] at hm
  have h2 := h1.2
  rw [List.contains_iff_mem.mpr hm] at h2
  cases h2
theorem ScH.glx (S : ScH C n) {x : Str} (hx : x ∈ n.gs ++ n.bs) : Gl C.X x ∧ plB x = true := by
  have h := S.ck
  unfold scB at h
  simp only [Bool.and_eq_true] at h
  have h1 := List.all_eq_true.mp h.2.2.1.1 x hx
  simp only [Bool.and_eq_true] at h1
  exact ⟨eq_of_beq_kind h1.1, h1.2⟩
theorem ScH.bsn (S : ScH C n) : ∀ x ∈ n.bs, C.X.mg x = none := fun x hx => by
  have h := S.ck
  unfold scB at h
  simp only [Bool.and_eq_true] at h
  exact S.bno x (List.contains_iff_mem.mp (List.all_eq_true.mp h.2.2.1.2 x hx))
theorem ScH.gl (S : ScH C n) {x : Str} {j : Nat} (hx : n.gs[j]? = some x) : Gl C.X x ∧ plB x = true := S.glx (List.mem_append_left _ (List.mem_of_getElem? hx))
theorem ScH.bl (S : ScH C n) {x : Str} {j : Nat} (hx : n.bs[j]? = some x) : Gl C.X x ∧ C.X.mg x = none := ⟨(S.glx (List.mem_append_right _ (List.mem_of_getElem? hx))).1, S.bsn x (List.mem_of_getElem? hx)⟩
theorem pv_okH (S : ScH C n) (i : Nat) {x : Str} {pos : Pos} (hi : i ∈ n.vs) (hx : n.N[i]? = some x) : PE C.X (.Name x pos) (tVar i) :=
  pe_var (by rw [S.hN]; exact hx) (S.vis hi hx).1 (plB_d (S.vis hi hx).2).1 (plB_d (S.vis hi hx).2).2.1
theorem pg_okH (S : ScH C n) (i : Nat) {x : Str} {pos : Pos} (hi : i ∈ n.ws) (hx : n.N[i]? = some x) : PG C.X (.Name x pos) (gName i) :=
  pg_name (by rw [S.hN]; exact S.nd) (by rw [S.hN]; exact hx) (S.loc hi hx).1 (S.loc hi hx).2
theorem de_varH (S : ScH C n) (i : Nat) {x : Str} {pos : Pos} (hi : i ∈ n.vs) (hx : n.N[i]? = some x) : DE C (.Name x pos) (rd i) := ⟨PE.imp (pv_okH S i hi hx) tv_rd, rfl⟩
theorem de_binNH {op : Operator} {x : Str} {p : Pos} (S : ScH C n) (o : OpD C (binaryOp op) g) (i : Nat) (hi : i ∈ n.vs) (hx : n.N[i]? = some x) (hb : DK C b mb) : DE C (.BinOp (.Name x p) op b pos) (binN g i mb) :=
  let ⟨_, ho, hr⟩ := o; ⟨PE.imp (pe_op ho (pv_okH S i hi hx) hb.pe) (lft_binN hr), rfl⟩
theorem dg_nameH (S : ScH C n) (i : Nat) {x : Str} (hi : i ∈ n.ws) (hx : n.N[i]? = some x) : DG C (.Name x pos) [i] (st i) :=
  ⟨PG.imp (pg_okH S i hi hx) fun v σ H Q ⟨Hf, G, ρ, d, rr, r, h⟩ => h _ H Hf (Same.refl _) (rr.set (S.mpo i hi) r) ⟨by simp, fun j hj => List.getElem?_set_ne (fun e => hj (by simp [e]))⟩⟩
theorem ds_setH {e : Expr} {m : M D} {x : Str} {px : Pos} (S : ScH C n) (i : Nat) (hi : i ∈ n.ws) (hx : n.N[i]? = some x) (h : DE C e m) (hl : noLc e = true) : DS C (.Assign [.Name x px] e pos) (asM m (st i)) :=
  ⟨PS.imp (ps_asg h.pe (dg_nameH (pos := px) S i hi hx).pg (sws_ok h.ok hl _ _ _) (by cases e <;> rfl) rfl) lg_asg⟩
theorem ScH.units (S : ScH C n) : C.X.A.units + 65 < cLine := by have := S.room.un; omega
theorem o_eqH (S : ScH C n) : OpD C (compareOp .Eq) eqD :=
  ⟨_, op_eqL S.units, fun Hf G σ H ρ x y a b d Q rr ra rb e q => by
    unfold eqD cmpOk at e
    split at e
    · rename_i hc
      simp only [Bool.and_eq_true, decide_eq_true_eq] at hc
      cases e
      obtain ⟨a1, a2⟩ := ra.dp rr.fz hc.1.2
      obtain ⟨b1, b2⟩ := rb.dp rr.fz hc.2
      exact ⟨a, b, a2, b2, a1, b1, hc.1.1, q _ H Hf (Same.refl _) rr (rp_bool _)⟩
    · cases e⟩
theorem de_isxH {a : Expr} {ma : M D} {x : Str} {tab : List (Str × Bool)} {p p' : Pos} (S : ScH C n) (j k : Nat) (hj : n.bs[j]? = some ("isinstance" : Str)) (hk : n.gs[k]? = some x) (h : IsF C.T x tab) (ha : DE C a ma) : DE C (.Call (.Name "isinstance" p) [a, .Name x p'] [] pos) (c1 (isxD tab) ma) := by
  obtain ⟨c, hc, hf⟩ := h.ex
  refine ⟨PE.imp (pe_callB call_isX (S.bl hj).1 (S.bl hj).2 (by decide +kernel) (pa_cons ha.pe (pa_cons (pe_glob (v := .ref c) (S.gl hk).1 hc rfl (plB_d (S.gl hk).2).1) pa_nil rfl) (star_ok ha.ok _ _)) (by decide) (by decide) (star_ok ha.ok _ _) rfl) fun σ H Q ⟨Hf, G, ρ, rr, h⟩ => ?_, rfl⟩
  refine post_bind rr h fun v d H1 Hf1 ρ1 s1 r1 rx p1 => ?_
  obtain ⟨d', e, q⟩ := opt_post p1
  unfold isxD at e
  split at e
  · rename_i y _
    obtain ⟨b, hb, rfl⟩ := Option.map_eq_some_iff.mp e
    obtain ⟨a, D, dd, rfl, h1, hdd, h2⟩ := rp_exc rx
    obtain ⟨D', h3, h4, h5⟩ := hf y b (lookup_mem hb)
    rw [h2] at h3
    cases h3
    exact ⟨a, D, dd, .ref c, .ref c, b, rfl, r1.fz _ _ h1, fun d0 e0 => (hdd d0 e0).imp fun _ z => r1.fz _ _ z, fun u ru => ru, h4, h5, q _ H1 Hf1 (Same.refl _) r1 (rp_bool b)⟩
  · cases e
theorem de_isbH {a : Expr} {ma : M D} {tab : List (Str × Bool)} {p p' : Pos} (S : ScH C n) (j k : Nat) (hj : n.bs[j]? = some ("isinstance" : Str)) (hk : n.bs[k]? = some ("ArithmeticError" : Str)) (h : IsB C.T "ArithmeticError" tab) (ha : DE C a ma) : DE C (.Call (.Name "isinstance" p) [a, .Name "ArithmeticError" p'] [] pos) (c1 (isxD tab) ma) := by
  have hf := h.ex
  refine ⟨PE.imp (pe_callB call_isX (S.bl hj).1 (S.bl hj).2 (by decide +kernel) (pa_cons ha.pe (pa_cons (pe_bltn (v := .ty "ArithmeticError") (S.bl hk).1 (S.bl hk).2 (by decide +kernel) rfl (by decide) (by decide)) pa_nil rfl) (star_ok ha.ok _ _)) (by decide) (by decide) (star_ok ha.ok _ _) rfl) fun σ H Q ⟨Hf, G, ρ, rr, h⟩ => ?_, rfl⟩
  refine post_bind rr h fun v d H1 Hf1 ρ1 s1 r1 rx p1 => ?_
  obtain ⟨d', e, q⟩ := opt_post p1
  unfold isxD at e
  split at e
  · rename_i y _
    obtain ⟨b, hb, rfl⟩ := Option.map_eq_some_iff.mp e
    obtain ⟨a, D, dd, rfl, h1, hdd, h2⟩ := rp_exc rx
    obtain ⟨D', h3, h4, h5⟩ := hf y b (lookup_mem hb)
    rw [h2] at h3
    cases h3
    exact ⟨a, D, dd, .ty "ArithmeticError", .type "ArithmeticError", b, rfl, r1.fz _ _ h1, fun d0 e0 => (hdd d0 e0).imp fun _ z => r1.fz _ _ z, fun u ru => ru, h4, h5, q _ H1 Hf1 (Same.refl _) r1 (rp_bool b)⟩
  · cases e
theorem de_countH {ap : Pos} (S : ScH C n) (ho : okB a = true) (ha : DE C a ma) (hb : DE C b mb) (hline : (ap.endLine == pos.line) = true) : DE C (.Call (.Attribute a "count" ap) [b] [] pos) (binL countD ma mb) :=
  ⟨PE.imp (pe_bm PySem.F.plainAttrs_list PySem.F.slot_list_count PySem.F.type_list_count (mt_countD (by have := S.room.un; omega)) ha.pe (pa_cons hb.pe pa_nil (star_ok hb.ok _ _)) (base_ok ho _ _) (few_ok hb.ok) hline (star_ok hb.ok _ _) rfl) (find_ok fun a d z h => by
    unfold countD at h
    split at h
    · split at h
      · rename_i hf
        cases h
        exact ⟨_, rfl, hf, trivial, rfl⟩
      · cases h
    · cases h), rfl⟩
theorem de_indexH {ap : Pos} (S : ScH C n) (ho : okB a = true) (ha : DE C a ma) (hb : DE C b mb) (hline : (ap.endLine == pos.line) = true) : DE C (.Call (.Attribute a "index" ap) [b] [] pos) (binL indexD ma mb) :=
  ⟨PE.imp (pe_bm PySem.F.plainAttrs_list PySem.F.slot_list_index PySem.F.type_list_index (mt_indexD (by have := S.room.un; omega)) ha.pe (pa_cons hb.pe pa_nil (star_ok hb.ok _ _)) (base_ok ho _ _) (few_ok hb.ok) hline (star_ok hb.ok _ _) rfl) (find_ok fun a d z h => by
    unfold indexD at h
    split at h
    · split at h
      · rename_i hf
        cases h
        rw [Bool.and_eq_true] at hf
        exact ⟨_, rfl, hf.1, hf.2, rfl⟩
      · cases h
    · cases h), rfl⟩
end
end DS
set_option maxHeartbeats 4000000
/-! What a def promises wherever it is called: also within an except suite. -/
namespace DS
open PySem L2
section
variable {P : Program} {w : World} {K : PySem.W.Frag} {mg : Str → Option Value} {base : Heap} {tb : List (Addr × Str)}
structure FnW (P : Program) (w : World) (K : PySem.W.Frag) (mg : Str → Option Value) (base : Heap) (k : Nat) (f : Addr) (fd : FuncData) (ps : List Str) (sp : Sp) : Prop where
  len : ∀ vs H Q E, sp vs H Q E → vs.length = ps.length
  run : ∀ (A : Around) (up : List Env) (s : Shared) (H : Hp) (args : Args) (us : List Value) (vs : List V) (Q : VK) (E : XK), L2H.RoomH k A → Env0 P w K mg base A up s H → BindsTo s fd args (ps.zip us) → Vals vs us → sp vs H Q E → codeAny (model P w) A (.call (.ref f) args) (CR CX0 up P w H s Q E) s
/-- the context of such a def's body: nothing is said of what is handled -/
abbrev cxW (P : Program) (w : World) (K : PySem.W.Frag) (mg : Str → Option Value) (base : Heap) (N : List Str) (qual : Str) (sc : Scope) (f : Addr) (cd : Value) (A : Around) (up : List Env) (s : Shared) (H : Hp) (E : XK) : Cx :=
  { cxOf CX0 P w K mg base N qual sc f cd A up s H E with calm := false, xe := fun _ _ => False }
theorem invW {N : List Str} {qual : Str} {sc : Scope} {f : Addr} {cd : Value} {A : Around} {up : List Env} {s s1 : Shared} {H : Hp} {E : XK} {σ : St} (J : Inv (cxOf CX0 P w K mg base N qual sc f cd { A with handled := none } up s H E) [] σ H s1) : Inv (cxW P w K mg base N qual sc f cd A up s H E) [] σ H s1 := by
  have o := J.ok
  have ok : (cxW P w K mg base N qual sc f cd A up s H E).Ok := by
    refine ⟨o.mod, o.kind, o.glob, o.blt, o.above, o.inj, o.has, o.cab, ?_, o.frames, o.stk, o.exf, o.bs, o.bsz, o.noex, o.exfs, o.funs, o.frf⟩
    intro z
    cases z
  exact ⟨ok, J.os, J.bare, J.base, J.loc, J.cell, J.free, J.freeC, J.pin, J.hok, J.len⟩
/-- a def's start, over data -/
theorem start_post {C : DC} {n : Nm} {ps : List Str} {m : M Flow} {vs : List V} {H : Hp} {Q : VK} {E : XK} (hT : C.T = ⟨P, w, K, mg, base, tb⟩) (hmp : C.mp = n.mp) (h0 : C.s0 = L2.start n.N vs) (hp : ps.length ≤ n.N.length)
    (h : fsp ⟨P, w, K, mg, base, tb⟩ (runF ps.length n.N.length n.mp m) vs H Q E) : LS C m { nx := fun _ H' => Q .non H', rt := Q } (L2.start n.N vs) H := by
  obtain ⟨Hf, G, args, s1, s2, dj, tf, hl, hs, hd, h⟩ := h
  unfold runF at h
  by_cases hc : (args.length = ps.length && ownAt n.mp 0 args) = true
  case neg => rw [if_neg hc] at h; exact h.elim
  rw [if_pos hc] at h
  simp only [Bool.and_eq_true, decide_eq_true_eq] at hc
  have eF : C.F = ⟨⟨P, w, K, mg, base, tb⟩, n.mp, L2.start n.N vs⟩ := by show Fx.mk C.T C.mp C.s0 = _; rw [hT, hmp, h0]
  have rr : RR C.F Hf G (L2.start n.N vs) H (args ++ List.replicate (n.N.length - args.length) .un) := by rw [eF]; exact rr_start s1 s2 dj tf hl (by omega) hs hd
  rw [hc.1] at rr
  refine ⟨Hf, G, _, rr, ?_⟩
  have fin : ∀ {ρ' : Rho} {σ' : St} {H' Hf' : Hp}, RR C.F Hf' G σ' H' ρ' → ∀ (i : Nat) p x x', args[i]? = some x → owns x = true → vs[i]? = some (.ref p) → (ρ'.take ps.length)[i]? = some x' → SlOk ⟨P, w, K, mg, base, tb⟩ Hf' G H' (some (some (.ref p))) x' := fun {ρ' σ' H' Hf'} r i p x x' ex ox hv ex' => by
    rw [eF] at r
    have hm : i ∈ n.mp := by simpa using ownAt_get hc.2 ex ox
    have this : σ'[i]? = some (some (.ref p)) := (r.kp i hm).trans (start_get hv)
    rw [← this]
    refine r.sl i x' ?_
    rw [List.getElem?_take] at ex'
    split at ex'
    · exact ex'
    · cases ex'
  have tbs : ∀ {ρ' : Rho} {σ' : St} {H' Hf' : Hp}, RR C.F Hf' G σ' H' ρ' → TabF ⟨P, w, K, mg, base, tb⟩ Hf' G H' := fun {ρ' σ' H' Hf'} r => by rw [eF] at r; exact r.tb
  cases e : m (args ++ List.replicate (n.N.length - ps.length) .un) with
  | ok fl ρ' =>
    rw [e] at h
    cases fl with
    | nx => exact fun σ' H' Hf' s' r => h .non H' Hf' s' r.fz r.fg r.dj (tbs r) rp_none (fin r)
    | rt d => exact fun v σ' H' Hf' s' r rv => h v H' Hf' s' r.fz r.fg r.dj (tbs r) (by rw [hT] at rv; exact rv) (fin r)
    | ro ds =>
      intro p vq σ' H' Hf' s' r hfp hgp hmq hq ra
      rw [hT] at ra
      have hsm : Same Hf' (upd Hf' p (.lst vq)) := Same.updN hfp
      refine h (.ref p) H' (upd Hf' p (.lst vq)) (s'.trans hsm) (fun b u eb => ?_) r.fg (fun b u eb => ?_) ((tbs r).fup hfp ((tbs r).ne hq fun ps z => by cases z)) (rp_list (SqL.of upd_same) (RpA.mono hsm _ _ ra)) fun i q x x' ex ox hv ex' => ?_
      · by_cases hb : b = p
        · subst hb; rw [upd_same] at eb; rw [hq]; exact eb
        · rw [upd_ne hb] at eb; exact r.fz b u eb
      · have hb : b ≠ p := fun z => by subst z; rw [hgp] at eb; cases eb
        rw [upd_ne hb]; exact r.dj b u eb
      · have hm : i ∈ n.mp := by simpa using ownAt_get hc.2 ex ox
        have r0 := r
        rw [eF] at r0
        have hk : σ'[i]? = some (some (.ref q)) := (r0.kp i hm).trans (start_get hv)
        refine (fin r i q x x' ex ox hv ex').fz hsm fun q' _ hq' => ?_
        cases hq'
        have hb : q ≠ p := fun z => by subst z; exact hmq i (by rw [hmp]; exact hm) hk
        rw [upd_ne hb]
        have := fin r i q x x' ex ox hv ex'
        cases x' with
        | un => rename_i ho; cases ho
        | im d => rename_i ho; cases ho
        | ml ds' => obtain ⟨_, _, a, b, _⟩ := this; cases a; exact b
        | md kvs => obtain ⟨_, a, b, _⟩ := this; cases a; exact b
        | mi c fs => obtain ⟨_, _, _, _, a, b, _⟩ := this; cases a; exact b
    | bk => exact h.elim
    | ct => exact h.elim
  | ex x ρ' => rw [e] at h; exact h.elim
  | no => rw [e] at h; exact h.elim
theorem fnW_ok {x qual : Str} {sd : Stmt} {f : Addr} {fd : FuncData} {ps : List Str} {n : Nm} {m : M Flow} (F : Fun K x qual sd f fd) (S : FnScope n.N ps (defScope sd)) (hp : ps.length ≤ n.N.length)
    (ck : scB n (defScope sd) = true) (bno : ∀ x ∈ n.bn, mg x = none) (fs : n.fs ⟨P, w, K, mg, base, tb⟩) (hD : ∀ C, ScH C n → DSs C (defBody sd) m) : FnW P w K mg base (n.lv + 1) f fd ps (fsp ⟨P, w, K, mg, base, tb⟩ (runF ps.length n.N.length n.mp m)) := by
  have len : ∀ vs H Q E, fsp ⟨P, w, K, mg, base, tb⟩ (runF ps.length n.N.length n.mp m) vs H Q E → vs.length = ps.length := fun vs H Q E ⟨Hf, G, args, _, _, _, _, hl, _, _, h⟩ => by
    unfold runF at h
    by_cases hc : (args.length = ps.length && ownAt n.mp 0 args) = true
    · simp only [Bool.and_eq_true, decide_eq_true_eq] at hc
      rw [← hl]; exact hc.1
    · rw [if_neg hc] at h; exact h.elim
  obtain ⟨oc, od, kV, doc, pm, an, cdv, ct, osl, rfl, lk, hcd⟩ := F.ex
  refine ⟨len, fun A up s H args us vs Q E room e0 bind rel want => ?_⟩
  have many := len _ _ _ _ want
  have inH : K.In s.heap := e0.mod.kin.keeps fun b o eb => (e0.bs b o eb).1
  have noL : s.heap.NoLimit := e0.mod.nolimit.keeps fun b o eb => (e0.bs b o eb).1
  have kinds : ∀ z ∈ ps.zip us, (defScope sd).names.lookup z.1 = some .local ∨ ((defScope sd).names.lookup z.1 = some .cell ∧ ((cellsFrom (s.heap.objs.size + 1) (defScope sd).names []).lookup z.1).isSome = true) := by
    rintro ⟨nm, val⟩ hz
    have par := S.par nm (List.of_mem_zip hz).1
    exact par.imp id fun c => ⟨c, PySem.W.cellsFrom_some _ _ _ (.inl c)⟩
  refine codeAny_call_function room.depth (inH _ _ lk) rfl S.co S.gen rfl (PySem.W.codeRec_of inH hcd) (bind _ _ _ _ (wpAny_newFunctionEnv_cells S.kind kinds ?_))
  rintro env rfl s1 call
  refine ⟨noL.keeps call.toInCall.keep, codeAny_func ?_⟩
  have e1 : Env0 P w K mg base { A with handled := none } up s H := ⟨e0.frames, e0.mod, e0.bs, e0.bsz, e0.funs, e0.frf, e0.hok, e0.bare⟩
  have J := invW (A := A) (E := E) (inv_start (A := { A with handled := none }) (CX := CX0) (E := E) S rfl e1 many rel call)
  let C : DC := ⟨cxW P w K mg base n.N qual (defScope sd) f cdv A up s H E, fun _ _ _ _ => False, n.mp, L2.start n.N vs, tb⟩
  have SC : ScH C n := ⟨rfl, S.nd, ck, fun _ _ _ _ _ => rfl, rfl, room.deeper _, bno, fs⟩
  have body := (hD C SC).pss.run [] s1 (L2.start n.N vs) H { nx := fun _ H' => Q .non H', rt := Q } J (start_post (C := C) rfl rfl rfl hp want)
  refine wpAny_mono body (fun fl s2 r => ?_) fun _ _ z => z.elim
  cases fl with
  | next => obtain ⟨σ2, H2, J2, q⟩ := r; exact ⟨.non, H2, J2.os, J2.bare, J2.base, J2.hok, rfl, q⟩
  | ret u => obtain ⟨v, σ2, H2, J2, rv, q⟩ := r; exact ⟨v, H2, J2.os, J2.bare, J2.base, J2.hok, rv, q⟩
  | brk => obtain ⟨_, _, _, q⟩ := r; exact q.elim
  | cont => obtain ⟨_, _, _, q⟩ := r; exact q.elim
/-- such a def, by its name -/
structure HasW (T : Wd) (x : Str) (k : Nat) (F : List Sl → Res D) : Prop where
  ex : ∃ f fd ps, FnW T.P T.w T.K T.mg T.base k f fd ps (fsp T F) ∧ T.mg x = some (.ref f) ∧ PySem.W.keepIn T.K (.ref f) = true ∧ Binds T.K fd ps []
theorem hasW_mk {x qual : Str} {sd : Stmt} {f : Addr} {fd : FuncData} {ps : List Str} {n : Nm} {m : M Flow} (F : Fun K x qual sd f fd) (hm : mg x = some (.ref f)) (hb : Binds K fd ps []) (S : FnScope n.N ps (defScope sd)) (hp : ps.length ≤ n.N.length)
    (ck : scB n (defScope sd) = true) (bno : ∀ x ∈ n.bn, mg x = none) (fs : n.fs ⟨P, w, K, mg, base, tb⟩) (hD : ∀ C, ScH C n → DSs C (defBody sd) m) : HasW ⟨P, w, K, mg, base, tb⟩ x (n.lv + 1) (runF ps.length n.N.length n.mp m) :=
  ⟨f, fd, ps, fnW_ok F S hp ck bno fs hD, hm, F.kp, hb⟩
end
/-- a call of it, wherever -/
def tCallW (sp : Sp) (t : TA) : TE := fun σ H Q => t σ H fun vs H1 => sp vs H1 Q E0
theorem pe_callW {X : Cx} {k : Nat} {f : Addr} {fd : FuncData} {ps : List Str} {sp : Sp} {x : Str} {p pos : Pos} {e : Expr} {es : List Expr} {t : TA} (F : FnW X.prog X.w X.K X.mg X.base k f fd ps sp) (room : L2H.RoomH k X.A) (g : Gl X x) (hm : X.mg x = some (.ref f)) (hk : PySem.W.keepIn X.K (.ref f) = true) (hb : Binds X.K fd ps [])
    (ha : PA X (e :: es) t) (hd : (x == ("__debug__" : Str)) = false) (he : starEach (e :: es) X.env = (false, eval e X.env) :: starEach es X.env) (hpl : (backTo pos (starEach es X.env)).any (·.1) = false) : PE X (.Call (.Name x p) (e :: es) [] pos) (tCallW sp t) := by
  refine ⟨fun pins s σ H Q I want => wpAny_Call_Name_kw (ld_glob I g hm ?_ hd)⟩
  have args := ha.run pos pins s σ H _ I want
  refine PySem.W.callWith_K (h₀ := X.base) I.ok.mod.kin hk (thn args fun us s1 au => ?_) he hpl
  obtain ⟨vs, H1, J, rel, q⟩ := au
  have bind := hb s1 us J.kIn (by rw [List.append_nil, ← rel.length]; exact F.len _ _ _ _ q)
  rw [List.append_nil] at bind
  refine ⟨J.kIn, wpAny_call (codeAny_mono (F.run X.A X.stack s1 H1 ⟨us, []⟩ us vs Q E0 room J.env0 bind rel q) fun r s2 hq => ?_)⟩
  cases r with
  | error er => exact False.elim hq
  | ok fl =>
    cases fl with
    | ret u => exact J.after hq
    | next => exact False.elim hq
    | brk => exact False.elim hq
    | cont => exact False.elim hq
end DS
set_option maxHeartbeats 4000000
/-! try with several except clauses; the caught exception is an object like others within the suite. -/
namespace DS
open PySem PySem.Spec PyProof.Rows L2
abbrev TsT := Addr → Addr → Option Addr → TS
def wTrk (K : PySem.W.Frag) (i : Nat) (E : Ends) : List (Value × TsT) → WX
  | [] => fun _ _ _ _ => False
  | (c, ts) :: r => fun cls d σ H => ∃ b, PySem.W.exmOne K cls c = some b ∧
      (b = true → ∃ C, cls = .ref C ∧ ∀ a, H a = none → ts a C d { nx := fun σ' H' => E.nx (σ'.set i none) H', rt := fun _ _ => False, bk := fun _ _ => False, ct := fun _ _ => False } (σ.set i (some (.ref a))) (upd H a (XO a C d))) ∧
      (b = false → wTrk K i E r cls d σ H)
inductive HdsT (X : Cx) (n : Str) : List ExceptHandler → List (Value × TsT) → Prop
  | nil : HdsT X n [] []
  | cons {x : Str} {c : Value} {ts : TsT} {b : Stmt} {su : List Stmt} {np pos' : Pos} {hds : List ExceptHandler} {l : List (Value × TsT)} (hc : Names X x c) (hsu : ∀ (a C : Addr) (d : Option Addr) (pn : List (Addr × Obj)), PSs (X.suite a pn) (b :: su) (ts a C d)) (r : HdsT X n hds l) :
      HdsT X n (.ExceptHandler (some (.Name x np)) (some n) (b :: su) pos' :: hds) ((c, ts) :: l)
section
variable {X : Cx} {n : Str} {i : Nat} {body : List Stmt} {pos : Pos} {tb : WX → TS} {h0 : ExceptHandler} {hds : List ExceptHandler} {l : List (Value × TsT)}
theorem inv_suiteT {pins : List (Addr × Obj)} {σ : L2.St} {H : Hp} {s : Shared} (J : Inv X pins σ H s) (a : Addr) : Inv (X.suite a (X.pn ++ pins)) [] σ H s :=
  ⟨J.ok.suite a _, J.os, J.bare, J.base, J.loc, J.cell, J.free, J.freeC, fun p hm => J.pin p (by rwa [List.append_nil] at hm), J.hok, J.len⟩
theorem inv_outT {pins pn : List (Addr × Obj)} {σ : L2.St} {H : Hp} {s : Shared} {a : Addr} (J : Inv (X.suite a (X.pn ++ pins)) pn σ H s) (ok : X.Ok) : Inv X pins σ H s :=
  ⟨ok, J.os, J.bare, J.base, J.loc, J.cell, J.free, J.freeC, fun p hm => J.pin p (List.mem_append_left _ hm), J.hok, J.len⟩
theorem ps_try_trk (hs : X.stack = X.env :: X.outer) (hf : X.env.frame = some X.env.locals) (hN : X.N.Nodup) (hi : X.N[i]? = some n) (hl : X.env.kindOf n = some .local) (hex : X.ex = [])
    (hb : ∀ (W : WX) (pn : List (Addr × Obj)) (xe : Value → Shared → Prop), Takes (X.tr pn xe) W → PassesOwn (model X.prog X.w) X.A X.env xe → PSs (X.tr pn xe) body (tb W)) (hh : HdsT X n (h0 :: hds) l) :
    PS X (.Try body (h0 :: hds) [] [] pos) (fun D σ H => tb (wTrk X.K i D l) D σ H) := by
  refine ⟨fun pins s σ H E I h => wpAny_Try_except ?_⟩
  have ok := I.ok
  have fr : X.A.frames = some (X.env :: X.outer) := by rw [ok.frames, hs]
  refine wpAny_mono ((hb (wTrk X.K i E l) (X.pn ++ pins) _ ?take PassesOwn.looking).run [] s σ H E (I.toTry _) h) ?through fun _ _ z => z
  case through =>
    intro f s1 r
    cases f with
    | next => obtain ⟨σ1, H1, J, q⟩ := r; exact wpAny_execs_nil ⟨σ1, H1, J.ofTry ok, q⟩
    | brk => obtain ⟨σ1, H1, J, q⟩ := r; exact ⟨σ1, H1, J.ofTry ok, q⟩
    | cont => obtain ⟨σ1, H1, J, q⟩ := r; exact ⟨σ1, H1, J.ofTry ok, q⟩
    | ret u => obtain ⟨v, σ1, H1, J, r, q⟩ := r; exact ⟨v, σ1, H1, J.ofTry ok, r, q⟩
  case take =>
    rintro u s1 ⟨a, B, s0, ps, σ1, H1, cls, d, rfl, J0, ground, up0, sky, hna, os, bare, hw⟩
    have J : Inv X pins σ1 H1 s0 := J0.ofTry ok
    have sky : Sky B (X.env :: X.outer) a (Zc cls d) X.env.locals s1.heap := by
      have := sky
      rw [show (X.tr (X.pn ++ pins) _).stack = X.stack from rfl, hs] at this
      exact this
    refine Sky.land Zc.steady fr hf sky fun h2 fly2 up2 => ?_
    have land : ∀ {h' : Heap}, HandSPX.FlyingZ B (X.env :: X.outer) a (Zc cls d) h' → s0.heap.UpToSlots h' → Inv X pins σ1 H1 { s1 with heap := h' } := fun fl up => J.landed ground fl.1 up os bare
    obtain ⟨o2, v2, get2, z2, d2⟩ := fly2.there
    have notFrame : a ∉ frs (X.env :: X.outer) := fun hm => by
      obtain ⟨_, o', e', nf⟩ := fly2.2.2.1.mem hm
      rw [get2] at e'
      cases e'
      exact nf _ d2
    have isNew : s0.heap.get? a = none := by
      cases e : s0.heap.get? a with
      | none => rfl
      | some o' =>
        have := ground a o' e (by rw [show (X.tr (X.pn ++ pins) _).stack = X.stack from rfl, hs]; exact notFrame)
        rw [fly2.2.1] at this
        cases this
    have nL : a ≠ X.env.locals := fun z => notFrame (List.mem_filterMap.mpr ⟨X.env, List.mem_cons_self, by rw [hf, z]⟩)
    have nF : a ∉ X.fs := fun hm => by
      obtain ⟨e, he, q⟩ := List.mem_filterMap.mp hm
      exact notFrame (List.mem_filterMap.mpr ⟨e, List.mem_cons_of_mem _ he, q⟩)
    have J2 := land fly2 (up0.trans up2)
    have S2 := J2.suite get2 d2 hna nL nF
    have none0 : X.s_0.heap.get? a = none := by
      cases e : X.s_0.heap.get? a with
      | none => rfl
      | some o' =>
        exfalso
        obtain ⟨o'', q⟩ := J.base.there a o' e (by rw [hex]; simp)
        rw [isNew] at q
        cases q
    have noCell : ∀ x c, X.env.cells.lookup x = some c → c ≠ a := fun z cc e w => by
      obtain ⟨v, q⟩ := J.cell z cc e
      unfold Heap.IsCell at q
      rw [w] at q
      obtain ⟨o', q, _⟩ := q
      rw [isNew] at q
      cases q
    have noPin : ∀ p ∈ X.pn ++ pins, p.1 ≠ a := fun p hm w => by
      have := (J.pin p hm).1
      rw [w, isNew] at this
      cases this
    have go : ∀ {hs' : List ExceptHandler} {l' : List (Value × TsT)}, HdsT X n hs' l' → wTrk X.K i E l' cls d σ1 H1 → wpAny (model X.prog X.w) X.A (handleBy (.ref a) X.env hs') (SP X pins E) X.xe { s1 with heap := h2 } := by
      intro hs' l' hk
      induction hk with
      | nil => exact fun z => z.elim
      | @cons x c ts b su np pos' hds2 l2 hc hsu r ih =>
        rintro ⟨yes, hm, ht, hf'⟩
        refine wpAny_handleBy_cons (codeAny_handlers_test ?_) (by intro z; cases z)
        have name : ∀ {Q : Value → Shared → Prop} {R : Value → Shared → Prop}, Q c { s1 with heap := h2 } → wpAny (model X.prog X.w) (X.A.mark (some (.ref a))) (eval (.Name x np) X.env) Q R { s1 with heap := h2 } := by
          intro Q R q
          obtain ⟨g, dbg, m | ⟨m, v, nn⟩⟩ := hc
          · exact ld_glob S2 g m q dbg
          · exact ld_blt S2 g m v q nn dbg
        have hit := PySem.W.exm_one (M := model X.prog X.w) J2.kIn (fun A Q R s' k q => wpAny_typeOf_ref (k _ _ get2) (by rw [z2.1]; exact q)) hm
        refine name (hit.here ?_)
        cases yes with
        | false => exact ih (hf' rfl)
        | true =>
          obtain ⟨C, rfl, want⟩ := ht rfl
          refine codeAny_handlers_suite_as (HandSPX.lands_againZ fly2 fun h3 fly3 up3 => ?_)
          obtain ⟨o3, v3, get3, z3, d3⟩ := fly3.there
          have J3 := land fly3 ((up0.trans up2).trans up3)
          have T3 := inv_track (XO a C d) J3 hna none0 nL noCell noPin ⟨⟨o3, v3, get3, z3.1, z3.2, d3⟩, ⟨o3, get3⟩, fun h1 h2 ⟨oe, vs, e1, e2⟩ k => ⟨oe, vs, k _ e1, e2⟩⟩
          refine store_ok (X := X.suite a (X.pn ++ pins)) (v := .ref a) (inv_suiteT T3 a) hN hi (.inl hl) rfl (fun s4 S4 => ?_) (.inr hl)
          have run := (hsu a C d (X.pn ++ pins)).run [] s4 _ _ _ S4 (want a hna)
          refine wpAny_mono run (fun f s5 r => ?_) (fun _ _ z => False.elim z)
          cases f with
          | next => obtain ⟨σ5, H5, S5, q⟩ := r; exact gone_ok (inv_outT S5 ok) hN hi hl fun s6 J6 => ⟨_, _, J6, q⟩
          | brk => obtain ⟨σ5, H5, S5, q⟩ := r; exact q.elim
          | cont => obtain ⟨σ5, H5, S5, q⟩ := r; exact q.elim
          | ret u => obtain ⟨v, σ5, H5, S5, rv, q⟩ := r; exact q.elim
    exact go hh hw
/-- e.f of such an exception -/
def tXfT (f : Str) (te : TE) : TE := fun σ H Q => te σ H fun x H1 => ∃ (a C dd : Addr) (fs : List (Str × V)) (v : V), x = .ref a ∧ H1 a = some (XO a C (some dd)) ∧ XfC X.K C ∧ PySem.W.findIn X.K (.ref C) f = some none ∧ H1 dd = some (.xd fs) ∧ fs.lookup f = some v ∧ Q v H1
theorem pe_xfT {e : Expr} {te : TE} {f : Str} (he : PE X e te) (hbs : attributeBase e f X.env (eval e X.env) = eval e X.env) : PE X (.Attribute e f pos) (tXfT (X := X) f te) := by
  refine ⟨fun pins s σ H Q I h => attr_of hbs (thn (he.run pins s σ H _ I h) fun u s1 hx => ?_)⟩
  obtain ⟨x, H1, J, rx, a, C, dd, fs, v, rfl, ea, T, hno, ed, lk, q⟩ := hx
  cases rx
  have oa : ObjOk X.prog X.w H1 s1.heap a (.ext fun h => ∃ oe vs, h.get? a = some oe ∧ oe.cls = .ref C ∧ oe.dict = some dd ∧ oe.data = .fields vs) := J.hok a _ ea
  obtain ⟨⟨oe, vs, hg, hcls, hdict, hdat⟩, _⟩ := oa
  obtain ⟨mA, hns, hr⟩ := (show ObjOk X.prog X.w H1 s1.heap dd (.xd fs) from J.hok dd _ ed)
  obtain ⟨od, ho, hlook⟩ := lookIn_ns hns
  have rel := hr f
  rw [lk] at rel
  obtain ⟨u2, hu, ru⟩ := RelO.some_of (v := v) (o := mA f) rel
  have inst : PySem.W.InstAt s1.heap a oe C (some od) := by
    refine ⟨hg, hcls, ?_, by rw [hdict]; exact ho⟩
    unfold PySem.W.notCls
    rw [hdat]
  refine HandSPX.exc_get J.kIn inst T.ga T.gg T.exC (PySem.W.findObj_own T.hdC hno rfl ?_) (handed_of ru) ⟨v, H1, J.tok _, ru, q⟩
  rw [hlook, hu]
end
end DS
set_option maxHeartbeats 4000000
/-! try: .. except A as e: y = ("a", e.f) except B as e: y = ("b", e.g) except C as e: y = ("c", F(e)). -/
namespace DS
open PySem L2
/-- the word of a clause: a field of the exception -/
def hkF (tab : List (Str × Bool)) (i j : Nat) (s f : Str) (e : Exn) (r : Rho) (k : Res Flow) : Res Flow := match tab.lookup e.cls with
  | some true => (match lkF f e.fs with
    | some d => if i < r.length then .ok .nx ((r.set j (.im (.tuple [.str s, d]))).set i .un) else .no
    | none => .no)
  | some false => k
  | none => .no
/-- .. what a def tells of it -/
def hkW (tab : List Str) (i j : Nat) (s : Str) (F : List Sl → Res D) (e : Exn) (r : Rho) : Res Flow := if tab.contains e.cls then
    (match F [.im (.dict [(.str e.cls, .bool e.fs.isEmpty)])] with
    | .ok d a => if i < r.length ∧ a.length = 1 then .ok .nx ((r.set j (.im (.tuple [.str s, d]))).set i .un) else .no
    | _ => .no)
  else .no
def try3 (i j : Nat) (t1 t2 : List (Str × Bool)) (t3 : List Str) (s1 f1 s2 f2 s3 : Str) (F : List Sl → Res D) (m : M Flow) : M Flow := fun ρ => match m ρ with
  | .ex e r => hkF t1 i j s1 f1 e r (hkF t2 i j s2 f2 e r (hkW t3 i j s3 F e r))
  | r => r
@[simp ↓] theorem try3_eq (i j : Nat) (t1 t2 : List (Str × Bool)) (t3 : List Str) (s1 f1 s2 f2 s3 : Str) (F : List Sl → Res D) (m : M Flow) (ρ : Rho) : try3 i j t1 t2 t3 s1 f1 s2 f2 s3 F m ρ = match m ρ with
  | .ex e r => hkF t1 i j s1 f1 e r (hkF t2 i j s2 f2 e r (hkW t3 i j s3 F e r))
  | r => r := id rfl
section
variable {C : DC} {n : Nm} {pos : Pos}
theorem rr_two {Hf G H : Hp} {σ : St} {ρ : Rho} {i j : Nat} {a p : Addr} {o : HO} {us : List V} {d : D} (S : Sc C n) (hi : i ∈ n.ws) (hj : j ∈ n.ws) (hij : i ≠ j) (r : RR C.F Hf G σ H ρ) (ha : H a = none) (hp : upd H a o p = none) {d' : Str} (rd : RpA C.T (upd (upd Hf a o) p (.tup us)) [.str d', d] us) :
    RR C.F (upd (upd Hf a o) p (.tup us)) G (((σ.set i (some (.ref a))).set j (some (.ref p))).set i none) (upd (upd H a o) p (.tup us)) ((ρ.set j (.im (.tuple [.str d', d]))).set i .un) ∧ Same Hf (upd (upd Hf a o) p (.tup us)) := by
  have r1 : RR C.F (upd Hf a o) G σ (upd H a o) ρ := r.new ha
  have r2 : RR C.F (upd (upd Hf a o) p (.tup us)) G σ (upd (upd H a o) p (.tup us)) ρ := r1.new hp
  have r3 := (r2.set (S.mpo j hj) (rp_tuple (SqT.of upd_same) rd)).drop (S.mpo i hi) none
  refine ⟨?_, (r.sameN ha).trans (r1.sameN hp)⟩
  rw [List.set_comm _ _ hij, List.set_set]
  exact r3
theorem suite_fld {nm y s f : Str} {i j kk u : Nat} {py pc pn' pf pt pa : Pos} (S : Sc C n) (li : i ∈ n.ls) (hx : n.N[i]? = some nm) (lj : j ∈ n.ls) (hy : n.N[j]? = some y) (hd : plB nm = true) (a : Addr) (pn : List (Addr × Obj)) :
    PSs (C.X.suite a pn) [.Assign [.Name y py] (.Tuple [.Constant (.str s) u pc, .Attribute (.Name nm pn') f pf] kk pt) pa] (tAsg (tTup (tCons (tC (.str s)) (tCons (tXfT (X := C.X) f (tVar i)) tNil))) (gName j)) := by
  have eN : C.X.N[i]? = some nm := by rw [S.hN]; exact hx
  have eY : C.X.N[j]? = some y := by rw [S.hN]; exact hy
  have nd : C.X.N.Nodup := by rw [S.hN]; exact S.nd
  have v1 : PE (C.X.suite a pn) (.Name nm pn') (tVar i) := pe_var (X := C.X.suite a pn) eN (.inl (S.lcl li hx)) (plB_d hd).1 (plB_d hd).2.1
  have v2 : PE (C.X.suite a pn) (.Attribute (.Name nm pn') f pf) (tXfT (X := C.X) f (tVar i)) := pe_xfT (X := C.X.suite a pn) v1 rfl
  exact pss_one (ps_asg (pe_tup (pa_cons pe_str (pa_cons v2 pa_nil rfl) rfl)) (pg_name (X := C.X.suite a pn) nd eY (.inl (S.lcl lj hy)) (.inr (S.lcl lj hy))) rfl rfl rfl)
theorem suite_wrd {nm y s x : Str} {i j kk u k q : Nat} {F : List Sl → Res D} {py pc pn' pq pcl pt pa : Pos} (S : Sc C n) (li : i ∈ n.ls) (hx : n.N[i]? = some nm) (lj : j ∈ n.ls) (hy : n.N[j]? = some y) (hd : plB nm = true) (hq : n.gs[q]? = some x) (hF : HasW C.T x k F) (hk : k ≤ n.lv) (a : Addr) (pn : List (Addr × Obj)) :
    PSs (C.X.suite a pn) [.Assign [.Name y py] (.Tuple [.Constant (.str s) u pc, .Call (.Name x pq) [.Name nm pn'] [] pcl] kk pt) pa] (tAsg (tTup (tCons (tC (.str s)) (tCons (tCallW (fsp C.T F) (tCons (tVar i) tNil)) tNil))) (gName j)) := by
  have eN : C.X.N[i]? = some nm := by rw [S.hN]; exact hx
  have eY : C.X.N[j]? = some y := by rw [S.hN]; exact hy
  have nd : C.X.N.Nodup := by rw [S.hN]; exact S.nd
  obtain ⟨f, fd, ps, hf, hm, hkp, hb⟩ := hF.ex
  have v1 : PE (C.X.suite a pn) (.Name nm pn') (tVar i) := pe_var (X := C.X.suite a pn) eN (.inl (S.lcl li hx)) (plB_d hd).1 (plB_d hd).2.1
  have room : L2H.RoomH k (C.X.suite a pn).A := ⟨by have := (S.room.mono hk).dp; exact this, by have := (S.room.mono hk).un; exact this⟩
  have v2 : PE (C.X.suite a pn) (.Call (.Name x pq) [.Name nm pn'] [] pcl) (tCallW (fsp C.T F) (tCons (tVar i) tNil)) := pe_callW (X := C.X.suite a pn) hf room (S.gl hq).1 hm hkp hb (pa_cons v1 pa_nil rfl) (plB_d (S.gl hq).2).1 rfl rfl
  exact pss_one (ps_asg (pe_tup (pa_cons pe_str (pa_cons v2 pa_nil rfl) rfl)) (pg_name (X := C.X.suite a pn) nd eY (.inl (S.lcl lj hy)) (.inr (S.lcl lj hy))) rfl rfl rfl)
end
end DS
set_option maxHeartbeats 4000000
/-! The try with three clauses, over data. -/
namespace DS
open PySem L2
section
variable {C : DC} {n : Nm} {pos : Pos}
theorem hkF_ok {i j : Nat} {tab : List (Str × Bool)} {s f : Str} {c : Addr} {z : Exn} {r : Rho} {K' : Res Flow} {E : Ends} {Hf Hf1 G H1 : Hp} {σ1 : St} {cls : Value} {dd : Option Addr} (S : Sc C n) (hi : i ∈ n.ws) (hj : j ∈ n.ws) (hij : i ≠ j) (hs : PyData.strOk s = true) (sm : Same Hf Hf1) (r1 : RR C.F Hf1 G σ1 H1 r) (xr : XR C.T Hf1 z cls dd)
    (hxf : XfC C.X.K c) (hno : PySem.W.findIn C.X.K (.ref c) f = some none) (hcs : ∀ y b, (y, b) ∈ tab → ∃ D, C.X.mg y = some (.ref D) ∧ PySem.W.exmOne C.X.K (.ref D) (.ref c) = some b ∧ (b = true → D = c))
    (h : PostS C E Hf G (hkF tab i j s f z r K')) {rest : WX} (hr : PostS C E Hf G K' → rest cls dd σ1 H1) :
    ∃ b, PySem.W.exmOne C.X.K cls (.ref c) = some b ∧ (b = true → ∃ C0, cls = .ref C0 ∧ ∀ a, H1 a = none → (tAsg (tTup (tCons (tC (.str s)) (tCons (tXfT (X := C.X) f (tVar i)) tNil))) (gName j)) { nx := fun σ' H' => E.nx (σ'.set i none) H', rt := fun _ _ => False, bk := fun _ _ => False, ct := fun _ _ => False } (σ1.set i (some (.ref a))) (upd H1 a (XO a C0 dd))) ∧ (b = false → rest cls dd σ1 H1) := by
  unfold hkF at h
  cases et : tab.lookup z.cls with
  | none => rw [et] at h; exact h.elim
  | some b =>
    rw [et] at h
    obtain ⟨C0, hC0, hm0, hcc⟩ := hcs z.cls b (lookup_mem et)
    have ec : cls = .ref C0 := by
      have := xr.1
      rw [show C.T.mg z.cls = some (.ref C0) from hC0] at this
      exact (Option.some.inj this).symm
    subst ec
    refine ⟨b, hm0, fun eb => ?_, fun eb => ?_⟩
    · subst eb
      obtain rfl := hcc rfl
      refine ⟨C0, rfl, fun a ha => ?_⟩
      dsimp only at h
      cases el : lkF f z.fs with
      | none => rw [el] at h; exact h.elim
      | some d =>
        rw [el] at h
        dsimp only at h
        by_cases hlt : i < r.length
        case neg => rw [if_neg hlt] at h; exact h.elim
        rw [if_pos hlt] at h
        rcases xr.2 with ⟨h1, h2⟩ | ⟨_, d1, vs, h2, h3, h4⟩
        · rw [h1] at el; cases el
        · obtain ⟨v, hv, rv⟩ := h4.look.1 d el
          subst h2
          have hlen : i < σ1.length := by rw [← r1.len]; exact hlt
          have h3' : upd H1 a (XO a C0 (some d1)) d1 = some (.xd vs) := by
            have hd1 := r1.fz _ _ h3
            rw [upd_ne (fun z => by rw [z, ha] at hd1; cases hd1)]
            exact hd1
          refine ⟨.ref a, List.getElem?_set_self hlen, a, C0, d1, vs, v, rfl, upd_same, hxf, hno, h3', hv, ?_, fun p hp => ?_⟩
          · show 2 ≤ sizeLine
            rw [sizeLine_eq]; omega
          · have sm2 : Same Hf1 (upd (upd Hf1 a (XO a C0 (some d1))) p (.tup [.str s, v])) := (r1.sameN ha).trans ((r1.new (o := XO a C0 (some d1)) ha).sameN hp)
            obtain ⟨q1, q2⟩ := rr_two (C := C) (o := XO a C0 (some d1)) (us := [.str s, v]) S hi hj hij r1 ha hp (RpA.cons (rp_str hs) (RpA.cons (Rp.mono sm2 _ _ rv) RpA.nil))
            exact h _ _ _ (sm.trans q2) q1
    · subst eb
      exact hr h
theorem rp_kept {z : Exn} {Hf G H : Hp} {σ : St} {ρ : Rho} {C0 a : Addr} {dd : Option Addr} (r : RR C.F Hf G σ H ρ) (ha : H a = none) (hm : C.T.mg z.cls = some (.ref C0)) (xr : XR C.T Hf z (.ref C0) dd) : Rp C.T (upd Hf a (XO a C0 dd)) (.dict [(.str z.cls, .bool z.fs.isEmpty)]) (.ref a) := by
  have sm : Same Hf (upd Hf a (XO a C0 dd)) := r.sameN ha
  unfold Rp
  refine ⟨a, rfl, .inr (.inl ⟨z.cls, C0, dd, ?_, upd_same, hm, fun d0 hd0 => ?_⟩)⟩
  · rcases xr.2 with ⟨h1, h2⟩ | ⟨h1, d0, vs, h2, _⟩
    · rw [h1, h2]; rfl
    · rw [h2]
      have : z.fs.isEmpty = false := by
        cases hfs : z.fs with
        | nil => exact absurd hfs h1
        | cons p q => rfl
      rw [this]; rfl
  · rcases xr.2 with ⟨h1, h2⟩ | ⟨_, d1, vs, h2, h3, _⟩
    · rw [h2] at hd0; cases hd0
    · rw [h2] at hd0; cases hd0
      exact ⟨vs, sm _ _ h3⟩
theorem hkW_ok {i j : Nat} {tab : List Str} {s : Str} {c : Value} {F : List Sl → Res D} {z : Exn} {r : Rho} {E : Ends} {Hf Hf1 G H1 : Hp} {σ1 : St} {cls : Value} {dd : Option Addr} (S : Sc C n) (hi : i ∈ n.ws) (hj : j ∈ n.ws) (hij : i ≠ j) (hs : PyData.strOk s = true) (hne : ∀ args e r, F args ≠ .ex e r) (sm : Same Hf Hf1) (r1 : RR C.F Hf1 G σ1 H1 r) (xr : XR C.T Hf1 z cls dd)
    (hcs : ∀ y ∈ tab, ∃ D, C.X.mg y = some (.ref D) ∧ PySem.W.exmOne C.X.K (.ref D) c = some true)
    (h : PostS C E Hf G (hkW tab i j s F z r)) {rest : WX} :
    ∃ b, PySem.W.exmOne C.X.K cls c = some b ∧ (b = true → ∃ C0, cls = .ref C0 ∧ ∀ a, H1 a = none → (tAsg (tTup (tCons (tC (.str s)) (tCons (tCallW (fsp C.T F) (tCons (tVar i) tNil)) tNil))) (gName j)) { nx := fun σ' H' => E.nx (σ'.set i none) H', rt := fun _ _ => False, bk := fun _ _ => False, ct := fun _ _ => False } (σ1.set i (some (.ref a))) (upd H1 a (XO a C0 dd))) ∧ (b = false → rest cls dd σ1 H1) := by
  unfold hkW at h
  by_cases hm : tab.contains z.cls = true
  case neg => rw [if_neg hm] at h; exact h.elim
  rw [if_pos hm] at h
  obtain ⟨C0, hC0, hm0⟩ := hcs z.cls (List.contains_iff_mem.mp hm)
  have ec : cls = .ref C0 := by
    have := xr.1
    rw [show C.T.mg z.cls = some (.ref C0) from hC0] at this
    exact (Option.some.inj this).symm
  subst ec
  refine ⟨true, hm0, fun _ => ⟨C0, rfl, fun a ha => ?_⟩, fun e => by cases e⟩
  cases eF : F [.im (.dict [(.str z.cls, .bool z.fs.isEmpty)])] with
  | ex e a' => exact absurd eF (hne _ _ _)
  | no => rw [eF] at h; exact h.elim
  | ok d a' =>
    rw [eF] at h
    dsimp only at h
    by_cases hlt : i < r.length ∧ a'.length = 1
    case neg => rw [if_neg hlt] at h; exact h.elim
    rw [if_pos hlt] at h
    have hlen : i < σ1.length := by rw [← r1.len]; exact hlt.1
    have kp := rp_kept r1 ha hC0 xr
    have r2 : RR C.F (upd Hf1 a (XO a C0 dd)) G (σ1.set i (some (.ref a))) (upd H1 a (XO a C0 dd)) (r.set i (.im (.dict [(.str z.cls, .bool z.fs.isEmpty)]))) := (r1.new ha).set (S.mpo i hi) kp
    refine ⟨.ref a, List.getElem?_set_self hlen, ?_⟩
    have post : Post C (relE C.T) (upd Hf1 a (XO a C0 dd)) G (σ1.set i (some (.ref a))) (fun x H => 2 ≤ sizeLine ∧ ∀ p, H p = none → (gName j) (.ref p) (σ1.set i (some (.ref a))) (upd H p (.tup [.str s, x])) fun σ' H' => E.nx (σ'.set i none) H') (callM F [.im (.dict [(.str z.cls, .bool z.fs.isEmpty)])] (r.set i (.im (.dict [(.str z.cls, .bool z.fs.isEmpty)])))) := by
      have ev : callM F [.im (.dict [(.str z.cls, .bool z.fs.isEmpty)])] (r.set i (.im (.dict [(.str z.cls, .bool z.fs.isEmpty)]))) = .ok d (r.set i (.im (.dict [(.str z.cls, .bool z.fs.isEmpty)]))) := by
        have l1 : a'.length = 1 := hlt.2
        obtain ⟨w, rfl⟩ : ∃ w, a' = [w] := by
          match a', l1 with
          | [w], _ => exact ⟨w, rfl⟩
        simp [eF]
      rw [ev]
      intro v H3 Hf3 s3 r3 rv
      refine ⟨by rw [sizeLine_eq]; omega, fun p hp => ?_⟩
      have sm3 : Same Hf3 (upd Hf3 p (.tup [.str s, v])) := r3.sameN hp
      have r4 : RR C.F (upd Hf3 p (.tup [.str s, v])) G (σ1.set i (some (.ref a))) (upd H3 p (.tup [.str s, v])) (r.set i (.im (.dict [(.str z.cls, .bool z.fs.isEmpty)]))) := r3.new hp
      have r5 := (r4.set (i := j) (d := .tuple [.str s, d]) (S.mpo j hj) (rp_tuple (SqT.of upd_same) (RpA.cons (rp_str hs) (RpA.cons (Rp.mono sm3 _ _ rv) RpA.nil)))).drop (S.mpo i hi) none
      have er : ((r.set i (.im (.dict [(.str z.cls, .bool z.fs.isEmpty)]))).set j (.im (.tuple [.str s, d]))).set i .un = (r.set j (.im (.tuple [.str s, d]))).set i .un := by
        rw [List.set_comm _ _ hij, List.set_set]
      rw [er] at r5
      exact h _ _ _ (sm.trans ((r1.sameN ha).trans (s3.trans sm3))) r5
    have fin := fsp_noE hne (call_core r2 (vs := [.ref a]) (as := [.im (.dict [(.str z.cls, .bool z.fs.isEmpty)])]) ⟨_, _, rfl, kp, rfl⟩ post)
    exact fin
theorem ds_try3 {x1 x2 x3 nm y s1 f1 s2 f2 s3 xF : Str} {sc : Scope} {t1 t2 : List (Str × Bool)} {t3 : List Str} {F : List Sl → Res D} {m : M Flow} {body : List Stmt} {kF : Nat} {u1 u2 u3 k1 k2 k3 : Nat} {a1 a2 a3 a4 a5 a6 a7 a8 b1 b2 b3 b4 b5 b6 b7 b8 c1 c2 c3 c4 c5 c6 c7 c8 c9 : Pos} (S : Sc C n) (L : LkSc C sc) (i j q1 q2 q3 qF : Nat) (ht : n.top = true) (hi : i ∈ n.ws) (li : i ∈ n.ls) (hx : n.N[i]? = some nm) (hj : j ∈ n.ws) (lj : j ∈ n.ls) (hy : n.N[j]? = some y)
    (hij : i ≠ j) (hd : plB nm = true) (g1 : n.gs[q1]? = some x1) (g2 : n.gs[q2]? = some x2) (g3 : n.gs[q3]? = some x3) (gF : n.gs[qF]? = some xF) (h1 : ExG C.T x1 f1 t1) (h2 : ExG C.T x2 f2 t2) (h3 : ExF C.T x3 t3) (hF : HasW C.T xF kF F) (hk : kF ≤ n.lv) (hne : ∀ args e r, F args ≠ .ex e r) (o1 : PyData.strOk s1 = true) (o2 : PyData.strOk s2 = true) (o3 : PyData.strOk s3 = true)
    (hb : ∀ C', Sc C' n → LkSc C' sc → DSs C' body m) :
    DS C (.Try body [.ExceptHandler (some (.Name x1 a1)) (some nm) [.Assign [.Name y a2] (.Tuple [.Constant (.str s1) u1 a3, .Attribute (.Name nm a4) f1 a5] k1 a6) a7] a8, .ExceptHandler (some (.Name x2 b1)) (some nm) [.Assign [.Name y b2] (.Tuple [.Constant (.str s2) u2 b3, .Attribute (.Name nm b4) f2 b5] k2 b6) b7] b8,
      .ExceptHandler (some (.Name x3 c1)) (some nm) [.Assign [.Name y c2] (.Tuple [.Constant (.str s3) u3 c3, .Call (.Name xF c4) [.Name nm c5] [] c6] k3 c7) c8] c9] [] [] pos) (try3 i j t1 t2 t3 s1 f1 s2 f2 s3 F m) := by
  obtain ⟨hs, hf, hex⟩ := S.tp ht
  obtain ⟨e1, m1, xf1, no1, cs1⟩ := h1.ex
  obtain ⟨e2, m2, xf2, no2, cs2⟩ := h2.ex
  obtain ⟨e3, m3, cs3⟩ := h3.ex
  have eN : C.X.N[i]? = some nm := by rw [S.hN]; exact hx
  have nd : C.X.N.Nodup := by rw [S.hN]; exact S.nd
  refine ⟨PS.imp (ps_try_trk (i := i) (tb := fun W => LS ⟨C.X, W, C.mp, C.s0, C.tb⟩ m) hs hf nd eN (S.lcl li hx) hex (fun W pn xe tk po => (hb (C.tr W pn xe) (S.tr tk po) (L.tr W pn xe)).pss)
    (HdsT.cons (c := .ref e1) ⟨(S.gl g1).1, (plB_d (S.gl g1).2).1, .inl m1⟩ (fun a C0 d pn => suite_fld (s := s1) (f := f1) S li hx lj hy hd a pn)
      (HdsT.cons (c := .ref e2) ⟨(S.gl g2).1, (plB_d (S.gl g2).2).1, .inl m2⟩ (fun a C0 d pn => suite_fld (s := s2) (f := f2) S li hx lj hy hd a pn)
        (HdsT.cons (c := e3) ⟨(S.gl g3).1, (plB_d (S.gl g3).2).1, .inl m3⟩ (fun a C0 d pn => suite_wrd (s := s3) S li hx lj hy hd gF hF hk a pn) .nil)))) fun E σ H ⟨Hf, G, ρ, rr, h⟩ => ⟨Hf, G, ρ, rr, ?_⟩⟩
  unfold try3 at h
  cases e : m ρ with
  | no => rw [e] at h; exact h
  | ok f r =>
    rw [e] at h
    cases f with
    | nx => exact h
    | rt d => exact h
    | ro d => exact h
    | bk => exact h
    | ct => exact h
  | ex z r =>
    rw [e] at h
    intro cls dd σ1 H1 Hf1 sm r1 xr
    exact hkF_ok (C := C) S hi hj hij o1 sm r1 xr xf1 no1 cs1 h fun h' => hkF_ok (C := C) S hi hj hij o2 sm r1 xr xf2 no2 cs2 h' fun h'' => hkW_ok (C := C) S hi hj hij o3 hne sm r1 xr cs3 h''
end
end DS
/-! ==, !=, in of instances of a class with __eq__: what the machine does. -/
namespace DSQ
open PySem PySem.W PySem.Spec PySem.SeqAt
open AutoSeq1 (wpAny_loadPart')
open MeetsSeq MeetsSeq2 MeetsSeq3 SeqRoads2
section
variable {prog : Program} {w : World} {A : Around} {E : Value → Shared → Prop} {s : Shared} {K : Frag} {x C f : Addr} {ox : Obj} {od : Option Obj} {name : Str} {b : Value}
theorem bound_blt {M : Model} {id : String} {args : List Value} {Q : Option Value → Shared → Prop} (X : K.In s.heap) (I : InstAt s.heap x ox C od) (hs : findIn K (.ref C) name = some (some (.builtin id)))
    (hb : ∀ self, bindSpecial (.builtin id) self = pure (.builtin id, [self]))
    (h : wpAny M A (call (.builtin id) (.ref x :: args)) (fun v => Q (some v)) E s) : wpAny M A (callSpecialIfBound? (.ref x) name args) Q E s := by
  simp only [callSpecialIfBound?, bindSpecialIfBound?]
  refine wpAny_holding (wpAny_bind (wpAny_bind (wpAny_bind (I.type.here ((looks_findIn X hs).here ?_)))))
  refine wpAny_bind (wpAny_askSetting (wpAny_ite ?_))
  have fin : wpAny M A (call (.builtin id) ([.ref x] ++ args) >>= fun v => pure (some v)) Q E s := wpAny_bind (wpAny_mono h (fun v s' h' => wpAny_pure h') fun _ _ h' => h')
  split
  · exact wpAny_bind ((Looks.of_pure (hb _)).here (wpAny_pure (by exact fin)))
  · exact wpAny_tryCatch (wpAny_bind ((Looks.of_pure (hb _)).here (wpAny_pure (by exact fin))))
/-- x != b by the class's own __eq__ -/
theorem rcNe_own {Q : Value → Shared → Prop} (hu : A.units + 1 < cLine) (X : K.In s.heap) (I : InstAt s.heap x ox C od) (hb : Looks (model prog w) s.heap (typeOf b) (.ref C))
    (hn : findIn K (.ref C) "__ne__" = some (some (.builtin "object.__ne__"))) (hm : mroIn K C (.type "object") = some true)
    (hs : findIn K (.ref C) "__eq__" = some (some (.ref f))) (hf : isFn K (.ref f) = true)
    (h : wpAny (model prog w) A.in1 (call (.ref f) [.ref x, b]) (fun v s' => ∃ r, v = .bool r ∧ Q (.bool (!r)) s') E s) : wpAny (model prog w) A (richCompare .NotEq (.ref x) b) Q E s := by
  have one : wpAny (model prog w) A (tryCompare (.ref x) "__ne__" b) (fun r s' => ∃ v, r = some v ∧ Q v s') E s := by
    unfold tryCompare
    refine wpAny_bind (bound_blt X I hn F.cmp_object.ne.bind (wpAny_call (codeAny_call_builtin F.cmp_object.ne.plain F.cmpEntry_ne
      (check_slot (i := "object.__ne__") (owner := "object") (n := "__ne__") F.cmpKind_ne F.cmpSplit_ne (I.type.andThen (looks_mroIn X hm)) (F.cmpArgs_ne _ _) ?_))))
    unfold Builtin.«object.__ne__»
    refine wpAny_bind (m := slotArgs "__ne__" 1 _) (wpAny_pure ?_)
    refine wpAny_bind (m := cRoomFor _ _) (wpAny_cRoomFor hu ?_)
    refine wpAny_bind (m := callSpecialIfBound? (.ref x) (Str.ofString "__eq__") [b]) (ifBound_K X I hs hf (wpAny_mono h (fun v s' hv => ?_) fun _ _ e => e))
    obtain ⟨r, rfl, hq⟩ := hv
    refine wpAny_bind (m := truthy (.bool r)) (wpAny_truthy_bool (wpAny_pure ?_))
    exact wpAny_pure ⟨_, rfl, hq⟩
  unfold richCompare
  simp only [oneThing_ref]
  refine wpAny_holding (wpAny_bind (wpAny_cRoomFor (Nat.lt_of_succ_lt hu) ?_))
  refine wpAny_bind (I.type.here (wpAny_bind (hb.here ?_)))
  rw [if_neg (by simp)]
  refine wpAny_bind (wpAny_pure ?_)
  simp only [Bool.false_eq_true, if_false]
  refine wpAny_bind (wpAny_mono one (fun r s' z => ?_) fun _ _ e => e)
  obtain ⟨v, rfl, hq⟩ := z
  exact wpAny_pure hq
/-- t == x, t a tuple: asked of x -/
theorem rcTup_own {t : Addr} {its : Array Value} {Q : Value → Shared → Prop} (hu : A.units < cLine) (X : K.In s.heap) (I : InstAt s.heap x ox C od) (ht : s.heap.IsTuple t its)
    (hm : mroIn K C (.type "tuple") = some false) (hs : findIn K (.ref C) "__eq__" = some (some (.ref f))) (hf : isFn K (.ref f) = true)
    (h : wpAny (model prog w) A (call (.ref f) [.ref x, .ref t]) (fun v s' => ∃ r, v = .bool r ∧ Q (.bool r) s') E s) : wpAny (model prog w) A (richCompare .Eq (.ref t) (.ref x)) Q E s := by
  obtain ⟨⟨cls, dd, data, sl⟩, ho, hc, n, hd⟩ := id ht
  simp only at hc hd
  subst hc hd
  have hT : s.TypeIs (.ref t) "tuple" := ⟨_, ho, rfl⟩
  have one : wpAny (model prog w) A (tryCompare (.ref t) "__eq__" (.ref x)) (fun r s' => r = none ∧ s' = s) E s := by
    unfold tryCompare
    refine wpAny_bind (wpAny_callSpecialIfBound?_slot hT F.slot_tuple_eq (GQ.call_here F.slot_tuple_eq hT F.entry_tuple_eq (F.args_tuple_eq_2 _ _) ?_))
    show wpAny _ _ (do
      let (a, [b]) ← slotArgs "__eq__" 1 ⟨[.ref t, .ref x], []⟩ | unsupported "internal:tuple.compare"
      if !(← isInstance b (.type "tuple")) then return ← ret .notImplemented
      _) _ _ _
    refine wpAny_bind (m := slotArgs "__eq__" 1 _) (wpAny_pure ?_)
    have isT : Looks (model prog w) s.heap (isInstance (.ref x) (.type "tuple")) false := I.type.andThen (looks_mroIn X hm)
    refine wpAny_bind (isT.here ?_)
    simp only [Bool.not_false, if_true]
    refine wpAny_pure ?_
    show wpAny _ _ (pure none) _ _ _
    exact wpAny_pure ⟨rfl, rfl⟩
  have two : wpAny (model prog w) A (tryCompare (.ref x) "__eq__" (.ref t)) (fun r s' => ∃ v, r = some v ∧ Q v s') E s := by
    unfold tryCompare
    refine wpAny_bind (ifBound_K X I hs hf (wpAny_mono h (fun v s' hv => ?_) fun _ _ e => e))
    obtain ⟨r, rfl, hq⟩ := hv
    exact wpAny_pure ⟨_, rfl, hq⟩
  unfold richCompare
  simp only [oneThing_ref]
  refine wpAny_holding (wpAny_bind (wpAny_cRoomFor hu ?_))
  refine wpAny_bind (wpAny_typeOf_ref ho (wpAny_bind (I.type.here ?_)))
  rw [if_pos (by simp)]
  refine wpAny_bind ((looks_mroIn X hm).here ?_)
  simp only [Bool.false_eq_true, if_false]
  refine wpAny_bind (wpAny_mono one (fun r s' z => ?_) fun _ _ e => e)
  obtain ⟨rfl, rfl⟩ := z
  simp only [Bool.not_false, if_true]
  refine wpAny_bind (wpAny_mono two (fun r s' z => ?_) fun _ _ e => e)
  obtain ⟨v, rfl, hq⟩ := z
  exact wpAny_pure hq
def LAt (s : Shared) (l : Addr) (its : Array Value) : Prop := ∃ n sl, s.heap.get? l = some { cls := .type "list", data := .seq its n, slots := sl }
/-- x in [a, b] -/
theorem in_two {l : Addr} {its : Array Value} {y1 y2 xv : Value} {Q : Value → Shared → Prop} (e0 : its[(0 : Int).toNat]? = some y1) (e1 : its[((0 : Int) + 1).toNat]? = some y2) (e2 : its[((0 : Int) + 1 + 1).toNat]? = none)
    (hl : LAt s l its)
    (h : wpAny (model prog w) A.in1 (eqBool y1 xv) (fun b s' => if b = true then Q (.bool true) s' else LAt s' l its ∧
      wpAny (model prog w) A.in1 (eqBool y2 xv) (fun b s2 => if b = true then Q (.bool true) s2 else LAt s2 l its ∧ Q (.bool false) s2) E s') E s) :
    wpAny (model prog w) A (compareOp .In xv (.ref l)) Q E s := by
  obtain ⟨n, sl, hl⟩ := hl
  show wpAny _ A (do return .bool (← contains (.ref l) xv)) Q E s
  have hT : s.TypeIs (.ref l) "list" := ⟨_, hl, rfl⟩
  refine wpAny_bind (wpAny_contains_slot hT F.slot_list_contains (wpAny_mono (Q := fun v s' => ∃ b, v = .bool b ∧ Q (.bool b) s') (GQ.call_here F.slot_list_contains hT F.entry_list_contains (F.args_list_contains_2 _ _) ?_) (fun v s' hv => ?_) fun _ _ e => e))
  case refine_2 =>
    obtain ⟨b, rfl, hq⟩ := hv
    exact wpAny_truthy_bool (wpAny_pure hq)
  obtain ⟨hp, g, d, tk, os⟩ := s
  wp_walk using wpAny_loadPart' hl
  refine ⟨plainId_quiet plain_contains_loop _, codeAny_builtin entry_contains_loop ?_⟩
  rw [Around.under_plainId plain_contains_loop _]
  wp_walk using wpAny_loadPart' hl
  rw [e0]
  refine wpAny_bind (wpAny_mono h (fun b s' hb => ?_) fun _ _ e => e)
  cases b with
  | true =>
    rw [if_pos rfl] at hb
    obtain ⟨hp, g, d, tk, os⟩ := s'
    wp_walk
    exact ⟨_, rfl, hb⟩
  | false =>
    rw [if_neg (by simp)] at hb
    obtain ⟨⟨n', sl', hl'⟩, hb⟩ := hb
    obtain ⟨hp, g, d, tk, os⟩ := s'
    wp_walk
    refine ⟨plainId_quiet plain_contains_loop _, codeAny_builtin entry_contains_loop ?_⟩
    rw [Around.under_plainId plain_contains_loop _]
    wp_walk using wpAny_loadPart' hl'
    rw [e1]
    refine wpAny_bind (wpAny_mono hb (fun b s2 hb => ?_) fun _ _ e => e)
    cases b with
    | true =>
      rw [if_pos rfl] at hb
      obtain ⟨hp, g, d, tk, os⟩ := s2
      wp_walk
      exact ⟨_, rfl, hb⟩
    | false =>
      rw [if_neg (by simp)] at hb
      obtain ⟨⟨n2, sl2, hl2⟩, hb⟩ := hb
      obtain ⟨hp, g, d, tk, os⟩ := s2
      wp_walk
      refine ⟨plainId_quiet plain_contains_loop _, codeAny_builtin entry_contains_loop ?_⟩
      rw [Around.under_plainId plain_contains_loop _]
      wp_walk using wpAny_loadPart' hl2
      rw [e2]
      wp_walk
      exact ⟨_, rfl, hb⟩
end
end DSQ
/-! ==, !=, in of instances of a class with __eq__. -/
namespace DS
open PySem L2
section
variable {X : Cx} {k : Nat} {f K0 : Addr} {fd : FuncData} {ps : List Str} {sp : Sp}
/-- a def of the text called somewhere below; it raises nothing -/
theorem run_at {pins : List (Addr × Obj)} {σ : St} {H : Hp} {s : Shared} {Q : VK} {us : List Value} {vs : List V} {A : Around} (hA : A.frames = X.A.frames) (F : FnOk X.prog X.w X.K X.mg X.base (L2.CX X.prog X.w) k f fd ps sp) (hr : Room k A) (hb : Binds X.K fd ps []) (I : Inv X pins σ H s) (r : Vals vs us) (h : sp vs H Q E0) :
    wpAny (model X.prog X.w) A (call (.ref f) us) (EP X pins σ Q) X.xe s := by
  have hl : us.length = ps.length := by rw [← r.length]; exact F.len _ _ _ _ h
  have b := hb s us I.kIn (by rw [List.append_nil]; exact hl)
  rw [List.append_nil] at b
  have e0 : Env0 X.prog X.w X.K X.mg X.base A X.stack s H := by
    have e := I.env0
    exact ⟨by rw [hA]; exact e.frames, e.mod, e.bs, e.bsz, e.funs, e.frf, e.hok, e.bare⟩
  refine wpAny_call (codeAny_mono (F.run A X.stack s H ⟨us, []⟩ us vs Q E0 hr e0 b r h) fun z s' hz => ?_)
  cases z with
  | error e => exact passL pins σ H s e s' I hz
  | ok fl =>
    cases fl with
    | ret u => exact I.after hz
    | next => exact hz.elim
    | brk => exact hz.elim
    | cont => exact hz.elim
/-- an instance of the class, or a tuple -/
def InsTup (K : PySem.W.Frag) (H : Hp) (K0 : Addr) (neg : Bool) (b : Addr) : Prop := (∃ dx fs, H b = some (.ins K0 dx fs)) ∨ (neg = false ∧ ∃ xs, SqT K H b xs)
def rEqO (K : PySem.W.Frag) (K0 : Addr) (neg : Bool) (sp : Sp) : R2 := fun x y H Q => ∃ a b dx fs, x = .ref a ∧ y = .ref b ∧ H a = some (.ins K0 dx fs) ∧ InsTup K H K0 neg b ∧ sp [x, y] H (fun v H' => ∃ r, v = .bl r ∧ Q (.bl (if neg then !r else r)) H') E0
theorem op_eqO (hm : Meth X.K K0 "__eq__" f) (F : FnOk X.prog X.w X.K X.mg X.base (L2.CX X.prog X.w) k f fd ps sp) (hr : Room k X.A) (hb : Binds X.K fd ps []) (hn : PySem.W.notFirst X.K K0 (.type "tuple") = true) : OpR X (compareOp .Eq) (rEqO X.K K0 false sp) := by
  rintro pins s σ H x y v u Q I rx ry ⟨a, b, dx, fs, rfl, rfl, ea, hy, q⟩
  cases rx
  cases ry
  obtain ⟨mA, J, _⟩ := ins_get I.hok ea
  obtain ⟨od, J, _⟩ := J.look
  obtain ⟨m, hF⟩ := I.fr
  have go : ∀ tb, PySem.W.Looks (model X.prog X.w) s.heap (typeOf (.ref b)) tb → PySem.W.notFirst X.K K0 tb = true → wpAny (model X.prog X.w) X.A (compareOp .Eq (.ref a) (.ref b)) (EP X pins σ Q) X.xe s := fun tb hb' hn' => by
    refine PySem.W.cmp_K (op := .Eq) (tb := tb) (by have := hr.un; omega) hF I.ok.mod.kin J hb' hn' hm.at_ hm.fn (wpAny_mono (run_at (us := [.ref a, .ref b]) (vs := [.ref a, .ref b]) rfl F hr hb I (.cons rfl (.cons rfl .nil)) q) (fun w s' h => ?_) fun _ _ e => e)
    obtain ⟨z, H', I', rz, r, rfl, qq⟩ := h
    cases rz
    exact ⟨.bl _, H', I', rfl, qq⟩
  rcases hy with ⟨dx2, fs2, eb⟩ | ⟨_, xs, hs⟩
  · obtain ⟨mB, J', _⟩ := ins_get I.hok eb
    obtain ⟨od', J', _⟩ := J'.look
    exact go _ J'.type (by simp [PySem.W.notFirst])
  · obtain ⟨its, r, ⟨o, ho, hc, _⟩, _⟩ := I.tuple hs
    refine go (.type "tuple") (fun A Q E s' k q => wpAny_typeOf_ref (k _ _ ho) (by rw [hc]; exact q)) hn
theorem op_neO (hm : Meth X.K K0 "__eq__" f) (F : FnOk X.prog X.w X.K X.mg X.base (L2.CX X.prog X.w) k f fd ps sp) (hr : Room (k + 1) X.A) (hb : Binds X.K fd ps []) (hn : PySem.W.findIn X.K (.ref K0) "__ne__" = some (some (.builtin "object.__ne__"))) (ho : PySem.W.mroIn X.K K0 (.type "object") = some true) :
    OpR X (compareOp .NotEq) (rEqO X.K K0 true sp) := by
  rintro pins s σ H x y v u Q I rx ry ⟨a, b, dx, fs, rfl, rfl, ea, hy, q⟩
  cases rx
  cases ry
  obtain ⟨mA, J, _⟩ := ins_get I.hok ea
  obtain ⟨od, J, _⟩ := J.look
  rcases hy with ⟨dx2, fs2, eb⟩ | ⟨e, _⟩
  · obtain ⟨mB, J', _⟩ := ins_get I.hok eb
    obtain ⟨od', J', _⟩ := J'.look
    refine DSQ.rcNe_own (by have := hr.un; omega) I.kIn J J'.type hn ho hm.at_ hm.fn (wpAny_mono (run_at (us := [.ref a, .ref b]) (vs := [.ref a, .ref b]) rfl F hr.in1 hb I (.cons rfl (.cons rfl .nil)) q) (fun w s' h => ?_) fun _ _ e => e)
    obtain ⟨z, H', I', rz, r, rfl, qq⟩ := h
    cases rz
    exact ⟨r, rfl, .bl _, H', I', rfl, qq⟩
  · cases e
/-- x in [p, q]: p an instance, q a tuple -/
def rInO (X : Cx) (K0 : Addr) (sp : Sp) : R2 := fun x y H Q => ∃ xa l p q dx fs dy gs xs, x = .ref xa ∧ y = .ref l ∧ H xa = some (.ins K0 dx fs) ∧ SqL X.K H l [.ref p, .ref q] ∧ H p = some (.ins K0 dy gs) ∧ SqT X.K H q xs ∧
  (p = xa → (∃ pins σ s, Inv X pins σ H s) → Q (.bl true) H) ∧
  (p ≠ xa → sp [.ref p, .ref xa] H (fun v H1 => ∃ r, v = .bl r ∧ (r = true → Q (.bl true) H1) ∧ (r = false → H1 xa = some (.ins K0 dx fs) ∧ SqL X.K H1 l [.ref p, .ref q] ∧ SqT X.K H1 q xs ∧
    sp [.ref xa, .ref q] H1 (fun v H2 => ∃ r, v = .bl r ∧ SqL X.K H2 l [.ref p, .ref q] ∧ Q (.bl r) H2) E0)) E0)
theorem lAt_of {pins : List (Addr × Obj)} {σ : St} {H : Hp} {s : Shared} {l p q : Addr} (I : Inv X pins σ H s) (h : SqL X.K H l [.ref p, .ref q]) : DSQ.LAt s l #[.ref p, .ref q] := by
  obtain ⟨its, r, ⟨⟨c, dc, dt, sl⟩, n2, e2, k1, k2, k3⟩, _⟩ := I.list h
  dsimp only at k1 k2 k3
  subst k1 k2 k3
  cases r with
  | cons r1 r =>
    cases r with
    | cons r2 r =>
      cases r
      cases r1
      cases r2
      exact ⟨n2, sl, e2⟩
theorem op_inO (hm : Meth X.K K0 "__eq__" f) (F : FnOk X.prog X.w X.K X.mg X.base (L2.CX X.prog X.w) k f fd ps sp) (hr : Room (k + 1) X.A) (hb : Binds X.K fd ps []) (ht : PySem.W.mroIn X.K K0 (.type "tuple") = some false) : OpR X (compareOp .In) (rInO X K0 sp) := by
  rintro pins s σ H x y v u Q I rx ry ⟨xa, l, p, q, dx, fs, dy, gs, xs, rfl, rfl, ex, hl, ep, hq, q1, q2⟩
  cases rx
  cases ry
  have u1 : X.A.in1.units < cLine := by have := hr.in1.un; omega
  refine DSQ.in_two (y1 := .ref p) (y2 := .ref q) rfl rfl rfl (lAt_of I hl) ?_
  by_cases hp : p = xa
  · subst hp
    exact SeqAt.EqAt.same (A := X.A.in1) (s := s) (.ref p) X.prog X.w X.xe _ (by rw [if_pos rfl]; exact ⟨.bl _, H, I, rfl, q1 rfl ⟨_, _, _, I⟩⟩)
  · refine GQ.eqBool_refG hp ?_
    obtain ⟨mA, J, _⟩ := ins_get I.hok ep
    obtain ⟨od, J, _⟩ := J.look
    obtain ⟨mB, J', _⟩ := ins_get I.hok ex
    obtain ⟨od', J', _⟩ := J'.look
    obtain ⟨m, hF⟩ := I.fr
    refine PySem.W.cmp_K (op := .Eq) (tb := .ref K0) u1 hF I.ok.mod.kin J J'.type (by simp [PySem.W.notFirst]) hm.at_ hm.fn (wpAny_mono (run_at (us := [.ref p, .ref xa]) (vs := [.ref p, .ref xa]) rfl F hr.in1 hb I (.cons rfl (.cons rfl .nil)) (q2 hp)) (fun w s' h => ?_) fun _ _ e => e)
    obtain ⟨z, H1, I1, rz, r, rfl, qt, qf⟩ := h
    cases rz
    refine ⟨r, rfl, ?_⟩
    cases r with
    | true => rw [if_pos rfl]; exact ⟨.bl _, H1, I1, rfl, qt rfl⟩
    | false =>
      rw [if_neg (by simp)]
      obtain ⟨ex1, hl1, hq1, q3⟩ := qf rfl
      refine ⟨lAt_of I1 hl1, ?_⟩
      obtain ⟨its, rt, hit, _⟩ := I1.tuple hq1
      obtain ⟨mB, J1, _⟩ := ins_get I1.hok ex1
      obtain ⟨od1, J1, _⟩ := J1.look
      have hne : q ≠ xa := fun e => by
        subst e
        obtain ⟨o, ho, hc, _⟩ := hit
        have := J1.at_
        rw [ho] at this
        cases this
        have := J1.cls
        rw [hc] at this
        cases this
      refine GQ.eqBool_refG hne ?_
      refine DSQ.rcTup_own u1 I1.kIn J1 hit ht hm.at_ hm.fn (wpAny_mono (run_at (us := [.ref xa, .ref q]) (vs := [.ref xa, .ref q]) rfl F hr.in1 hb I1 (.cons rfl (.cons rfl .nil)) q3) (fun w s2 h => ?_) fun _ _ e => e)
      obtain ⟨z, H2, I2, rz, r, rfl, hl2, qq⟩ := h
      cases rz
      refine ⟨r, rfl, r, rfl, ?_⟩
      cases r with
      | true => rw [if_pos rfl]; exact ⟨.bl _, H2, I2, rfl, qq⟩
      | false => rw [if_neg (by simp)]; exact ⟨lAt_of I2 hl2, .bl _, H2, I2, rfl, qq⟩
end
/-! ### readings -/
/-- a class with its own __eq__, below object alone -/
structure HasE (T : Wd) (c : Str) (k : Nat) (F : List Sl → Res D) : Prop where
  ex : ∃ K0 f fd ps, T.mg c = some (.ref K0) ∧ Meth T.K K0 "__eq__" f ∧ FnOk T.P T.w T.K T.mg T.base (L2.CX T.P T.w) k f fd ps (fsp T F) ∧ Binds T.K fd ps [] ∧ PySem.W.notFirst T.K K0 (.type "tuple") = true ∧ PySem.W.mroIn T.K K0 (.type "tuple") = some false ∧
    PySem.W.mroIn T.K K0 (.type "object") = some true ∧ PySem.W.findIn T.K (.ref K0) "__ne__" = some (some (.builtin "object.__ne__"))
def isTup : D → Bool
  | .tuple _ => true
  | _ => false
def insB (c : Str) (d : D) : Bool := (insOf c d).isSome
@[simp ↓] theorem insB_eq (c c' : Str) (r : List (D × D)) : insB c (.dict ((.str c', .none) :: r)) = decide (c' = c) := by
  unfold insB
  rw [insOf_eq]
  split
  · rw [decide_eq_true (by assumption)]; rfl
  · rw [decide_eq_false (by assumption)]; rfl
def asBool (neg : Bool) (m : M D) : M D := bnd m fun z => match z with
  | .bool r => ret (.bool (if neg then !r else r))
  | _ => stop
def eqO (c : Str) (neg : Bool) (F : List Sl → Res D) (ma mb : M D) : M D := bnd ma fun x => bnd mb fun y => if (insB c x && (insB c y || (!neg && isTup y))) = true then asBool neg (callM F [.im x, .im y]) else stop
@[simp ↓] theorem eqO_eq (c : Str) (neg : Bool) (F : List Sl → Res D) (ma mb : M D) (ρ : Rho) : eqO c neg F ma mb ρ = (bnd ma fun x => bnd mb fun y => if (insB c x && (insB c y || (!neg && isTup y))) = true then asBool neg (callM F [.im x, .im y]) else stop) ρ := id rfl
@[simp ↓] theorem asBool_eq (neg : Bool) (m : M D) (ρ : Rho) : asBool neg m ρ = (bnd m fun z => match z with
  | .bool r => ret (.bool (if neg then !r else r))
  | _ => stop) ρ := id rfl
section
variable {C : DC} {n : Nm} {pos : Pos} {a b : Expr} {ma mb : M D}
theorem asBool_post {neg : Bool} {Hf G : Hp} {σ : St} {ρ : Rho} {Q : VK} {m : M D} (p : Post C (relE C.T) Hf G σ Q (asBool neg m ρ)) : Post C (relE C.T) Hf G σ (fun v H' => ∃ r, v = .bl r ∧ Q (.bl (if neg then !r else r)) H') (m ρ) := by
  unfold asBool bnd at p
  cases e : m ρ with
  | no => rw [e] at p; exact p
  | ex z r => rw [e] at p; exact p
  | ok y r =>
    rw [e] at p
    intro v H2 Hf2 s2 r2 rv
    cases y with
    | bool i =>
      dsimp only at p
      unfold Rp at rv
      subst rv
      exact ⟨i, rfl, p _ H2 Hf2 s2 r2 (rp_bool _)⟩
    | none => exact p.elim
    | int b => exact p.elim
    | str b => exact p.elim
    | list b => exact p.elim
    | tuple b => exact p.elim
    | dict b => exact p.elim
theorem lft_eqO {c : Str} {K0 : Addr} {neg : Bool} {F : List Sl → Res D} (hm : C.T.mg c = some (.ref K0)) (hne : ∀ args e r, F args ≠ .ex e r) : ∀ σ H Q, Lft C (relE C.T) (eqO c neg F ma mb) σ H Q → tOp (rEqO C.T.K K0 neg (fsp C.T F)) (Lft C (relE C.T) ma) (Lft C (relE C.T) mb) σ H Q := fun σ H Q ⟨Hf, G, ρ, rr, h⟩ => by
  refine post_bind rr h fun x d1 H1 Hf1 ρ1 s1 r1 rx p1 => ?_
  refine post_bind r1 p1 fun y d2 H2 Hf2 ρ2 s2 r2 ry p2 => ?_
  by_cases hc : (insB c d1 && (insB c d2 || (!neg && isTup d2))) = true
  case neg => rw [if_neg hc] at p2; exact p2.elim
  rw [if_pos hc] at p2
  rw [Bool.and_eq_true] at hc
  obtain ⟨h1, h2⟩ := hc
  obtain ⟨f1, e1⟩ := Option.isSome_iff_exists.mp h1
  have rx2 := Rp.mono s2 _ _ rx
  obtain ⟨q, K1, dx, fs, rfl, g1, g2, g3, _⟩ := rp_ins rx2 e1
  rw [hm] at g2
  cases g2
  have p3 := asBool_post p2
  have sp := fsp_noE hne (call_core (vs := [.ref q, y]) (as := [.im d1, .im d2]) r2 ⟨.im d1, [.im d2], rfl, rx2, .im d2, [], rfl, ry, rfl⟩ p3)
  have it : ∃ b, y = .ref b ∧ InsTup C.T.K H2 K0 neg b := by
    rw [Bool.or_eq_true] at h2
    rcases h2 with h2 | h2
    · obtain ⟨f2, e2⟩ := Option.isSome_iff_exists.mp h2
      obtain ⟨b, K2, dy, gs, rfl, k1, k2, _⟩ := rp_ins ry e2
      rw [hm] at k2
      cases k2
      exact ⟨b, rfl, .inl ⟨dy, gs, r2.fz _ _ k1⟩⟩
    · rw [Bool.and_eq_true] at h2
      obtain ⟨hn, ht⟩ := h2
      cases d2 with
      | tuple ds =>
        simp only [Rp] at ry
        obtain ⟨b, xs, rfl, sq, _⟩ := ry
        exact ⟨b, rfl, .inr ⟨by simpa using hn, xs, Same.sqT r2.fz sq⟩⟩
      | _ => cases ht
  obtain ⟨b, rfl, it⟩ := it
  exact ⟨q, b, dx, fs, rfl, rfl, r2.fz _ _ g1, it, sp⟩
theorem de_eqO {c : Str} {k : Nat} {F : List Sl → Res D} (S : Sc C n) (h : HasE C.T c k F) (hk : k ≤ n.lv) (hne : ∀ args e r, F args ≠ .ex e r) (ha : DE C a ma) (hb : DE C b mb) : DE C (.Compare a [.Eq] [b] pos) (eqO c false F ma mb) := by
  obtain ⟨K0, f, fd, ps, hm, hme, hf, hbi, hn, _⟩ := h.ex
  exact ⟨PE.imp (pe_cmpR (op_eqO hme hf (S.room.mono hk) hbi hn) ha.pe hb.pe (mark_ok hb.ok)) (lft_eqO hm hne), rfl⟩
theorem dt_eqO {c : Str} {k : Nat} {F : List Sl → Res D} (S : Sc C n) (h : HasE C.T c k F) (hk : k ≤ n.lv) (hne : ∀ args e r, F args ≠ .ex e r) (ha : DE C a ma) (hb : DE C b mb) : DT C (.Compare a [.Eq] [b] pos) (asB (eqO c false F ma mb)) := by
  obtain ⟨K0, f, fd, ps, hm, hme, hf, hbi, hn, _⟩ := h.ex
  exact ⟨PT.imp (pt_cmpR (op_eqO hme hf (S.room.mono hk) hbi hn) ha.pe hb.pe (mark_ok hb.ok)) (lft_asB (lft_eqO hm hne))⟩
theorem de_neO {c : Str} {k : Nat} {F : List Sl → Res D} (S : Sc C n) (h : HasE C.T c k F) (hk : k + 1 ≤ n.lv) (hne : ∀ args e r, F args ≠ .ex e r) (ha : DE C a ma) (hb : DE C b mb) : DE C (.Compare a [.NotEq] [b] pos) (eqO c true F ma mb) := by
  obtain ⟨K0, f, fd, ps, hm, hme, hf, hbi, _, _, ho, hn⟩ := h.ex
  exact ⟨PE.imp (pe_cmpR (op_neO hme hf (S.room.mono hk) hbi hn ho) ha.pe hb.pe (mark_ok hb.ok)) (lft_eqO hm hne), rfl⟩
theorem dt_neO {c : Str} {k : Nat} {F : List Sl → Res D} (S : Sc C n) (h : HasE C.T c k F) (hk : k + 1 ≤ n.lv) (hne : ∀ args e r, F args ≠ .ex e r) (ha : DE C a ma) (hb : DE C b mb) : DT C (.Compare a [.NotEq] [b] pos) (asB (eqO c true F ma mb)) := by
  obtain ⟨K0, f, fd, ps, hm, hme, hf, hbi, _, _, ho, hn⟩ := h.ex
  exact ⟨PT.imp (pt_cmpR (op_neO hme hf (S.room.mono hk) hbi hn ho) ha.pe hb.pe (mark_ok hb.ok)) (lft_asB (lft_eqO hm hne))⟩
end
end DS
/-! x in [a, b] by an own __eq__. -/
namespace DS
open PySem L2
theorem post_bnd {C : DC} {α β γ δ : Type} {rel : Rel β α} {rel2 : Rel δ γ} {ma : M α} {f : α → M γ} {Hf G : Hp} {σ : St} {ρ : Rho} {Q : δ → Hp → Prop} {R : β → Hp → Prop} (h : Post C rel2 Hf G σ Q (bnd ma f ρ))
    (k : ∀ b a H1 Hf1 ρ1, Same Hf Hf1 → RR C.F Hf1 G σ H1 ρ1 → rel Hf1 G σ H1 ρ1 b a → Post C rel2 Hf1 G σ Q (f a ρ1) → R b H1) : Post C rel Hf G σ R (ma ρ) := by
  unfold bnd at h
  cases e : ma ρ with
  | ok a ρ1 =>
    rw [e] at h
    exact fun b H1 Hf1 s r1 r => k b a H1 Hf1 ρ1 s r1 r (h.up s)
  | ex x ρ1 => rw [e] at h; exact h
  | no => rw [e] at h; exact h
theorem relV_ex : ∀ v : V, ∃ u, RelV v u
  | .non => ⟨_, rfl⟩
  | .bl b => ⟨_, rfl⟩
  | .int i => ⟨.int i default, _, rfl⟩
  | .str x => ⟨.str x default, _, rfl⟩
  | .byt x => ⟨.bytes x default, _, rfl⟩
  | .flt x => ⟨.float x default, _, rfl⟩
  | .ref a => ⟨_, rfl⟩
  | .ty n => ⟨_, rfl⟩
section
variable {X : Cx} {T : Wd} {Hf H : Hp} {pins : List (Addr × Obj)} {σ : St} {s : Shared}
theorem rp_uniq (hK : X.K = T.K) (sm : Same Hf H) (I : Inv X pins σ H s) {d d' : D} {v : V} (n : noObj d = true) (n' : noObj d' = true) (r : Rp T Hf d v) (r' : Rp T Hf d' v) : d = d' := by
  obtain ⟨u, ru⟩ := relV_ex v
  obtain ⟨as, h1⟩ := Dp.reads I d v u (by rw [hK]; exact (Rp.lay d v (Rp.mono sm _ _ r) n).2) ru
  obtain ⟨bs, h2⟩ := Dp.reads I d' v u (by rw [hK]; exact (Rp.lay d' v (Rp.mono sm _ _ r') n').2) ru
  exact (Reads.unique h1 _ _ h2).1
theorem rpf_uniq (hK : X.K = T.K) (sm : Same Hf H) (I : Inv X pins σ H s) : ∀ {r r' : List (D × D)} {fs : List (Str × V)}, (r.all fun p => noObj p.2) = true → (r'.all fun p => noObj p.2) = true → RpF T Hf r fs → RpF T Hf r' fs → r = r'
  | [], r', fs, _, _, h, h' => by
    rw [h.unnil] at h'
    cases r' with
    | nil => rfl
    | cons p r' => obtain ⟨_, _, _, e, _⟩ := h'.uncons; cases e
  | p :: r, r', fs, n, n', h, h' => by
    obtain ⟨f, v, q, e, e1, e2, e3⟩ := h.uncons
    subst e
    cases r' with
    | nil => have := h'.unnil; cases this
    | cons p' r' =>
      obtain ⟨f', v', q', e', d1, d2, d3⟩ := h'.uncons
      cases e'
      rw [List.all_cons, Bool.and_eq_true] at n n'
      have := rp_uniq hK sm I n.1 n'.1 e2 d2
      have t := rpf_uniq hK sm I n.2 n'.2 e3 d3
      obtain ⟨k, d⟩ := p
      obtain ⟨k', d'⟩ := p'
      dsimp only at e1 d1 this
      rw [e1, d1, this, t]
end
/-- an instance with fields of plain data -/
def insN (c : Str) (d : D) : Bool := match insOf c d with
  | some r => r.all fun p => noObj p.2
  | none => false
open Classical in
noncomputable def inO (c : Str) (F : List Sl → Res D) (ma mb : M D) : M D := bnd ma fun x => bnd mb fun l => match l with
  | .list [a, b] => if (insN c x && insN c a && isTup b) = true then bnd (callM F [.im a, .im x]) fun z => match z with
      | .bool r => if r = true then ret (.bool true) else if a = x then stop else asBool false (callM F [.im x, .im b])
      | _ => stop
    else stop
  | _ => stop
open Classical in
@[simp ↓] theorem inO_eq (c : Str) (F : List Sl → Res D) (ma mb : M D) (ρ : Rho) : inO c F ma mb ρ = (bnd ma fun x => bnd mb fun l => match l with
  | .list [a, b] => if (insN c x && insN c a && isTup b) = true then bnd (callM F [.im a, .im x]) fun z => match z with
      | .bool r => if r = true then ret (.bool true) else if a = x then stop else asBool false (callM F [.im x, .im b])
      | _ => stop
    else stop
  | _ => stop) ρ := id rfl
theorem callM_im2 {F : List Sl → Res D} {a b z : D} {ρ r : Rho} (h : callM F [.im a, .im b] ρ = .ok z r) : r = ρ := by
  have e : resolve ρ [.im a, .im b] = some [.im a, .im b] := res_map [a, b]
  unfold callM at h
  rw [e] at h
  dsimp only at h
  split at h
  · split at h
    · split at h
      · cases h; exact back_nil rfl
      · cases h
    · split at h <;> cases h
    · cases h
  · cases h
section
variable {C : DC} {n : Nm} {pos : Pos} {a b : Expr} {ma mb : M D}
theorem lft_inO {c : Str} {K0 : Addr} {F : List Sl → Res D} (hm : C.T.mg c = some (.ref K0)) (hne : ∀ args e r, F args ≠ .ex e r) : ∀ σ H Q, Lft C (relE C.T) (inO c F ma mb) σ H Q → tOp (rInO C.X K0 (fsp C.T F)) (Lft C (relE C.T) ma) (Lft C (relE C.T) mb) σ H Q := fun σ H Q ⟨Hf, G, ρ, rr, h⟩ => by
  refine post_bind rr h fun x d1 H1 Hf1 ρ1 s1 r1 rx p1 => ?_
  refine post_bind r1 p1 fun y d2 H2 Hf2 ρ2 s2 r2 ry p2 => ?_
  have rx2 := Rp.mono s2 _ _ rx
  split at p2
  case h_2 => exact p2.elim
  rename_i d2' da db
  by_cases hc : (insN c d1 && insN c da && isTup db) = true
  case neg => rw [if_neg hc] at p2; exact p2.elim
  rw [if_pos hc] at p2
  simp only [Bool.and_eq_true] at hc
  obtain ⟨⟨h1, h2⟩, h3⟩ := hc
  unfold insN at h1 h2
  split at h1
  case h_2 => cases h1
  split at h2
  case h_2 => cases h2
  rename_i _ f1 e1 _ f2 e2
  obtain ⟨xa, K1, dx, fs, rfl, g1, g2, g3, g4⟩ := rp_ins rx2 e1
  rw [hm] at g2
  cases g2
  simp only [Rp] at ry
  obtain ⟨l, xs, rfl, sq, ra⟩ := ry
  obtain ⟨va, xs, rfl, rva, ra⟩ := ra.uncons
  obtain ⟨vb, xs, rfl, rvb, ra⟩ := ra.uncons
  rw [ra.unnil] at sq
  obtain ⟨p, K2, dy, gs, rfl, k1, k2, k3, k4⟩ := rp_ins rva e2
  rw [hm] at k2
  cases k2
  cases db with
  | tuple ds =>
    simp only [Rp] at rvb
    obtain ⟨q, zs, rfl, sqt, rzs⟩ := rvb
    have rdb : Rp C.T Hf2 (.tuple ds) (.ref q) := by simp only [Rp]; exact ⟨q, zs, rfl, sqt, rzs⟩
    refine ⟨xa, l, p, q, dx, fs, dy, gs, zs, rfl, rfl, r2.fz _ _ g1, r2.fz.seq sq, r2.fz _ _ k1, Same.sqT r2.fz sqt, fun e ⟨pins, σ', s, I⟩ => ?_, fun _ => ?_⟩
    · subst e
      rw [g1] at k1
      cases k1
      have eq := rpf_uniq (X := C.X) rfl r2.fz I h1 h2 g3 k3
      have ed : da = d1 := by rw [g4, k4, eq]
      unfold bnd at p2
      cases ec : callM F [.im da, .im d1] ρ2 with
      | no => rw [ec] at p2; exact p2.elim
      | ex z r =>
        unfold callM at ec
        rw [show resolve ρ2 [.im da, .im d1] = some [.im da, .im d1] from res_map [da, d1]] at ec
        dsimp only at ec
        split at ec
        · split at ec
          · split at ec <;> cases ec
          · rename_i eF; exact absurd eF (hne _ _ _)
          · cases ec
        · cases ec
      | ok z r =>
        obtain rfl := callM_im2 ec
        rw [ec] at p2
        cases z with
        | bool i =>
          dsimp only at p2
          cases i with
          | true => rw [if_pos rfl] at p2; exact p2 _ H2 Hf2 (Same.refl _) r2 (rp_bool _)
          | false => rw [if_neg (by simp), if_pos ed] at p2; exact p2.elim
        | none => exact p2.elim
        | int b => exact p2.elim
        | str b => exact p2.elim
        | list b => exact p2.elim
        | tuple b => exact p2.elim
        | dict b => exact p2.elim
    · refine fsp_noE hne (call_core (vs := [.ref p, .ref xa]) (as := [.im da, .im d1]) r2 ⟨.im da, [.im d1], rfl, rva, .im d1, [], rfl, rx2, rfl⟩ (post_bnd p2 fun v z H3 Hf3 ρ3 s3 r3 rv p3 => ?_))
      cases z with
      | bool i =>
        dsimp only at p3
        have rv : v = .bl i := by unfold relE Rp at rv; exact rv
        subst rv
        refine ⟨i, rfl, fun hi => ?_, fun hi => ?_⟩
        · rw [if_pos hi] at p3
          exact p3 _ H3 Hf3 (Same.refl _) r3 (rp_bool _)
        · rw [if_neg (by simp [hi])] at p3
          split at p3
          · exact p3.elim
          · refine ⟨r3.fz _ _ (s3 _ _ g1), r3.fz.seq (s3.seq sq), Same.sqT r3.fz (Same.sqT s3 sqt), ?_⟩
            have p4 := asBool_post p3
            refine fsp_noE hne (call_core (vs := [.ref xa, .ref q]) (as := [.im d1, .im (.tuple ds)]) r3 ⟨.im d1, [.im (.tuple ds)], rfl, Rp.mono s3 _ _ rx2, .im (.tuple ds), [], rfl, Rp.mono s3 _ _ rdb, rfl⟩ ?_)
            refine post_bnd (f := ret) (rel2 := relE C.T) (Q := fun v H' => ∃ r, v = .bl r ∧ Q (.bl r) H') ?_ fun v z H4 Hf4 ρ4 s4 r4 rv p5 => ?_
            · have : bnd (callM F [.im d1, .im (.tuple ds)]) ret ρ3 = callM F [.im d1, .im (.tuple ds)] ρ3 := by
                unfold bnd; cases callM F [.im d1, .im (.tuple ds)] ρ3 <;> rfl
              rw [this]
              simpa using p4
            · obtain ⟨r, e, q'⟩ := p5 v H4 Hf4 (Same.refl _) r4 rv
              exact ⟨r, e, r4.fz.seq (s4.seq (s3.seq sq)), q'⟩
      | none => exact p3.elim
      | int b => exact p3.elim
      | str b => exact p3.elim
      | list b => exact p3.elim
      | tuple b => exact p3.elim
      | dict b => exact p3.elim
  | none => cases h3
  | bool b => cases h3
  | int b => cases h3
  | str b => cases h3
  | list b => cases h3
  | dict b => cases h3
theorem de_inO {c : Str} {k : Nat} {F : List Sl → Res D} (S : Sc C n) (h : HasE C.T c k F) (hk : k + 1 ≤ n.lv) (hne : ∀ args e r, F args ≠ .ex e r) (ha : DE C a ma) (hb : DE C b mb) : DE C (.Compare a [.In] [b] pos) (inO c F ma mb) := by
  obtain ⟨K0, f, fd, ps, hm, hme, hf, hbi, _, ht, _⟩ := h.ex
  exact ⟨PE.imp (pe_cmpR (op_inO hme hf (S.room.mono hk) hbi ht) ha.pe hb.pe (mark_ok hb.ok)) (lft_inO hm hne), rfl⟩
theorem dt_inO {c : Str} {k : Nat} {F : List Sl → Res D} (S : Sc C n) (h : HasE C.T c k F) (hk : k + 1 ≤ n.lv) (hne : ∀ args e r, F args ≠ .ex e r) (ha : DE C a ma) (hb : DE C b mb) : DT C (.Compare a [.In] [b] pos) (asB (inO c F ma mb)) := by
  obtain ⟨K0, f, fd, ps, hm, hme, hf, hbi, _, ht, _⟩ := h.ex
  exact ⟨PT.imp (pt_cmpR (op_inO hme hf (S.room.mono hk) hbi ht) ha.pe hb.pe (mark_ok hb.ok)) (lft_asB (lft_inO hm hne))⟩
end
end DS
/-! isinstance of an own class; str of ints and of instances; f-strings. -/
namespace DS
open PySem L2
/-- an own class that isinstance is asked of -/
structure IsO (T : Wd) (c : Str) : Prop where
  ex : ∃ K0, T.mg c = some (.ref K0) ∧ Cls T.K K0 ∧ PySem.W.findIn T.K (.ref K0) "__class__" = some (some (.builtin "object.__class__")) ∧ PySem.W.specialIn T.K (.builtin "object.__class__") "__get__" = some (some (.builtin "getset_descriptor.__get__")) ∧
    PySem.W.takesIn T.K (.builtin "object.__class__") = some true ∧ PySem.W.mroIn T.K K0 (.type "object") = some true ∧ PySem.W.typeIn T.K (.ref K0) = some (.type "type") ∧ PySem.W.subIn T.K (.type "tuple") (.ref K0) = some false
def isoD (c : Str) (d : D) : Option D := if insB c d = true then some (.bool true) else if isTup d = true then some (.bool false) else none
theorem isoD_ins (c : Str) (r : List (D × D)) : isoD c (.dict ((.str c, .none) :: r)) = some (.bool true) := by
  unfold isoD
  rw [insB_eq, if_pos (by simp)]
theorem isoD_tup (c : Str) (ds : List D) : isoD c (.tuple ds) = some (.bool false) := rfl
section
variable {C : DC} {n : Nm} {pos : Pos} {a b : Expr} {ma mb : M D}
theorem de_iso {x : Str} {p p' : Pos} (S : Sc C n) (j k : Nat) (hj : n.bs[j]? = some ("isinstance" : Str)) (hk : n.gs[k]? = some x) (h : IsO C.T x) (ha : DE C a ma) : DE C (.Call (.Name "isinstance" p) [a, .Name x p'] [] pos) (c1 (isoD x) ma) := by
  obtain ⟨K0, hc, cl, h1, h2, h3, h4, h5, h6⟩ := h.ex
  have cls : (PySem.W.clsIn C.X.K K0).isSome = true := by
    unfold PySem.W.mroIn at h4
    obtain ⟨cd, e, _⟩ := Option.bind_eq_some_iff.mp h4
    show (PySem.W.clsIn C.T.K K0).isSome = true
    rw [e]; rfl
  refine ⟨PE.imp (pe_callB call_isi (S.bl hj).1 (S.bl hj).2 (by decide +kernel) (pa_cons ha.pe (pa_cons (pe_glob (v := .ref K0) (S.gl hk).1 hc rfl (plB_d (S.gl hk).2).1) pa_nil rfl) (star_ok ha.ok _ _)) (by decide) (by decide) (star_ok ha.ok _ _) rfl) fun σ H Q ⟨Hf, G, ρ, rr, h⟩ => ?_, rfl⟩
  refine post_bind rr h fun v d H1 Hf1 ρ1 s1 r1 rx p1 => ?_
  obtain ⟨d', e, q⟩ := opt_post p1
  unfold isoD at e
  split at e
  · rename_i hi
    cases e
    obtain ⟨f1, e1⟩ := Option.isSome_iff_exists.mp hi
    obtain ⟨q', K1, dx, fs, rfl, g1, g2, _⟩ := rp_ins rx e1
    rw [show C.T.mg x = some (.ref K0) from hc] at g2
    cases g2
    exact ⟨_, .ref K0, .ref K0, .ref K0, true, rfl, .own K0, .base (.ins (r1.fz _ _ g1) cl h1 h2 h3 h4), by unfold PySem.W.kitOne; rw [if_pos (by simp)], q _ H1 Hf1 (Same.refl _) r1 (rp_bool _)⟩
  · split at e
    · rename_i ht
      cases e
      cases d with
      | tuple ds =>
        have rx : Rp C.T Hf1 (.tuple ds) v := rx
        simp only [Rp] at rx
        obtain ⟨b, xs, rfl, sq, _⟩ := rx
        refine ⟨_, .ref K0, .type "tuple", .ref K0, false, rfl, .own K0, sqt_ty (Same.sqT r1.fz sq), ?_, q _ H1 Hf1 (Same.refl _) r1 (rp_bool _)⟩
        unfold PySem.W.kitOne PySem.W.kitCls
        rw [if_neg (by simp)]
        dsimp only
        rw [if_pos (by rw [cls, show PySem.W.typeIn C.X.K (.ref K0) = _ from h5]; simp)]
        exact h6
      | _ => cases ht
    · cases e
end
/-! ### str(i) -/
def intT (i : Int) : Str := Str.ofString (toString i)
def strD : D → Option D
  | .int i => if i.natAbs.log2 < 1920 ∧ PyData.strOk (intT i) = true then some (.str (intT i)) else none
  | .str x => some (.str x)
  | _ => none
def stM (ma : M D) : M D := bnd ma fun d => match d with
  | .int i => opt (strD (.int i))
  | _ => stop
@[simp ↓] theorem stM_eq (ma : M D) (ρ : Rho) : stM ma ρ = (bnd ma fun d => match d with
  | .int i => opt (strD (.int i))
  | _ => stop) ρ := id rfl
section
variable {C : DC} {n : Nm} {pos : Pos} {a b : Expr} {ma mb : M D}
theorem de_str1 {p : Pos} (S : Sc C n) (j : Nat) (hj : n.bs[j]? = some ("str" : Str)) (ha : DE C a ma) : DE C (.Call (.Name "str" p) [a] [] pos) (stM ma) :=
  ⟨PE.imp (pe_callTy call_str_int (S.bl hj).1 (S.bl hj).2 (by decide +kernel) (pa_cons ha.pe pa_nil (star_ok ha.ok _ _)) (by decide) (by decide) (star_ok ha.ok _ _) rfl) fun σ H Q ⟨Hf, G, ρ, rr, h⟩ => post_bind rr h fun x d H1 Hf1 ρ1 s1 r1 rx p1 => (by
    cases d with
    | int i =>
      obtain ⟨z, e, q⟩ := opt_post p1
      unfold strD at e
      dsimp only at e
      split at e
      · rename_i hc
        cases e
        exact ⟨i, by rw [show x = _ by simpa only [relE, Rp] using rx], hc.1, q _ H1 Hf1 (Same.refl _) r1 (by unfold relE Rp; exact ⟨rfl, hc.2⟩)⟩
      · cases e
    | none => exact p1.elim
    | bool b => exact p1.elim
    | str b => exact p1.elim
    | list b => exact p1.elim
    | tuple b => exact p1.elim
    | dict b => exact p1.elim), rfl⟩
end
/-! ### str(o) -/
section
variable {X : Cx} {k : Nat} {f K0 : Addr} {fd : FuncData} {ps : List Str} {sp : Sp}
def rStrO (K0 : Addr) (sp : Sp) : List V → Hp → VK → Prop := fun xs H Q => ∃ a dx fs, xs = [.ref a] ∧ H a = some (.ins K0 dx fs) ∧ sp [.ref a] H (fun v H' => ∃ y : Str, v = .str y ∧ Q (.str y) H') E0
theorem call_strO (hm : Meth X.K K0 "__str__" f) (F : FnOk X.prog X.w X.K X.mg X.base (L2.CX X.prog X.w) k f fd ps sp) (hr : Room (k + 2) X.A) (hb : Binds X.K fd ps []) : CallR X (.type "str") (rStrO K0 sp) := by
  rintro pins s σ H xs us Q I r ⟨a, dx, fs, rfl, ea, h⟩
  rw [Vals.ref1 r]
  obtain ⟨mA, J, _⟩ := ins_get I.hok ea
  obtain ⟨od, J, _⟩ := J.look
  have r2 : Room k X.A.in1.in1 := hr.in1.in1
  refine PySem.W.kso_call (by have := r2.un; omega) I.kIn J hm.at_ hm.fn (wpAny_mono (run_at (A := X.A.in1.in1) (us := [.ref a]) (vs := [.ref a]) rfl F r2 hb I (.cons rfl .nil) h) (fun w s' h => ?_) fun _ _ e => e)
  obtain ⟨z, H', I', rz, y, rfl, qq⟩ := h
  obtain ⟨t, rfl⟩ := rz
  exact ⟨.str y, H', I', ⟨t, rfl⟩, qq⟩
end
def strO (c : Str) (F : List Sl → Res D) (ma : M D) : M D := bnd ma fun x => if insB c x = true then bnd (callM F [.im x]) fun y => match y with
    | .str z => ret (.str z)
    | _ => stop
  else stop
@[simp ↓] theorem strO_eq (c : Str) (F : List Sl → Res D) (ma : M D) (ρ : Rho) : strO c F ma ρ = (bnd ma fun x => if insB c x = true then bnd (callM F [.im x]) fun y => match y with
    | .str z => ret (.str z)
    | _ => stop
  else stop) ρ := id rfl
section
variable {C : DC} {n : Nm} {pos : Pos} {a : Expr} {ma : M D}
theorem de_strO {c : Str} {p : Pos} {k : Nat} {F : List Sl → Res D} (S : Sc C n) (j : Nat) (hj : n.bs[j]? = some ("str" : Str)) (h : HasM C.T c "__str__" k F) (hk : k + 2 ≤ n.lv) (hne : ∀ args e r, F args ≠ .ex e r) (ha : DE C a ma) : DE C (.Call (.Name "str" p) [a] [] pos) (strO c F ma) := by
  obtain ⟨K0, f, fd, ps, hm, hc, hme, hf, hb⟩ := h.ex
  refine ⟨PE.imp (pe_callTy (call_strO hme hf (S.room.mono hk) hb) (S.bl hj).1 (S.bl hj).2 (by decide +kernel) (pa_cons ha.pe pa_nil (star_ok ha.ok _ _)) (by decide) (by decide) (star_ok ha.ok _ _) rfl) fun σ H Q ⟨Hf, G, ρ, rr, h⟩ => post_bind rr h fun x d H1 Hf1 ρ1 s1 r1 rx p1 => ?_, rfl⟩
  by_cases hi : insB c d = true
  case neg => rw [if_neg hi] at p1; exact p1.elim
  rw [if_pos hi] at p1
  obtain ⟨f1, e1⟩ := Option.isSome_iff_exists.mp hi
  obtain ⟨q, K1, dx, fs, rfl, h1, h2, h3, _⟩ := rp_ins rx e1
  rw [show C.T.mg c = some (.ref K0) from hm] at h2
  cases h2
  refine ⟨q, dx, fs, rfl, r1.fz _ _ h1, ?_⟩
  refine fsp_noE hne (call_core (vs := [.ref q]) (as := [.im d]) r1 ⟨.im d, [], rfl, rx, rfl⟩ (post_bnd p1 fun v z H3 Hf3 ρ3 s3 r3 rv p3 => ?_))
  cases z with
  | str y =>
    have rv' : Rp C.T Hf3 (.str y) v := rv
    unfold Rp at rv'
    exact ⟨y, rv'.1, p3 _ H3 Hf3 (Same.refl _) r3 (by rw [rv'.1] at rv; exact rv)⟩
  | none => exact p3.elim
  | bool b => exact p3.elim
  | int b => exact p3.elim
  | list b => exact p3.elim
  | tuple b => exact p3.elim
  | dict b => exact p3.elim
end
/-! ### f-strings -/
def fmtD : D → Option D
  | .int i => if i.natAbs.log2 < 1920 ∧ PyData.strOk (intT i) = true then some (.str (intT i)) else none
  | .str x => if x.length ≤ sizeLine then some (.str x) else none
  | _ => none
section
variable {C : DC} {n : Nm} {pos : Pos} {a : Expr} {ma : M D}
theorem de_fmt (ha : DE C a ma) : DE C (.FormattedValue a (-1) none pos) (c1 fmtD ma) :=
  ⟨PE.imp (pe_fmt ha.pe) fun σ H Q ⟨Hf, G, ρ, rr, h⟩ => post_bind rr h fun x d H1 Hf1 ρ1 s1 r1 rx p1 => (by
    obtain ⟨z, e, q⟩ := opt_post p1
    unfold fmtD at e
    split at e
    · split at e
      · rename_i i hc
        cases e
        exact .inr ⟨i, by simpa only [relE, Rp] using rx, hc.1, q _ H1 Hf1 (Same.refl _) r1 (by unfold relE Rp; exact ⟨rfl, hc.2⟩)⟩
      · cases e
    · split at e
      · rename_i y hc
        cases e
        have rx' : Rp C.T Hf1 (.str y) x := rx
        unfold Rp at rx'
        exact .inl ⟨y, rx'.1, hc, q _ H1 Hf1 (Same.refl _) r1 (by unfold relE Rp; exact ⟨rfl, rx'.2⟩)⟩
      · cases e
    · cases e), rfl⟩
/-- the parts of an f-string -/
inductive DJ (C : DC) : List Expr → List (M D) → Prop where
  | nil : DJ C [] []
  | cons {e : Expr} {m : M D} {es : List Expr} {ms : List (M D)} (h : DE C e m) (r : DJ C es ms) : DJ C (e :: es) (m :: ms)
def fsM : List (M D) → Str → M D
  | [], acc => if PyData.strOk acc = true then ret (.str acc) else stop
  | m :: ms, acc => bnd m fun d => match d with
    | .str y => if (acc ++ y).length ≤ sizeLine then fsM ms (acc ++ y) else stop
    | _ => stop
theorem dj_pj {es : List Expr} {ms : List (M D)} (h : DJ C es ms) : PJ C.X es (ms.map fun m => Lft C (relE C.T) m) := by
  induction h with
  | nil => exact .nil
  | cons h r ih => exact .cons h.pe ih
theorem lft_fs : ∀ (ms : List (M D)) (acc : Str) (σ : St) (H : Hp) (Q : VK), Lft C (relE C.T) (fsM ms acc) σ H Q → tJs (ms.map fun m => Lft C (relE C.T) m) acc σ H fun out H1 => Q (.str out) H1
  | [], acc, σ, H, Q, ⟨Hf, G, ρ, rr, h⟩ => by
    unfold fsM at h
    split at h
    · rename_i hs
      exact h _ H Hf (Same.refl _) rr (by unfold relE Rp; exact ⟨rfl, hs⟩)
    · exact h.elim
  | m :: ms, acc, σ, H, Q, ⟨Hf, G, ρ, rr, h⟩ => by
    refine post_bind rr h fun x d H1 Hf1 ρ1 s1 r1 rx p1 => ?_
    cases d with
    | str y =>
      have rx' : Rp C.T Hf1 (.str y) x := rx
      unfold Rp at rx'
      dsimp only at p1
      split at p1
      · rename_i hl
        exact ⟨y, rx'.1, hl, lft_fs ms (acc ++ y) σ H1 Q ⟨Hf1, G, ρ1, r1, p1⟩⟩
      · exact p1.elim
    | none => exact p1.elim
    | bool b => exact p1.elim
    | int b => exact p1.elim
    | list b => exact p1.elim
    | tuple b => exact p1.elim
    | dict b => exact p1.elim
theorem de_joined {v1 v2 : Expr} {rest : List Expr} {ms : List (M D)} (h : DJ C (v1 :: v2 :: rest) ms) : DE C (.JoinedStr (v1 :: v2 :: rest) pos) (fsM ms Str.empty) :=
  ⟨PE.imp (pe_joined (dj_pj h)) (lft_fs ms Str.empty), rfl⟩
end
/-! ### x in range(b) -/
theorem cr_range1 {X : Cx} : CallR X (.type "range") (fun vs H Q => ∃ j, vs = [V.int j] ∧ ∀ p, H p = none → Q (.ref p) (upd H p (.rng 0 j))) := by
  intro pins s σ H vs us Q I r h
  obtain ⟨j, rfl, q⟩ := h
  obtain ⟨u1, rfl, rj⟩ := vals1 r
  obtain ⟨u, rfl⟩ := rj
  refine call_range_1 ⟨.ref s.heap.objs.size, upd H s.heap.objs.size (.rng 0 j), I.laid (t' := s.toks + 1 + 1) (fun b o e => Heap.get?_push_of_some _ e) (Nat.le_refl _) ?_, rfl, q _ (I.hok.fresh (Nat.le_refl _))⟩
  exact ⟨s.toks, u, s.toks + 1, Heap.get?_push_size _ rfl⟩
section
variable {C : DC} {n : Nm} {pos p px : Pos} {e b : Expr} {me mb : M D}
theorem lft_rgIn1 {neg : Bool} : ∀ σ H Q, Lft C (relE C.T) (rgIn neg me (ret (.int 0)) mb) σ H Q →
    tOp (fun x y H Q => ∃ i a lo hi, x = V.int i ∧ y = V.ref a ∧ H a = some (.rng lo hi) ∧ Q (.bl (if neg then !decide (lo ≤ i ∧ i < hi) else decide (lo ≤ i ∧ i < hi))) H) (Lft C (relE C.T) me)
      (tCB (fun vs H Q => ∃ j, vs = [V.int j] ∧ ∀ p, H p = none → Q (.ref p) (upd H p (.rng 0 j))) (tCons (Lft C (relE C.T) mb) tNil)) σ H Q := fun σ H Q ⟨Hf, G, ρ, rr, h⟩ => by
  refine post_bind rr h fun x d H1 Hf1 ρ1 s1 r1 rx p1 => ?_
  have p1 : Post C (relE C.T) Hf1 G σ Q (bnd mb (fun j => match (generalizing := false) d, PyData.int 0, j with
    | .int x, .int i, .int j => ret (.bool (if neg then !decide (i ≤ x ∧ x < j) else decide (i ≤ x ∧ x < j)))
    | _, _, _ => stop) ρ1) := p1
  refine post_bind r1 p1 fun z d3 H3 Hf3 ρ3 s3 r3 rz p3 => ?_
  cases d with
  | int i =>
    cases d3 with
    | int k =>
      have e1 : x = .int i := by simpa only [relE, Rp] using rx
      have e3 : z = .int k := by simpa only [relE, Rp] using rz
      subst e1 e3
      refine ⟨k, rfl, fun p hp => ⟨i, p, 0, k, rfl, rfl, upd_same, ?_⟩⟩
      exact p3 _ _ Hf3 (Same.refl _) (r3.grow (Same.updN hp)) (rp_bool _)
    | none => exact p3.elim
    | bool b => exact p3.elim
    | str b => exact p3.elim
    | list b => exact p3.elim
    | tuple b => exact p3.elim
    | dict b => exact p3.elim
  | none => cases d3 <;> exact p3.elim
  | bool b => cases d3 <;> exact p3.elim
  | str b => cases d3 <;> exact p3.elim
  | list b => cases d3 <;> exact p3.elim
  | tuple b => cases d3 <;> exact p3.elim
  | dict b => cases d3 <;> exact p3.elim
theorem de_inRg1 (S : Sc C n) (j : Nat) (hj : n.bs[j]? = some ("range" : Str)) (he : DE C e me) (hb : DE C b mb) : DE C (.Compare e [.In] [.Call (.Name "range" p) [b] [] px] pos) (rgIn false me (ret (.int 0)) mb) :=
  ⟨PE.imp (pe_cmpR op_in_rng he.pe (pe_callTy cr_range1 (S.bl hj).1 (S.bl hj).2 (by decide +kernel) (pa_cons hb.pe pa_nil (star_ok hb.ok _ _)) (by decide) (by decide) (star_ok hb.ok _ _) rfl) rfl) (lft_rgIn1 (neg := false)), rfl⟩
theorem de_ninRg1 (S : Sc C n) (j : Nat) (hj : n.bs[j]? = some ("range" : Str)) (he : DE C e me) (hb : DE C b mb) : DE C (.Compare e [.NotIn] [.Call (.Name "range" p) [b] [] px] pos) (rgIn true me (ret (.int 0)) mb) :=
  ⟨PE.imp (pe_cmpR op_notin_rng he.pe (pe_callTy cr_range1 (S.bl hj).1 (S.bl hj).2 (by decide +kernel) (pa_cons hb.pe pa_nil (star_ok hb.ok _ _)) (by decide) (by decide) (star_ok hb.ok _ _) rfl) rfl) (lft_rgIn1 (neg := true)), rfl⟩
theorem dt_inRg1 (S : Sc C n) (j : Nat) (hj : n.bs[j]? = some ("range" : Str)) (he : DE C e me) (hb : DE C b mb) : DT C (.Compare e [.In] [.Call (.Name "range" p) [b] [] px] pos) (asB (rgIn false me (ret (.int 0)) mb)) :=
  ⟨PT.imp (pt_cmpR op_in_rng he.pe (pe_callTy cr_range1 (S.bl hj).1 (S.bl hj).2 (by decide +kernel) (pa_cons hb.pe pa_nil (star_ok hb.ok _ _)) (by decide) (by decide) (star_ok hb.ok _ _) rfl) rfl) (lft_asB (lft_rgIn1 (neg := false)))⟩
theorem dt_ninRg1 (S : Sc C n) (j : Nat) (hj : n.bs[j]? = some ("range" : Str)) (he : DE C e me) (hb : DE C b mb) : DT C (.Compare e [.NotIn] [.Call (.Name "range" p) [b] [] px] pos) (asB (rgIn true me (ret (.int 0)) mb)) :=
  ⟨PT.imp (pt_cmpR op_notin_rng he.pe (pe_callTy cr_range1 (S.bl hj).1 (S.bl hj).2 (by decide +kernel) (pa_cons hb.pe pa_nil (star_ok hb.ok _ _)) (by decide) (by decide) (star_ok hb.ok _ _) rfl) rfl) (lft_asB (lft_rgIn1 (neg := true)))⟩
end
/-! ### for the end -/
theorem hasE_mk {T : Wd} {c : Str} {k : Nat} {F : List Sl → Res D} {o : Addr} (H : HasM T c "__eq__" k F) (g : T.mg c = some (.ref o)) (h1 : PySem.W.notFirst T.K o (.type "tuple") = true) (h2 : PySem.W.mroIn T.K o (.type "tuple") = some false) (h3 : PySem.W.mroIn T.K o (.type "object") = some true)
    (h4 : PySem.W.findIn T.K (.ref o) "__ne__" = some (some (.builtin "object.__ne__"))) : HasE T c k F := by
  obtain ⟨K0, f, fd, ps, hm, hc, hme, hf, hb⟩ := H.ex
  rw [g] at hm
  cases hm
  exact ⟨o, f, fd, ps, g, hme, hf, hb, h1, h2, h3, h4⟩
theorem isO_mk {T : Wd} {c : Str} {o : Addr} (g : T.mg c = some (.ref o)) (cl : Cls T.K o) (h1 : PySem.W.findIn T.K (.ref o) "__class__" = some (some (.builtin "object.__class__"))) (h2 : PySem.W.specialIn T.K (.builtin "object.__class__") "__get__" = some (some (.builtin "getset_descriptor.__get__")))
    (h3 : PySem.W.takesIn T.K (.builtin "object.__class__") = some true) (h4 : PySem.W.mroIn T.K o (.type "object") = some true) (h5 : PySem.W.typeIn T.K (.ref o) = some (.type "type")) (h6 : PySem.W.subIn T.K (.type "tuple") (.ref o) = some false) : IsO T c :=
  ⟨o, g, cl, h1, h2, h3, h4, h5, h6⟩
end DS
set_option maxHeartbeats 4000000
namespace K01
open PySem L2 DS
noncomputable section
def top (i : Nat) : Stmt := PySem.Challenge.pw_barsets_k01_refused_codes.main.body.getD i (.Pass ⟨0, 0, 0, 0⟩)
abbrev s_is_number : Stmt := top 17
def m_is_number : M DS.Flow :=
  (rtM (andV (c1 (isiD .int) (pk 0)) (andV (notV (c1 (isiD .bool) (pk 0))) (chM leD leD (rd 1) (rd 0) (pk 2)))))
def F_is_number : List Sl → Res D := runF 3 3 [] m_is_number
def n_is_number : Nm := ⟨["thing", "least", "most"], [0, 1, 2], [], [], ["isinstance", "int", "bool"], ["isinstance", "int", "bool"], [], [], [], 0, fun T => True, true⟩
theorem sc_is_number : FnScope n_is_number.N ["thing", "least", "most"] (defScope s_is_number) := ⟨rfl, rfl, rfl, by decide +kernel, rfl, by decide +kernel, by decide +kernel⟩
theorem ck_is_number : scB n_is_number (defScope s_is_number) = true := by decide +kernel
theorem d_is_number (C : DC) (S : Sc C n_is_number) (L : LkSc C (defScope s_is_number)) : DSs C (defBody s_is_number) m_is_number :=
  (dss_one (ds_ret (de_and (de_isi .int S 0 1 rfl rfl rfl (dk_var S 0 (by decide) rfl)) (de_and (de_not (de_isi .bool S 0 2 rfl rfl rfl (dk_var S 0 (by decide) rfl))) (de_one (de_ch o_le o_le (de_var S 1 (by decide) rfl) (de_var S 0 (by decide) rfl) (dk_var S 2 (by decide) rfl)))))))
abbrev s_is_signs : Stmt := top 18
def e_is_signs_1 : M D := (chM leD leD (ret (.str "!")) (rd 3) (ret (.str "~")))
def m_is_signs : M DS.Flow :=
  (rtM (andV (c1 (isiD .str) (pk 0)) (andV (chM leD leD (rd 1) (c1 lenD (pk 0)) (pk 2)) (c1 allD (frzM (lcM [3] (itM (rd 0)) (st 3) (ret true) e_is_signs_1))))))
def F_is_signs : List Sl → Res D := runF 3 4 [] m_is_signs
def n_is_signs : Nm := ⟨["thing", "least", "most", "sign"], [0, 1, 2], [], [], ["isinstance", "str", "len", "all"], ["isinstance", "str", "len", "all"], [], [], [], 0, fun T => True, true⟩
theorem sc_is_signs : FnScope n_is_signs.N ["thing", "least", "most"] (defScope s_is_signs) := ⟨rfl, rfl, rfl, by decide +kernel, rfl, by decide +kernel, by decide +kernel⟩
theorem ck_is_signs : scB n_is_signs (defScope s_is_signs) = true := by decide +kernel
theorem d_is_signs (C : DC) (S : Sc C n_is_signs) (L : LkSc C (defScope s_is_signs)) : DSs C (defBody s_is_signs) m_is_signs :=
  (dss_one (ds_ret (de_and (de_isi .str S 0 1 rfl rfl rfl (dk_var S 0 (by decide) rfl)) (de_and (de_ch o_le o_le (de_var S 1 (by decide) rfl) (de_len S 2 rfl (dk_var S 0 (by decide) rfl)) (dk_var S 2 (by decide) rfl)) (de_one (de_all S 3 rfl (DE.k (DF.e (df_lc S L (own := [("sign", 3)]) (vs := [3]) (gs := []) (bs := []) (by decide +kernel) (di_seq (de_var S 0 (by decide) rfl)) (fun CS' S' L' => (dg_name S' 3 (by decide) rfl)) (fun CS' S' L' => dts_nil) (fun CS' S' L' => (de_ch o_le o_le (de_str (by decide +kernel)) (de_var S' 3 (by decide) rfl) (DE.k (de_str (by decide +kernel))))) (by decide))))))))))
abbrev s_is_meaning : Stmt := top 19
def m_is_meaning : M DS.Flow :=
  (sq (ifM (asB (c1 (isiD .tuple) (pk 0))) (sq (ifM (orB (asB (bin neD (c1 lenD (pk 0)) (ret (.int 2)))) (orB (notB (asB (c1 (isiD .str) (binN ixD 0 (ret (.int 0)))))) (notB (asB (bnd (vim (binN ixD 0 (ret (.int 1))) (vim (ret (.int 0)) (vim (binN subD 1 (ret (.int 1))) (ret [])))) (callM F_is_number)))))) (rtM (ret (.bool false))) (ret .nx))
  (rtM (bin inD (binN ixD 0 (ret (.int 0))) (tupM (consM (ret (.str "to")) (consM (ret (.str "once")) (ret []))))))) (ret .nx))
  (rtM (orV (binN isD 0 (ret .none)) (bnd (vim (rd 0) (vim (ret (.int 1)) (vim (ret (.int 3)) (ret [])))) (callM F_is_signs)))))
def F_is_meaning : List Sl → Res D := runF 2 2 [] m_is_meaning
def n_is_meaning : Nm := ⟨["thing", "modes"], [0, 1], [], ["is_number", "is_signs"], ["isinstance", "tuple", "len", "str"], ["isinstance", "tuple", "len", "str"], [], [], [], 1, fun T => Has T "is_number" 1 F_is_number ∧ Has T "is_signs" 1 F_is_signs, true⟩
theorem sc_is_meaning : FnScope n_is_meaning.N ["thing", "modes"] (defScope s_is_meaning) := ⟨rfl, rfl, rfl, by decide +kernel, rfl, by decide +kernel, by decide +kernel⟩
theorem ck_is_meaning : scB n_is_meaning (defScope s_is_meaning) = true := by decide +kernel
theorem d_is_meaning (C : DC) (S : Sc C n_is_meaning) (L : LkSc C (defScope s_is_meaning)) : DSs C (defBody s_is_meaning) m_is_meaning :=
  (dss_cons (ds_if (dt_val (de_isi .tuple S 0 1 rfl rfl rfl (dk_var S 0 (by decide) rfl)) rfl) (dss_cons (ds_if (DW.t (dw_or (dt_cmp (o_ne S) (de_len S 2 rfl (dk_var S 0 (by decide) rfl)) (DE.k de_int)) (dw_or (dt_not (dt_val (de_isi .str S 0 3 rfl rfl rfl (DE.k (de_ixN S 0 (by decide) rfl (DE.k de_int)))) rfl)) (dw_or1 (dt_not (dt_val (de_call S 0 rfl S.fs.1 (by decide) runF_ne (dv_im (de_ixN S 0 (by decide) rfl (DE.k de_int)) (dv_im de_int (dv_im (de_binN S o_sub 1 (by decide) rfl (DE.k de_int)) dv_nil)))) rfl)))))) (dss_one (ds_ret de_bl)) dss_nil)
  (dss_one (ds_ret (de_cmp (o_in S) (de_ixN S 0 (by decide) rfl (DE.k de_int)) (DE.k (de_tup (da_cons (de_str (by decide +kernel)) (da_cons (de_str (by decide +kernel)) da_nil)))))))) dss_nil)
  (dss_one (ds_ret (de_or (de_cmpN S o_is 0 (by decide) rfl (DE.k de_non)) (de_one (de_call S 1 rfl S.fs.2 (by decide) runF_ne (dv_im (de_var S 0 (by decide) rfl) (dv_im de_int (dv_im de_int dv_nil)))))))))
abbrev s_is_modes : Stmt := top 20
def e_is_modes_1 : M D := (bnd (vim (rd 2) (vim (c1 lenD (pk 0)) (ret []))) (callM F_is_meaning))
def b_is_modes_2 : M DS.Flow := (sq (ifM (orB (notB (asB (c1 (isiD .tuple) (pk 1)))) (orB (notB (asB (chM leD leD (ret (.int 2)) (c1 lenD (pk 1)) (ret (.int 8))))) (asB (bin neD (c1 lenD (pk 1)) (c1 lenD (binN ixD 0 (ret (.int 0)))))))) (rtM (ret (.bool false))) (ret .nx))
  (ifM (notB (asB (c1 allD (frzM (lcM [2] (itM (rd 1)) (st 2) (ret true) e_is_modes_1))))) (rtM (ret (.bool false))) (ret .nx)))
def m_is_modes : M DS.Flow :=
  (sq (ifM (orB (notB (asB (c1 (isiD .tuple) (pk 0)))) (notB (asB (chM leD leD (ret (.int 1)) (c1 lenD (pk 0)) (ret (.int 4)))))) (rtM (ret (.bool false))) (ret .nx))
  (sq (forS (itM (rd 0)) (st 1) b_is_modes_2)
  (rtM (ret (.bool true)))))
def F_is_modes : List Sl → Res D := runF 1 3 [] m_is_modes
def n_is_modes : Nm := ⟨["thing", "one", "meaning"], [0, 1], [1], [], ["isinstance", "tuple", "len", "all"], ["isinstance", "tuple", "len", "all"], [], [], [], 2, fun T => Has T "is_meaning" 2 F_is_meaning, true⟩
theorem sc_is_modes : FnScope n_is_modes.N ["thing"] (defScope s_is_modes) := ⟨rfl, rfl, rfl, by decide +kernel, rfl, by decide +kernel, by decide +kernel⟩
theorem ck_is_modes : scB n_is_modes (defScope s_is_modes) = true := by decide +kernel
theorem d_is_modes (C : DC) (S : Sc C n_is_modes) (L : LkSc C (defScope s_is_modes)) : DSs C (defBody s_is_modes) m_is_modes :=
  (dss_cons (ds_if (DW.t (dw_or (dt_not (dt_val (de_isi .tuple S 0 1 rfl rfl rfl (dk_var S 0 (by decide) rfl)) rfl)) (dw_or1 (dt_not (dt_ch o_le o_le de_int (de_len S 2 rfl (dk_var S 0 (by decide) rfl)) (DE.k de_int)))))) (dss_one (ds_ret de_bl)) dss_nil)
  (dss_cons (ds_for S (di_seq (de_var S 0 (by decide) rfl)) (dg_name S 1 (by decide) rfl) (dss_cons (ds_if (DW.t (dw_or (dt_not (dt_val (de_isi .tuple S 0 1 rfl rfl rfl (dk_var S 1 (by decide) rfl)) rfl)) (dw_or (dt_not (dt_ch o_le o_le de_int (de_len S 2 rfl (dk_var S 1 (by decide) rfl)) (DE.k de_int))) (dw_or1 (dt_cmp (o_ne S) (de_len S 2 rfl (dk_var S 1 (by decide) rfl)) (DE.k (de_len S 2 rfl (DE.k (de_ixN S 0 (by decide) rfl (DE.k de_int)))))))))) (dss_one (ds_ret de_bl)) dss_nil)
  (dss_one (ds_if (dt_not (dt_val (de_all S 3 rfl (DE.k (DF.e (df_lc S L (own := [("meaning", 2)]) (vs := [0, 2]) (gs := ["is_meaning"]) (bs := ["len"]) (by decide +kernel) (di_seq (de_var S 1 (by decide) rfl)) (fun CS' S' L' => (dg_name S' 2 (by decide) rfl)) (fun CS' S' L' => dts_nil) (fun CS' S' L' => (de_call S' 0 rfl S'.fs (by decide) runF_ne (dv_im (de_var S' 2 (by decide) rfl) (dv_im (de_len S' 0 rfl (dk_var S' 0 (by decide) rfl)) dv_nil)))) (by decide))))) rfl)) (dss_one (ds_ret de_bl)) dss_nil))))
  (dss_one (ds_ret de_bl))))
abbrev s_is_row : Stmt := top 21
def e_is_row_1 : M D := (bnd (vim (rd 2) (vim (ret (.int 0)) (vim (binN subD 1 (ret (.int 1))) (ret [])))) (callM F_is_number))
def m_is_row : M DS.Flow :=
  (rtM (andV (c1 (isiD .list) (pk 0)) (andV (bin leD (c1 lenD (pk 0)) (ret (.int 300))) (c1 allD (frzM (lcM [2] (itM (rd 0)) (st 2) (ret true) e_is_row_1))))))
def F_is_row : List Sl → Res D := runF 2 3 [] m_is_row
def n_is_row : Nm := ⟨["thing", "many", "one"], [0, 1], [], ["MOST_ROW"], ["isinstance", "list", "len", "all"], ["isinstance", "list", "len", "all"], [], [], [], 1, fun T => Cn T "MOST_ROW" (.int 300) ∧ Has T "is_number" 1 F_is_number, true⟩
theorem sc_is_row : FnScope n_is_row.N ["thing", "many"] (defScope s_is_row) := ⟨rfl, rfl, rfl, by decide +kernel, rfl, by decide +kernel, by decide +kernel⟩
theorem ck_is_row : scB n_is_row (defScope s_is_row) = true := by decide +kernel
theorem d_is_row (C : DC) (S : Sc C n_is_row) (L : LkSc C (defScope s_is_row)) : DSs C (defBody s_is_row) m_is_row :=
  (dss_one (ds_ret (de_and (de_isi .list S 0 1 rfl rfl rfl (dk_var S 0 (by decide) rfl)) (de_and (de_cmp o_le (de_len S 2 rfl (dk_var S 0 (by decide) rfl)) (DE.k (de_glob S 0 rfl S.fs.1))) (de_one (de_all S 3 rfl (DE.k (DF.e (df_lc S L (own := [("one", 2)]) (vs := [1, 2]) (gs := ["is_number"]) (bs := []) (by decide +kernel) (di_seq (de_var S 0 (by decide) rfl)) (fun CS' S' L' => (dg_name S' 2 (by decide) rfl)) (fun CS' S' L' => dts_nil) (fun CS' S' L' => (de_call S' 0 rfl S'.fs.2 (by decide) runF_ne (dv_im (de_var S' 2 (by decide) rfl) (dv_im de_int (dv_im (de_binN S' o_sub 1 (by decide) rfl (DE.k de_int)) dv_nil))))) (by decide))))))))))
abbrev s_Code_init : Stmt := inClass (top 22) 0
def m_Code_init : M DS.Flow :=
  (sq (ifM (notB (asB (bnd (vim (rd 1) (ret [])) (callM F_is_modes)))) (raM "BadCode") (ret .nx))
  (sfF 0 "Code" "table" (rd 1)))
def F_Code_init : List Sl → Res D := runX 2 2 [0] m_Code_init
def n_Code_init : Nm := ⟨["self", "modes"], [0, 1], [], ["is_modes", "BadCode"], [], [], [0], [], [], 3, fun T => Has T "is_modes" 3 F_is_modes ∧ XCls T "BadCode" ∧ OCls T "Code" ["table"], true⟩
theorem sc_Code_init : FnScope n_Code_init.N ["self", "modes"] (defScope s_Code_init) := ⟨rfl, rfl, rfl, by decide +kernel, rfl, by decide +kernel, by decide +kernel⟩
theorem ck_Code_init : scB n_Code_init (defScope s_Code_init) = true := by decide +kernel
theorem d_Code_init (C : DC) (S : Sc C n_Code_init) (L : LkSc C (defScope s_Code_init)) : DSs C (defBody s_Code_init) m_Code_init :=
  (dss_cons (ds_if (dt_not (dt_val (de_call S 0 rfl S.fs.1 (by decide) runF_ne (dv_im (de_var S 1 (by decide) rfl) dv_nil)) rfl)) (dss_one (ds_raise S 1 rfl S.fs.2.1)) dss_nil)
  (dss_one (ds_sfld S 0 (by decide) rfl S.fs.2.2 (by decide) (de_var S 1 (by decide) rfl) rfl)))
abbrev s_Code_len : Stmt := inClass (top 22) 1
def m_Code_len : M DS.Flow :=
  (rtM (c1 lenD (bin ixD (c1 (fldD "Code" "table") (rd 0)) (ret (.int 0)))))
def F_Code_len : List Sl → Res D := runF 1 1 [] m_Code_len
def n_Code_len : Nm := ⟨["self"], [0], [], [], ["len"], ["len"], [], [], [], 0, fun T => OCls T "Code" ["table"], true⟩
theorem sc_Code_len : FnScope n_Code_len.N ["self"] (defScope s_Code_len) := ⟨rfl, rfl, rfl, by decide +kernel, rfl, by decide +kernel, by decide +kernel⟩
theorem ck_Code_len : scB n_Code_len (defScope s_Code_len) = true := by decide +kernel
theorem d_Code_len (C : DC) (S : Sc C n_Code_len) (L : LkSc C (defScope s_Code_len)) : DSs C (defBody s_Code_len) m_Code_len :=
  (dss_one (ds_ret (de_len S 0 rfl (DE.k (de_ix (de_fld S S.fs (by decide) rfl (de_var S 0 (by decide) rfl)) (DE.k de_int))))))
abbrev s_Code_eq : Stmt := inClass (top 22) 2
def m_Code_eq : M DS.Flow :=
  (rtM (andV (c1 (isoD "Code") (rd 1)) (bin eqD (c1 (fldD "Code" "table") (rd 0)) (c1 (fldD "Code" "table") (rd 1)))))
def F_Code_eq : List Sl → Res D := runF 2 2 [] m_Code_eq
def n_Code_eq : Nm := ⟨["self", "other"], [0, 1], [], ["Code"], ["isinstance"], ["isinstance"], [], [], [], 0, fun T => IsO T "Code" ∧ OCls T "Code" ["table"], true⟩
theorem sc_Code_eq : FnScope n_Code_eq.N ["self", "other"] (defScope s_Code_eq) := ⟨rfl, rfl, rfl, by decide +kernel, rfl, by decide +kernel, by decide +kernel⟩
theorem ck_Code_eq : scB n_Code_eq (defScope s_Code_eq) = true := by decide +kernel
theorem d_Code_eq (C : DC) (S : Sc C n_Code_eq) (L : LkSc C (defScope s_Code_eq)) : DSs C (defBody s_Code_eq) m_Code_eq :=
  (dss_one (ds_ret (de_and (de_iso S 0 0 rfl rfl S.fs.1 (de_var S 1 (by decide) rfl)) (de_one (de_cmp (o_eq S) (de_fld S S.fs.2 (by decide) rfl (de_var S 0 (by decide) rfl)) (DE.k (de_fld S S.fs.2 (by decide) rfl (de_var S 1 (by decide) rfl))))))))
abbrev s_Code_str : Stmt := inClass (top 22) 3
def m_Code_str : M DS.Flow :=
  (rtM (fsM [(c1 fmtD (c1 lenD (c1 (fldD "Code" "table") (rd 0)))), (ret (.str " modes, ")), (c1 fmtD (c1 lenD (bin ixD (c1 (fldD "Code" "table") (rd 0)) (ret (.int 0))))), (ret (.str " symbols"))] Str.empty))
def F_Code_str : List Sl → Res D := runF 1 1 [] m_Code_str
def n_Code_str : Nm := ⟨["self"], [0], [], [], ["len"], ["len"], [], [], [], 0, fun T => OCls T "Code" ["table"], true⟩
theorem sc_Code_str : FnScope n_Code_str.N ["self"] (defScope s_Code_str) := ⟨rfl, rfl, rfl, by decide +kernel, rfl, by decide +kernel, by decide +kernel⟩
theorem ck_Code_str : scB n_Code_str (defScope s_Code_str) = true := by decide +kernel
theorem d_Code_str (C : DC) (S : Sc C n_Code_str) (L : LkSc C (defScope s_Code_str)) : DSs C (defBody s_Code_str) m_Code_str :=
  (dss_one (ds_ret (de_joined (.cons (de_fmt (de_len S 0 rfl (DE.k (de_fld S S.fs (by decide) rfl (de_var S 0 (by decide) rfl))))) (.cons (de_str (by decide +kernel)) (.cons (de_fmt (de_len S 0 rfl (DE.k (de_ix (de_fld S S.fs (by decide) rfl (de_var S 0 (by decide) rfl)) (DE.k de_int))))) (.cons (de_str (by decide +kernel)) DJ.nil)))))))
abbrev s_Code_modes : Stmt := inClass (top 22) 4
def m_Code_modes : M DS.Flow :=
  (rtM (c1 (fldD "Code" "table") (rd 0)))
def F_Code_modes : List Sl → Res D := runF 1 1 [] m_Code_modes
def n_Code_modes : Nm := ⟨["self"], [0], [], [], [], [], [], [], [], 0, fun T => OCls T "Code" ["table"], true⟩
theorem sc_Code_modes : FnScope n_Code_modes.N ["self"] (defScope s_Code_modes) := ⟨rfl, rfl, rfl, by decide +kernel, rfl, by decide +kernel, by decide +kernel⟩
theorem ck_Code_modes : scB n_Code_modes (defScope s_Code_modes) = true := by decide +kernel
theorem d_Code_modes (C : DC) (S : Sc C n_Code_modes) (L : LkSc C (defScope s_Code_modes)) : DSs C (defBody s_Code_modes) m_Code_modes :=
  (dss_one (ds_ret (de_fld S S.fs (by decide) rfl (de_var S 0 (by decide) rfl))))
abbrev s_step : Stmt := top 23
def m_step : M DS.Flow :=
  (sq (asM (rd 1) (unT 2 (stC (st 3) (stC (st 4) stN))))
  (sq (asM (bin ixD (bin ixD (c1 (fldD "Code" "table") (rd 0)) (ifV (asB (binN isD 4 (ret .none))) (rd 3) (rd 4))) (pk 2)) (st 5))
  (sq (ifM (asB (binN isD 5 (ret .none))) (rtM (ret .none)) (ret .nx))
  (sq (ifM (asB (c1 (isiD .str) (pk 5))) (rtM (tupM (consM (rd 5) (consM (tupM (consM (rd 3) (consM (ret .none) (ret [])))) (ret []))))) (ret .nx))
  (sq (asM (rd 5) (unT 2 (stC (st 6) (stC (st 7) stN))))
  (rtM (tupM (consM (ret (.str "")) (consM (ifV (asB (binN eqD 6 (ret (.str "to")))) (tupM (consM (rd 7) (consM (ret .none) (ret [])))) (tupM (consM (rd 3) (consM (rd 7) (ret []))))) (ret []))))))))))
def F_step : List Sl → Res D := runF 3 8 [] m_step
def n_step : Nm := ⟨["code", "state", "symbol", "mode", "once", "meaning", "word", "other"], [0, 1, 2, 3, 4, 5, 6, 7], [3, 4, 5, 6, 7], [], ["isinstance", "str"], ["isinstance", "str"], [], [], [], 0, fun T => OCls T "Code" ["table"], true⟩
theorem sc_step : FnScope n_step.N ["code", "state", "symbol"] (defScope s_step) := ⟨rfl, rfl, rfl, by decide +kernel, rfl, by decide +kernel, by decide +kernel⟩
theorem ck_step : scB n_step (defScope s_step) = true := by decide +kernel
theorem d_step (C : DC) (S : Sc C n_step) (L : LkSc C (defScope s_step)) : DSs C (defBody s_step) m_step :=
  (dss_cons (ds_untup (dg_tup2 S (dg_name S 3 (by decide) rfl) (dg_name S 4 (by decide) rfl)) (de_var S 1 (by decide) rfl) rfl rfl)
  (dss_cons (ds_set S 5 (by decide) rfl (de_ix (de_ix (de_fld S S.fs (by decide) rfl (de_var S 0 (by decide) rfl)) (DE.k (de_if (dt_cmpN S o_is 4 (by decide) rfl (DE.k de_non)) (de_var S 3 (by decide) rfl) (de_var S 4 (by decide) rfl)))) (dk_var S 2 (by decide) rfl)) rfl)
  (dss_cons (ds_if (dt_cmpN S o_is 5 (by decide) rfl (DE.k de_non)) (dss_one (ds_ret de_non)) dss_nil)
  (dss_cons (ds_if (dt_val (de_isi .str S 0 1 rfl rfl rfl (dk_var S 5 (by decide) rfl)) rfl) (dss_one (ds_ret (de_tup (da_cons (de_var S 5 (by decide) rfl) (da_cons (de_tup (da_cons (de_var S 3 (by decide) rfl) (da_cons de_non da_nil))) da_nil))))) dss_nil)
  (dss_cons (ds_untup (dg_tup2 S (dg_name S 6 (by decide) rfl) (dg_name S 7 (by decide) rfl)) (de_var S 5 (by decide) rfl) rfl rfl)
  (dss_one (ds_ret (de_tup (da_cons (de_str (by decide +kernel)) (da_cons (de_if (dt_cmpN S (o_eq S) 6 (by decide) rfl (DE.k (de_str (by decide +kernel)))) (de_tup (da_cons (de_var S 7 (by decide) rfl) (da_cons de_non da_nil))) (de_tup (da_cons (de_var S 3 (by decide) rfl) (da_cons (de_var S 7 (by decide) rfl) da_nil)))) da_nil))))))))))
abbrev s_said : Stmt := top 24
def b_said_1 : M DS.Flow := (sq (asM (bnd (vim (rd 0) (vim (rd 2) (vim (rd 5) (ret [])))) (callM F_step)) (st 6))
  (sq (ifM (asB (binN isD 6 (ret .none))) (raI "NoMeaning" "at" (rd 4)) (ret .nx))
  (sq (apM 3 (binN ixD 6 (ret (.int 0))))
  (asM (binN ixD 6 (ret (.int 1))) (st 2)))))
def m_said : M DS.Flow :=
  (sq (asM (tupM (consM (ret (.int 0)) (consM (ret .none) (ret [])))) (st 2))
  (sq (soM (lstM (ret [])) 3)
  (sq (forS (enA (rd 1)) (unT 2 (stC (st 4) (stC (st 5) stN))) b_said_1)
  (sq (ifM (asB (bin isNotD (binN ixD 2 (ret (.int 1))) (ret .none))) (raI "NoMeaning" "at" (c1 lenD (pk 1))) (ret .nx))
  (rtM (joM (ret (.str "")) (pk 3)))))))
def F_said : List Sl → Res D := runX 2 7 [] m_said
def n_said : Nm := ⟨["code", "row", "state", "found", "at", "symbol", "told"], [0, 1, 2, 3, 4, 5, 6], [2, 3, 4, 5, 6], ["step", "NoMeaning"], ["enumerate", "len"], ["enumerate", "len"], [], [], [], 2, fun T => Has T "step" 1 F_step ∧ XIni T "NoMeaning" "at", true⟩
theorem sc_said : FnScope n_said.N ["code", "row"] (defScope s_said) := ⟨rfl, rfl, rfl, by decide +kernel, rfl, by decide +kernel, by decide +kernel⟩
theorem ck_said : scB n_said (defScope s_said) = true := by decide +kernel
theorem d_said (C : DC) (S : Sc C n_said) (L : LkSc C (defScope s_said)) : DSs C (defBody s_said) m_said :=
  (dss_cons (ds_set S 2 (by decide) rfl (de_tup (da_cons de_int (da_cons de_non da_nil))) rfl)
  (dss_cons (ds_setF S 3 (by decide) rfl (df_lst da_nil) rfl)
  (dss_cons (ds_for S (di_enA S 0 rfl (de_var S 1 (by decide) rfl)) (dg_tup2 S (dg_name S 4 (by decide) rfl) (dg_name S 5 (by decide) rfl)) (dss_cons (ds_set S 6 (by decide) rfl (de_call S 0 rfl S.fs.1 (by decide) runF_ne (dv_im (de_var S 0 (by decide) rfl) (dv_im (de_var S 2 (by decide) rfl) (dv_im (de_var S 5 (by decide) rfl) dv_nil)))) rfl)
  (dss_cons (ds_if (dt_cmpN S o_is 6 (by decide) rfl (DE.k de_non)) (dss_one (ds_raiseI S 1 rfl S.fs.2 (by decide) (de_var S 4 (by decide) rfl))) dss_nil)
  (dss_cons (ds_app S 3 (by decide) rfl (de_ixN S 6 (by decide) rfl (DE.k de_int)) rfl)
  (dss_one (ds_set S 2 (by decide) rfl (de_ixN S 6 (by decide) rfl (DE.k de_int)) rfl))))))
  (dss_cons (ds_if (dt_cmp o_isNot (de_ixN S 2 (by decide) rfl (DE.k de_int)) (DE.k de_non)) (dss_one (ds_raiseI S 1 rfl S.fs.2 (by decide) (de_len S 1 rfl (dk_var S 1 (by decide) rfl)))) dss_nil)
  (dss_one (ds_ret (de_join (de_str (by decide +kernel)) (dk_var S 3 (by decide) rfl) rfl rfl)))))))
abbrev s_Code_says : Stmt := inClass (top 22) 5
def m_Code_says : M DS.Flow :=
  (sq (ifM (notB (asB (bnd (vim (rd 1) (vim (lenO "Code" F_Code_len (rd 0)) (ret []))) (callM F_is_row)))) (raM "BadRow") (ret .nx))
  (rtM (bnd (vim (rd 0) (vim (rd 1) (ret []))) (callM F_said))))
def F_Code_says : List Sl → Res D := runX 2 2 [] m_Code_says
def n_Code_says : Nm := ⟨["self", "row"], [0, 1], [], ["is_row", "BadRow", "said"], ["len"], ["len"], [], [], [], 3, fun T => HasM T "Code" "__len__" 1 F_Code_len ∧ Has T "is_row" 2 F_is_row ∧ XCls T "BadRow" ∧ HasX T "said" 3 F_said, true⟩
theorem sc_Code_says : FnScope n_Code_says.N ["self", "row"] (defScope s_Code_says) := ⟨rfl, rfl, rfl, by decide +kernel, rfl, by decide +kernel, by decide +kernel⟩
theorem ck_Code_says : scB n_Code_says (defScope s_Code_says) = true := by decide +kernel
theorem d_Code_says (C : DC) (S : Sc C n_Code_says) (L : LkSc C (defScope s_Code_says)) : DSs C (defBody s_Code_says) m_Code_says :=
  (dss_cons (ds_if (dt_not (dt_val (de_call S 0 rfl S.fs.2.1 (by decide) runF_ne (dv_im (de_var S 1 (by decide) rfl) (dv_im (de_lenO S 0 rfl S.fs.1 (by decide) runF_ne (de_var S 0 (by decide) rfl)) dv_nil))) rfl)) (dss_one (ds_raise S 1 rfl S.fs.2.2.1)) dss_nil)
  (dss_one (ds_ret (de_callX S 2 rfl S.fs.2.2.2 (by decide) (dv_im (de_var S 0 (by decide) rfl) (dv_im (de_var S 1 (by decide) rfl) dv_nil))))))
abbrev s_law_town : Stmt := top 26
def m_law_town : M DS.Flow :=
  (roM (catM (frzM (lstM (consM (ret (.int 0)) (ret [])))) (frzM (liM (pk 0)))))
def F_law_town : List Sl → Res (List D) := runO 1 1 [] m_law_town
def n_law_town : Nm := ⟨["script"], [0], [], [], ["list"], ["list"], [], [], [], 0, fun T => True, true⟩
theorem sc_law_town : FnScope n_law_town.N ["script"] (defScope s_law_town) := ⟨rfl, rfl, rfl, by decide +kernel, rfl, by decide +kernel, by decide +kernel⟩
theorem ck_law_town : scB n_law_town (defScope s_law_town) = true := by decide +kernel
theorem d_law_town (C : DC) (S : Sc C n_law_town) (L : LkSc C (defScope s_law_town)) : DSs C (defBody s_law_town) m_law_town :=
  (dss_one (ds_retF (noMp S rfl) (df_cat (DF.e (df_lst (da_cons de_int da_nil))) (DE.k (DF.e (df_list S 0 rfl (dk_var S 0 (by decide) rfl)))))))
abbrev s_law_draw : Stmt := top 27
def m_law_draw : M DS.Flow :=
  (sq (siM 1 (bin addD (binN ixD 1 (ret (.int 0))) (ret (.int 1))) (ret (.int 0)))
  (sq (ifM (asB (binN eqD 0 (frzM (lstM (ret []))))) (rtM (bin modD (bin divD (bin mulD (bin mulD (binN ixD 1 (ret (.int 0))) (binN ixD 1 (ret (.int 0)))) (ret (.int 7))) (ret (.int 3))) (pk 2))) (ret .nx))
  (sq (asM (bin modD (binN ixD 1 (ret (.int 0))) (c1 lenD (pk 0))) (st 3))
  (sq (asM (binN ixD 1 (bin addD (ret (.int 1)) (pk 3))) (st 4))
  (sq (ifM (andB (asB (bin geD (binN ixD 0 (pk 3)) (bin powD (ret (.int 10)) (ret (.int 18))))) (asB (binN gtD 4 (ret (.int 0))))) (sq (siM 1 (binN divD 4 (pk 2)) (bin addD (ret (.int 1)) (pk 3)))
  (rtM (binN modD 4 (pk 2)))) (ret .nx))
  (sq (asM (bin modD (bin addD (binN ixD 0 (pk 3)) (bin mulD (ret (.int 104729)) (binN ixD 1 (ret (.int 0))))) (ret (.int 4294967291))) (st 5))
  (sq (asM (bin modD (binN powD 5 (ret (.int 5))) (ret (.int 4294967279))) (st 5))
  (rtM (bin modD (bin divD (bin modD (bin addD (bin mulD (binN divD 5 (ret (.int 64))) (ret (.int 69621))) (pk 5)) (ret (.int 4294967231))) (ret (.int 8))) (pk 2))))))))))
def F_law_draw : List Sl → Res D := runF 3 6 [1] m_law_draw
def n_law_draw : Nm := ⟨["script", "town", "many", "at", "left", "number"], [0, 1, 2, 3, 4, 5], [3, 4, 5], [], ["len"], ["len"], [1], [], [], 0, fun T => True, true⟩
theorem sc_law_draw : FnScope n_law_draw.N ["script", "town", "many"] (defScope s_law_draw) := ⟨rfl, rfl, rfl, by decide +kernel, rfl, by decide +kernel, by decide +kernel⟩
theorem ck_law_draw : scB n_law_draw (defScope s_law_draw) = true := by decide +kernel
theorem d_law_draw (C : DC) (S : Sc C n_law_draw) (L : LkSc C (defScope s_law_draw)) : DSs C (defBody s_law_draw) m_law_draw :=
  (dss_cons (ds_si S 1 (by decide) rfl (de_bin o_add (de_ixN S 1 (by decide) rfl (DE.k de_int)) (DE.k de_int)) de_int rfl)
  (dss_cons (ds_if (dt_cmpN S (o_eq S) 0 (by decide) rfl (DE.k (DF.e (df_lst da_nil)))) (dss_one (ds_ret (de_bin o_mod (de_bin o_div (de_bin o_mul (de_bin o_mul (de_ixN S 1 (by decide) rfl (DE.k de_int)) (DE.k (de_ixN S 1 (by decide) rfl (DE.k de_int)))) (DE.k de_int)) (DE.k de_int)) (dk_var S 2 (by decide) rfl)))) dss_nil)
  (dss_cons (ds_set S 3 (by decide) rfl (de_bin o_mod (de_ixN S 1 (by decide) rfl (DE.k de_int)) (DE.k (de_len S 0 rfl (dk_var S 0 (by decide) rfl)))) rfl)
  (dss_cons (ds_set S 4 (by decide) rfl (de_ixN S 1 (by decide) rfl (DE.k (de_bin o_add de_int (dk_var S 3 (by decide) rfl)))) rfl)
  (dss_cons (ds_if (DW.t (dw_and (dt_cmp o_ge (de_ixN S 0 (by decide) rfl (dk_var S 3 (by decide) rfl)) (DE.k (de_bin o_pow de_int (DE.k de_int)))) (dw_and1 (dt_cmpN S o_gt 4 (by decide) rfl (DE.k de_int))))) (dss_cons (ds_si S 1 (by decide) rfl (de_binN S o_div 4 (by decide) rfl (dk_var S 2 (by decide) rfl)) (de_bin o_add de_int (dk_var S 3 (by decide) rfl)) rfl)
  (dss_one (ds_ret (de_binN S o_mod 4 (by decide) rfl (dk_var S 2 (by decide) rfl))))) dss_nil)
  (dss_cons (ds_set S 5 (by decide) rfl (de_bin o_mod (de_bin o_add (de_ixN S 0 (by decide) rfl (dk_var S 3 (by decide) rfl)) (DE.k (de_bin o_mul de_int (DE.k (de_ixN S 1 (by decide) rfl (DE.k de_int)))))) (DE.k de_int)) rfl)
  (dss_cons (ds_set S 5 (by decide) rfl (de_bin o_mod (de_binN S o_pow 5 (by decide) rfl (DE.k de_int)) (DE.k de_int)) rfl)
  (dss_one (ds_ret (de_bin o_mod (de_bin o_div (de_bin o_mod (de_bin o_add (de_bin o_mul (de_binN S o_div 5 (by decide) rfl (DE.k de_int)) (DE.k de_int)) (dk_var S 5 (by decide) rfl)) (DE.k de_int)) (DE.k de_int)) (dk_var S 2 (by decide) rfl)))))))))))
abbrev s_law_pick : Stmt := top 28
def m_law_pick : M DS.Flow :=
  (rtM (binN ixD 2 (bnd (vim (rd 0) (vsl 1 (vim (c1 lenD (pk 2)) (ret [])))) (callM F_law_draw))))
def F_law_pick : List Sl → Res D := runF 3 3 [1] m_law_pick
def n_law_pick : Nm := ⟨["script", "town", "some"], [0, 1, 2], [], ["_law_draw"], ["len"], ["len"], [1], [], [], 1, fun T => Has T "_law_draw" 1 F_law_draw, true⟩
theorem sc_law_pick : FnScope n_law_pick.N ["script", "town", "some"] (defScope s_law_pick) := ⟨rfl, rfl, rfl, by decide +kernel, rfl, by decide +kernel, by decide +kernel⟩
theorem ck_law_pick : scB n_law_pick (defScope s_law_pick) = true := by decide +kernel
theorem d_law_pick (C : DC) (S : Sc C n_law_pick) (L : LkSc C (defScope s_law_pick)) : DSs C (defBody s_law_pick) m_law_pick :=
  (dss_one (ds_ret (de_ixN S 2 (by decide) rfl (DE.k (de_call S 0 rfl S.fs (by decide) runF_ne (dv_im (de_var S 0 (by decide) rfl) (dv_sl S 1 (by decide) rfl (dv_im (de_len S 0 rfl (dk_var S 2 (by decide) rfl)) dv_nil))))))))
abbrev s_law_whole : Stmt := top 29
def m_law_whole : M DS.Flow :=
  (rtM (andV (c1 (isiD .int) (pk 0)) (notV (c1 (isiD .bool) (pk 0)))))
def F_law_whole : List Sl → Res D := runF 1 1 [] m_law_whole
def n_law_whole : Nm := ⟨["thing"], [0], [], [], ["isinstance", "int", "bool"], ["isinstance", "int", "bool"], [], [], [], 0, fun T => True, true⟩
theorem sc_law_whole : FnScope n_law_whole.N ["thing"] (defScope s_law_whole) := ⟨rfl, rfl, rfl, by decide +kernel, rfl, by decide +kernel, by decide +kernel⟩
theorem ck_law_whole : scB n_law_whole (defScope s_law_whole) = true := by decide +kernel
theorem d_law_whole (C : DC) (S : Sc C n_law_whole) (L : LkSc C (defScope s_law_whole)) : DSs C (defBody s_law_whole) m_law_whole :=
  (dss_one (ds_ret (de_and (de_isi .int S 0 1 rfl rfl rfl (dk_var S 0 (by decide) rfl)) (de_one (de_not (de_isi .bool S 0 2 rfl rfl rfl (dk_var S 0 (by decide) rfl)))))))
abbrev s_law_wholes : Stmt := top 30
def t_law_wholes_1 : M Bool := (notB (asB (bnd (vim (rd 1) (ret [])) (callM F_law_whole))))
def e_law_wholes_2 : M D := (rd 1)
def m_law_wholes : M DS.Flow :=
  (rtM (andV (c1 (isiD .list) (pk 0)) (bin eqD (frzM (lcM [1] (itM (rd 0)) (st 1) t_law_wholes_1 e_law_wholes_2)) (frzM (lstM (ret []))))))
def F_law_wholes : List Sl → Res D := runF 1 2 [] m_law_wholes
def n_law_wholes : Nm := ⟨["thing", "one"], [0], [], [], ["isinstance", "list"], ["isinstance", "list"], [], [], [], 1, fun T => Has T "_law_whole" 1 F_law_whole, true⟩
theorem sc_law_wholes : FnScope n_law_wholes.N ["thing"] (defScope s_law_wholes) := ⟨rfl, rfl, rfl, by decide +kernel, rfl, by decide +kernel, by decide +kernel⟩
theorem ck_law_wholes : scB n_law_wholes (defScope s_law_wholes) = true := by decide +kernel
theorem d_law_wholes (C : DC) (S : Sc C n_law_wholes) (L : LkSc C (defScope s_law_wholes)) : DSs C (defBody s_law_wholes) m_law_wholes :=
  (dss_one (ds_ret (de_and (de_isi .list S 0 1 rfl rfl rfl (dk_var S 0 (by decide) rfl)) (de_one (de_cmp (o_eq S) (DF.e (df_lc S L (own := [("one", 1)]) (vs := [1]) (gs := ["_law_whole"]) (bs := []) (by decide +kernel) (di_seq (de_var S 0 (by decide) rfl)) (fun CS' S' L' => (dg_name S' 1 (by decide) rfl)) (fun CS' S' L' => (dts_one (dt_not (dt_val (de_call S' 0 rfl S'.fs (by decide) runF_ne (dv_im (de_var S' 1 (by decide) rfl) dv_nil)) rfl)))) (fun CS' S' L' => (de_var S' 1 (by decide) rfl)) (by decide))) (DE.k (DF.e (df_lst da_nil))))))))
abbrev s_law_word : Stmt := top 31
def m_law_word : M DS.Flow :=
  (sq (ifM (notB (asB (c1 (isxD [("BadCode", true), ("BadRow", true), ("NoMeaning", true)]) (rd 0)))) (rtM (c1 negD (ret (.int 1)))) (ret .nx))
  (sq (asM (frzM (lstM (consM (c1 (isxD [("BadCode", true), ("BadRow", false), ("NoMeaning", false)]) (rd 0)) (consM (c1 (isxD [("BadCode", false), ("BadRow", true), ("NoMeaning", false)]) (rd 0)) (consM (c1 (isxD [("BadCode", false), ("BadRow", false), ("NoMeaning", true)]) (rd 0)) (ret [])))))) (st 1))
  (sq (asM (binN addD 1 (frzM (lstM (consM (c1 (isxD [("BadCode", false), ("BadRow", false), ("NoMeaning", false)]) (rd 0)) (consM (c1 (isxD [("BadCode", false), ("BadRow", false), ("NoMeaning", false)]) (rd 0)) (consM (c1 (isxD [("BadCode", false), ("BadRow", false), ("NoMeaning", false)]) (rd 0)) (ret []))))))) (st 1))
  (sq (asM (binN addD 1 (frzM (lstM (consM (c1 (isxD [("BadCode", false), ("BadRow", false), ("NoMeaning", false)]) (rd 0)) (consM (c1 (isxD [("BadCode", false), ("BadRow", false), ("NoMeaning", false)]) (rd 0)) (consM (c1 (isxD [("BadCode", false), ("BadRow", false), ("NoMeaning", false)]) (rd 0)) (ret []))))))) (st 1))
  (sq (asM (binN addD 1 (frzM (lstM (consM (c1 (isxD [("BadCode", false), ("BadRow", false), ("NoMeaning", false)]) (rd 0)) (consM (c1 (isxD [("BadCode", false), ("BadRow", false), ("NoMeaning", false)]) (rd 0)) (consM (c1 (isxD [("BadCode", false), ("BadRow", false), ("NoMeaning", false)]) (rd 0)) (ret []))))))) (st 1))
  (sq (asM (binN addD 1 (frzM (lstM (consM (c1 (isxD [("BadCode", false), ("BadRow", false), ("NoMeaning", false)]) (rd 0)) (ret []))))) (st 1))
  (rtM (ifV (asB (bin eqD (binL countD (rd 1) (ret (.bool true))) (ret (.int 1)))) (binL indexD (rd 1) (ret (.bool true))) (c1 negD (ret (.int 1)))))))))))
def F_law_word : List Sl → Res D := runF 1 2 [] m_law_word
def n_law_word : Nm := ⟨["caught", "kinds"], [0, 1], [1], ["NoMeaning", "BadRow", "BadCode", "Unlike", "BadNumber", "BadText", "BadWidths", "BadPatterns", "BadBase", "NoRow", "TurnedAbout", "Twofold", "NoReading"], ["isinstance", "ArithmeticError"], ["isinstance", "ArithmeticError"], [], [], [], 0, fun T => IsB T "ArithmeticError" [("BadCode", true), ("BadRow", true), ("NoMeaning", true)] ∧ IsF T "NoMeaning" [("BadCode", false), ("BadRow", false), ("NoMeaning", true)] ∧ IsF T "BadRow" [("BadCode", false), ("BadRow", true), ("NoMeaning", false)] ∧ IsF T "BadCode" [("BadCode", true), ("BadRow", false), ("NoMeaning", false)] ∧ IsF T "Unlike" [("BadCode", false), ("BadRow", false), ("NoMeaning", false)] ∧ IsF T "BadNumber" [("BadCode", false), ("BadRow", false), ("NoMeaning", false)] ∧ IsF T "BadText" [("BadCode", false), ("BadRow", false), ("NoMeaning", false)] ∧ IsF T "BadWidths" [("BadCode", false), ("BadRow", false), ("NoMeaning", false)] ∧ IsF T "BadPatterns" [("BadCode", false), ("BadRow", false), ("NoMeaning", false)] ∧ IsF T "BadBase" [("BadCode", false), ("BadRow", false), ("NoMeaning", false)] ∧ IsF T "NoRow" [("BadCode", false), ("BadRow", false), ("NoMeaning", false)] ∧ IsF T "TurnedAbout" [("BadCode", false), ("BadRow", false), ("NoMeaning", false)] ∧ IsF T "Twofold" [("BadCode", false), ("BadRow", false), ("NoMeaning", false)] ∧ IsF T "NoReading" [("BadCode", false), ("BadRow", false), ("NoMeaning", false)], true⟩
theorem sc_law_word : FnScope n_law_word.N ["caught"] (defScope s_law_word) := ⟨rfl, rfl, rfl, by decide +kernel, rfl, by decide +kernel, by decide +kernel⟩
theorem ck_law_word : scB n_law_word (defScope s_law_word) = true := by decide +kernel
theorem d_law_word (C : DC) (S : Sc C n_law_word) (L : LkSc C (defScope s_law_word)) : DSs C (defBody s_law_word) m_law_word :=
  (dss_cons (ds_if (dt_not (dt_val (de_isb S 0 1 rfl rfl S.fs.1 (de_var S 0 (by decide) rfl)) rfl)) (dss_one (ds_ret (de_neg de_int))) dss_nil)
  (dss_cons (ds_set S 1 (by decide) rfl (DF.e (df_lst (da_cons (de_isx S 0 2 rfl rfl S.fs.2.2.2.1 (de_var S 0 (by decide) rfl)) (da_cons (de_isx S 0 1 rfl rfl S.fs.2.2.1 (de_var S 0 (by decide) rfl)) (da_cons (de_isx S 0 0 rfl rfl S.fs.2.1 (de_var S 0 (by decide) rfl)) da_nil))))) rfl)
  (dss_cons (ds_set S 1 (by decide) rfl (de_binN S o_add 1 (by decide) rfl (DE.k (DF.e (df_lst (da_cons (de_isx S 0 5 rfl rfl S.fs.2.2.2.2.2.2.1 (de_var S 0 (by decide) rfl)) (da_cons (de_isx S 0 4 rfl rfl S.fs.2.2.2.2.2.1 (de_var S 0 (by decide) rfl)) (da_cons (de_isx S 0 3 rfl rfl S.fs.2.2.2.2.1 (de_var S 0 (by decide) rfl)) da_nil))))))) rfl)
  (dss_cons (ds_set S 1 (by decide) rfl (de_binN S o_add 1 (by decide) rfl (DE.k (DF.e (df_lst (da_cons (de_isx S 0 8 rfl rfl S.fs.2.2.2.2.2.2.2.2.2.1 (de_var S 0 (by decide) rfl)) (da_cons (de_isx S 0 7 rfl rfl S.fs.2.2.2.2.2.2.2.2.1 (de_var S 0 (by decide) rfl)) (da_cons (de_isx S 0 6 rfl rfl S.fs.2.2.2.2.2.2.2.1 (de_var S 0 (by decide) rfl)) da_nil))))))) rfl)
  (dss_cons (ds_set S 1 (by decide) rfl (de_binN S o_add 1 (by decide) rfl (DE.k (DF.e (df_lst (da_cons (de_isx S 0 11 rfl rfl S.fs.2.2.2.2.2.2.2.2.2.2.2.2.1 (de_var S 0 (by decide) rfl)) (da_cons (de_isx S 0 10 rfl rfl S.fs.2.2.2.2.2.2.2.2.2.2.2.1 (de_var S 0 (by decide) rfl)) (da_cons (de_isx S 0 9 rfl rfl S.fs.2.2.2.2.2.2.2.2.2.2.1 (de_var S 0 (by decide) rfl)) da_nil))))))) rfl)
  (dss_cons (ds_set S 1 (by decide) rfl (de_binN S o_add 1 (by decide) rfl (DE.k (DF.e (df_lst (da_cons (de_isx S 0 12 rfl rfl S.fs.2.2.2.2.2.2.2.2.2.2.2.2.2 (de_var S 0 (by decide) rfl)) da_nil))))) rfl)
  (dss_one (ds_ret (de_if (dt_cmp (o_eq S) (de_count S rfl (de_var S 1 (by decide) rfl) de_bl rfl) (DE.k de_int)) (de_index S rfl (de_var S 1 (by decide) rfl) de_bl rfl) (de_neg de_int))))))))))
abbrev s_law_refused : Stmt := top 32
def m_law_refused : M DS.Flow :=
  (sq (asM (frzM (lstM (consM (ret (.str "code")) (consM (ret (.str "row")) (consM (ret (.str "meaning")) (consM (ret (.str "text")) (consM (ret (.str "number")) (consM (ret (.str "unlike")) (consM (ret (.str "base")) (consM (ret (.str "patterns")) (consM (ret (.str "widths")) (consM (ret (.str "twofold")) (consM (ret (.str "turned")) (ret [])))))))))))))) (st 1))
  (sq (asM (binN addD 1 (frzM (lstM (consM (ret (.str "no row")) (consM (ret (.str "reading")) (ret [])))))) (st 1))
  (rtM (tupM (consM (ret (.str "refused")) (consM (binL indexD (rd 1) (rd 0)) (ret [])))))))
def F_law_refused : List Sl → Res D := runF 1 2 [] m_law_refused
def n_law_refused : Nm := ⟨["word", "words"], [0, 1], [1], [], [], [], [], [], [], 0, fun T => True, true⟩
theorem sc_law_refused : FnScope n_law_refused.N ["word"] (defScope s_law_refused) := ⟨rfl, rfl, rfl, by decide +kernel, rfl, by decide +kernel, by decide +kernel⟩
theorem ck_law_refused : scB n_law_refused (defScope s_law_refused) = true := by decide +kernel
theorem d_law_refused (C : DC) (S : Sc C n_law_refused) (L : LkSc C (defScope s_law_refused)) : DSs C (defBody s_law_refused) m_law_refused :=
  (dss_cons (ds_set S 1 (by decide) rfl (DF.e (df_lst (da_cons (de_str (by decide +kernel)) (da_cons (de_str (by decide +kernel)) (da_cons (de_str (by decide +kernel)) (da_cons (de_str (by decide +kernel)) (da_cons (de_str (by decide +kernel)) (da_cons (de_str (by decide +kernel)) (da_cons (de_str (by decide +kernel)) (da_cons (de_str (by decide +kernel)) (da_cons (de_str (by decide +kernel)) (da_cons (de_str (by decide +kernel)) (da_cons (de_str (by decide +kernel)) da_nil))))))))))))) rfl)
  (dss_cons (ds_set S 1 (by decide) rfl (de_binN S o_add 1 (by decide) rfl (DE.k (DF.e (df_lst (da_cons (de_str (by decide +kernel)) (da_cons (de_str (by decide +kernel)) da_nil)))))) rfl)
  (dss_one (ds_ret (de_tup (da_cons (de_str (by decide +kernel)) (da_cons (de_index S rfl (de_var S 1 (by decide) rfl) (de_var S 0 (by decide) rfl) rfl) da_nil)))))))
abbrev s_law_meaning : Stmt := top 34
def b_law_meaning_1 : M DS.Flow := (asM (binN addD 5 (bnd (vim (rd 0) (vsl 1 (vim (rd 3) (ret [])))) (callM F_law_pick))) (st 5))
def m_law_meaning : M DS.Flow :=
  (sq (asM (bnd (vim (rd 0) (vsl 1 (vim (ret (.int 9)) (ret [])))) (callM F_law_draw)) (st 4))
  (sq (ifM (asB (binN eqD 4 (ret (.int 0)))) (rtM (ret .none)) (ret .nx))
  (sq (ifM (asB (binN ltD 4 (ret (.int 3)))) (rtM (tupM (consM (bnd (vim (rd 0) (vsl 1 (vim (frzM (lstM (consM (ret (.str "to")) (consM (ret (.str "once")) (ret []))))) (ret [])))) (callM F_law_pick)) (consM (bnd (vim (rd 0) (vsl 1 (vim (rd 2) (ret [])))) (callM F_law_draw)) (ret []))))) (ret .nx))
  (sq (asM (ret (.str "")) (st 5))
  (sq (forS (rg1 (bnd (vim (rd 0) (vsl 1 (vim (frzM (lstM (consM (ret (.int 1)) (consM (ret (.int 1)) (consM (ret (.int 1)) (consM (ret (.int 2)) (consM (ret (.int 3)) (ret [])))))))) (ret [])))) (callM F_law_pick))) (st 6) b_law_meaning_1)
  (rtM (rd 5)))))))
def F_law_meaning : List Sl → Res D := runF 4 7 [1] m_law_meaning
def n_law_meaning : Nm := ⟨["script", "town", "many", "signs", "way", "found", "k"], [0, 1, 2, 3, 4, 5], [4, 5, 6], ["_law_draw", "_law_pick"], ["range"], ["range"], [1], [], [], 2, fun T => Has T "_law_draw" 1 F_law_draw ∧ Has T "_law_pick" 2 F_law_pick, true⟩
theorem sc_law_meaning : FnScope n_law_meaning.N ["script", "town", "many", "signs"] (defScope s_law_meaning) := ⟨rfl, rfl, rfl, by decide +kernel, rfl, by decide +kernel, by decide +kernel⟩
theorem ck_law_meaning : scB n_law_meaning (defScope s_law_meaning) = true := by decide +kernel
theorem d_law_meaning (C : DC) (S : Sc C n_law_meaning) (L : LkSc C (defScope s_law_meaning)) : DSs C (defBody s_law_meaning) m_law_meaning :=
  (dss_cons (ds_set S 4 (by decide) rfl (de_call S 0 rfl S.fs.1 (by decide) runF_ne (dv_im (de_var S 0 (by decide) rfl) (dv_sl S 1 (by decide) rfl (dv_im de_int dv_nil)))) rfl)
  (dss_cons (ds_if (dt_cmpN S (o_eq S) 4 (by decide) rfl (DE.k de_int)) (dss_one (ds_ret de_non)) dss_nil)
  (dss_cons (ds_if (dt_cmpN S o_lt 4 (by decide) rfl (DE.k de_int)) (dss_one (ds_ret (de_tup (da_cons (de_call S 1 rfl S.fs.2 (by decide) runF_ne (dv_im (de_var S 0 (by decide) rfl) (dv_sl S 1 (by decide) rfl (dv_im (DF.e (df_lst (da_cons (de_str (by decide +kernel)) (da_cons (de_str (by decide +kernel)) da_nil)))) dv_nil)))) (da_cons (de_call S 0 rfl S.fs.1 (by decide) runF_ne (dv_im (de_var S 0 (by decide) rfl) (dv_sl S 1 (by decide) rfl (dv_im (de_var S 2 (by decide) rfl) dv_nil)))) da_nil))))) dss_nil)
  (dss_cons (ds_set S 5 (by decide) rfl (de_str (by decide +kernel)) rfl)
  (dss_cons (ds_for S (di_rg1 S 0 rfl (de_call S 1 rfl S.fs.2 (by decide) runF_ne (dv_im (de_var S 0 (by decide) rfl) (dv_sl S 1 (by decide) rfl (dv_im (DF.e (df_lst (da_cons de_int (da_cons de_int (da_cons de_int (da_cons de_int (da_cons de_int da_nil))))))) dv_nil))))) (dg_name S 6 (by decide) rfl) (dss_one (ds_set S 5 (by decide) rfl (de_binN S o_add 5 (by decide) rfl (DE.k (de_call S 1 rfl S.fs.2 (by decide) runF_ne (dv_im (de_var S 0 (by decide) rfl) (dv_sl S 1 (by decide) rfl (dv_im (de_var S 3 (by decide) rfl) dv_nil)))))) rfl)))
  (dss_one (ds_ret (de_var S 5 (by decide) rfl))))))))
abbrev s_law_modes : Stmt := top 35
def e_law_modes_1 : M D := (bnd (vim (rd 0) (vsl 1 (vim (rd 4) (vim (rd 6) (ret []))))) (callM F_law_meaning))
def b_law_modes_2 : M DS.Flow := (apM 7 (c1 tupleD (frzM (lcM [9] (rg1 (rd 5)) (st 9) (ret true) e_law_modes_1))))
def m_law_modes : M DS.Flow :=
  (sq (asM (bin addD (ret (.int 1)) (bnd (vim (rd 0) (vsl 1 (vim (rd 2) (ret [])))) (callM F_law_draw))) (st 4))
  (sq (asM (bin addD (ret (.int 2)) (bnd (vim (rd 0) (vsl 1 (vim (binN subD 3 (ret (.int 1))) (ret [])))) (callM F_law_draw))) (st 5))
  (sq (asM (bnd (vim (rd 0) (vsl 1 (vim (frzM (lstM (consM (frzM (lstM (consM (ret (.str "a")) (consM (ret (.str "b")) (ret []))))) (consM (frzM (lstM (consM (ret (.str "a")) (consM (ret (.str "b")) (consM (ret (.str "c")) (consM (ret (.str "0")) (ret []))))))) (consM (frzM (lstM (consM (ret (.str "!")) (consM (ret (.str "~")) (consM (ret (.str "A")) (consM (ret (.str "7")) (consM (ret (.str "a")) (ret [])))))))) (ret [])))))) (ret [])))) (callM F_law_pick)) (st 6))
  (sq (soM (lstM (ret [])) 7)
  (sq (forS (rg1 (rd 4)) (st 8) b_law_modes_2)
  (rtM (c1 tupleD (pk 7))))))))
def F_law_modes : List Sl → Res D := runF 4 10 [1] m_law_modes
def n_law_modes : Nm := ⟨["script", "town", "most_modes", "most_signs", "many", "long", "signs", "found", "mode", "k"], [0, 1, 2, 3, 4, 5, 6, 7], [4, 5, 6, 7, 8], ["_law_draw", "_law_pick"], ["range", "tuple"], ["range", "tuple"], [1], [], [], 3, fun T => Has T "_law_draw" 1 F_law_draw ∧ Has T "_law_pick" 2 F_law_pick ∧ Has T "_law_meaning" 3 F_law_meaning, true⟩
theorem sc_law_modes : FnScope n_law_modes.N ["script", "town", "most_modes", "most_signs"] (defScope s_law_modes) := ⟨rfl, rfl, rfl, by decide +kernel, rfl, by decide +kernel, by decide +kernel⟩
theorem ck_law_modes : scB n_law_modes (defScope s_law_modes) = true := by decide +kernel
theorem d_law_modes (C : DC) (S : Sc C n_law_modes) (L : LkSc C (defScope s_law_modes)) : DSs C (defBody s_law_modes) m_law_modes :=
  (dss_cons (ds_set S 4 (by decide) rfl (de_bin o_add de_int (DE.k (de_call S 0 rfl S.fs.1 (by decide) runF_ne (dv_im (de_var S 0 (by decide) rfl) (dv_sl S 1 (by decide) rfl (dv_im (de_var S 2 (by decide) rfl) dv_nil)))))) rfl)
  (dss_cons (ds_set S 5 (by decide) rfl (de_bin o_add de_int (DE.k (de_call S 0 rfl S.fs.1 (by decide) runF_ne (dv_im (de_var S 0 (by decide) rfl) (dv_sl S 1 (by decide) rfl (dv_im (de_binN S o_sub 3 (by decide) rfl (DE.k de_int)) dv_nil)))))) rfl)
  (dss_cons (ds_set S 6 (by decide) rfl (de_call S 1 rfl S.fs.2.1 (by decide) runF_ne (dv_im (de_var S 0 (by decide) rfl) (dv_sl S 1 (by decide) rfl (dv_im (DF.e (df_lst (da_cons (DF.e (df_lst (da_cons (de_str (by decide +kernel)) (da_cons (de_str (by decide +kernel)) da_nil)))) (da_cons (DF.e (df_lst (da_cons (de_str (by decide +kernel)) (da_cons (de_str (by decide +kernel)) (da_cons (de_str (by decide +kernel)) (da_cons (de_str (by decide +kernel)) da_nil)))))) (da_cons (DF.e (df_lst (da_cons (de_str (by decide +kernel)) (da_cons (de_str (by decide +kernel)) (da_cons (de_str (by decide +kernel)) (da_cons (de_str (by decide +kernel)) (da_cons (de_str (by decide +kernel)) da_nil))))))) da_nil))))) dv_nil)))) rfl)
  (dss_cons (ds_setF S 7 (by decide) rfl (df_lst da_nil) rfl)
  (dss_cons (ds_for S (di_rg1 S 0 rfl (de_var S 4 (by decide) rfl)) (dg_name S 8 (by decide) rfl) (dss_one (ds_app S 7 (by decide) rfl (de_tuple S 1 rfl (DE.k (DF.e (df_lc S L (own := [("k", 9)]) (vs := [0, 1, 4, 6]) (gs := ["_law_meaning"]) (bs := []) (by decide +kernel) (di_rg1 S 0 rfl (de_var S 5 (by decide) rfl)) (fun CS' S' L' => (dg_name S' 9 (by decide) rfl)) (fun CS' S' L' => dts_nil) (fun CS' S' L' => (de_call S' 0 rfl S'.fs.2.2 (by decide) runF_ne (dv_im (de_var S' 0 (by decide) rfl) (dv_sl S' 1 (by decide) rfl (dv_im (de_var S' 4 (by decide) rfl) (dv_im (de_var S' 6 (by decide) rfl) dv_nil)))))) (by decide))))) rfl)))
  (dss_one (ds_ret (de_tuple S 1 rfl (dk_var S 7 (by decide) rfl)))))))))
abbrev s_law_one : Stmt := top 36
def m_law_one : M DS.Flow :=
  (rtM (ifV (asB (binN eqD 0 (ret (.int 0)))) (mkM "Code" F_Code_init (consM (rd 1) (ret []))) (meM "Code" "says" F_Code_says (binN ixD 1 (ret (.int 0))) (vim (binN ixD 1 (ret (.int 1))) (ret [])))))
def F_law_one : List Sl → Res D := runX 2 2 [] m_law_one
def n_law_one : Nm := ⟨["way", "some"], [0, 1], [], ["Code"], [], [], [], [], [], 5, fun T => HasI T "Code" 4 F_Code_init ∧ HasM T "Code" "says" 4 F_Code_says, true⟩
theorem sc_law_one : FnScope n_law_one.N ["way", "some"] (defScope s_law_one) := ⟨rfl, rfl, rfl, by decide +kernel, rfl, by decide +kernel, by decide +kernel⟩
theorem ck_law_one : scB n_law_one (defScope s_law_one) = true := by decide +kernel
theorem d_law_one (C : DC) (S : Sc C n_law_one) (L : LkSc C (defScope s_law_one)) : DSs C (defBody s_law_one) m_law_one :=
  (dss_one (ds_ret (de_if (dt_cmpN S (o_eq S) 0 (by decide) rfl (DE.k de_int)) (de_make S 0 rfl S.fs.1 (by decide) (da_cons (de_var S 1 (by decide) rfl) da_nil) rfl rfl) (de_meth S S.fs.2 (by decide) (de_ixN S 1 (by decide) rfl (DE.k de_int)) (dv_im (de_ixN S 1 (by decide) rfl (DE.k de_int)) dv_nil) rfl))))
abbrev s_law_told : Stmt := top 33
def m_law_told : M DS.Flow :=
  (sq (asM (ret .none) (st 2))
  (sq (asM (ret .none) (st 3))
  (sq (tryV ["BadCode", "BadRow", "NoMeaning"] 4 2 (asM (bnd (vim (rd 0) (vim (rd 1) (ret []))) (callM F_law_one)) (st 3)))
  (sq (ifM (asB (binN isD 2 (ret .none))) (rtM (tupM (consM (ret (.str "found")) (consM (rd 3) (ret []))))) (ret .nx))
  (rtM (tupM (consM (ret (.str "refused")) (consM (bnd (vim (rd 2) (ret [])) (callM F_law_word)) (ret [])))))))))
def F_law_told : List Sl → Res D := runF 2 5 [] m_law_told
def n_law_told : Nm := ⟨["way", "some", "caught", "found", "e"], [0, 1, 2, 3], [2, 3, 4], ["_law_one", "BarError", "_law_word"], [], [], [], [2, 4], [], 6, fun T => HasX T "_law_one" 6 F_law_one ∧ ExF T "BarError" ["BadCode", "BadRow", "NoMeaning"] ∧ Has T "_law_word" 1 F_law_word, true⟩
theorem sc_law_told : FnScope n_law_told.N ["way", "some"] (defScope s_law_told) := ⟨rfl, rfl, rfl, by decide +kernel, rfl, by decide +kernel, by decide +kernel⟩
theorem ck_law_told : scB n_law_told (defScope s_law_told) = true := by decide +kernel
theorem d_law_told (C : DC) (S : Sc C n_law_told) (L : LkSc C (defScope s_law_told)) : DSs C (defBody s_law_told) m_law_told :=
  (dss_cons (ds_set S 2 (by decide) rfl de_non rfl)
  (dss_cons (ds_set S 3 (by decide) rfl de_non rfl)
  (dss_cons (ds_tryV S L 4 2 1 rfl (by decide) (by decide) rfl (by decide) (by decide) rfl (by decide) (by decide) rfl S.fs.2.1 (fun C S L => (dss_one (ds_set S 3 (by decide) rfl (de_callX S 0 rfl S.fs.1 (by decide) (dv_im (de_var S 0 (by decide) rfl) (dv_im (de_var S 1 (by decide) rfl) dv_nil))) rfl))))
  (dss_cons (ds_if (dt_cmpN S o_is 2 (by decide) rfl (DE.k de_non)) (dss_one (ds_ret (de_tup (da_cons (de_str (by decide +kernel)) (da_cons (de_var S 3 (by decide) rfl) da_nil))))) dss_nil)
  (dss_one (ds_ret (de_tup (da_cons (de_str (by decide +kernel)) (da_cons (de_call S 2 rfl S.fs.2.2 (by decide) runF_ne (dv_im (de_var S 2 (by decide) rfl) dv_nil)) da_nil)))))))))
abbrev s_law_meaning_good : Stmt := top 37
def t_law_meaning_good_1 : M Bool := (orB (asB (binN ltD 2 (ret (.str "!")))) (asB (binN gtD 2 (ret (.str "~")))))
def e_law_meaning_good_2 : M D := (rd 2)
def m_law_meaning_good : M DS.Flow :=
  (sq (ifM (asB (c1 (isiD .tuple) (pk 0))) (sq (ifM (orB (asB (bin neD (c1 lenD (pk 0)) (ret (.int 2)))) (asB (bin notInD (binN ixD 0 (ret (.int 0))) (tupM (consM (ret (.str "to")) (consM (ret (.str "once")) (ret []))))))) (rtM (ret (.bool false))) (ret .nx))
  (rtM (andV (bnd (vim (binN ixD 0 (ret (.int 1))) (ret [])) (callM F_law_whole)) (chM leD ltD (ret (.int 0)) (binN ixD 0 (ret (.int 1))) (pk 1))))) (ret .nx))
  (sq (ifM (asB (binN isD 0 (ret .none))) (rtM (ret (.bool true))) (ret .nx))
  (sq (ifM (orB (notB (asB (c1 (isiD .str) (pk 0)))) (asB (bin notInD (c1 lenD (pk 0)) (tupM (consM (ret (.int 1)) (consM (ret (.int 2)) (consM (ret (.int 3)) (ret [])))))))) (rtM (ret (.bool false))) (ret .nx))
  (rtM (bin eqD (frzM (lcM [2] (itM (rd 0)) (st 2) t_law_meaning_good_1 e_law_meaning_good_2)) (frzM (lstM (ret []))))))))
def F_law_meaning_good : List Sl → Res D := runF 2 3 [] m_law_meaning_good
def n_law_meaning_good : Nm := ⟨["thing", "many", "sign"], [0, 1], [], ["_law_whole"], ["isinstance", "tuple", "len", "str"], ["isinstance", "tuple", "len", "str"], [], [], [], 1, fun T => Has T "_law_whole" 1 F_law_whole, true⟩
theorem sc_law_meaning_good : FnScope n_law_meaning_good.N ["thing", "many"] (defScope s_law_meaning_good) := ⟨rfl, rfl, rfl, by decide +kernel, rfl, by decide +kernel, by decide +kernel⟩
theorem ck_law_meaning_good : scB n_law_meaning_good (defScope s_law_meaning_good) = true := by decide +kernel
theorem d_law_meaning_good (C : DC) (S : Sc C n_law_meaning_good) (L : LkSc C (defScope s_law_meaning_good)) : DSs C (defBody s_law_meaning_good) m_law_meaning_good :=
  (dss_cons (ds_if (dt_val (de_isi .tuple S 0 1 rfl rfl rfl (dk_var S 0 (by decide) rfl)) rfl) (dss_cons (ds_if (DW.t (dw_or (dt_cmp (o_ne S) (de_len S 2 rfl (dk_var S 0 (by decide) rfl)) (DE.k de_int)) (dw_or1 (dt_cmp (o_notIn S) (de_ixN S 0 (by decide) rfl (DE.k de_int)) (DE.k (de_tup (da_cons (de_str (by decide +kernel)) (da_cons (de_str (by decide +kernel)) da_nil)))))))) (dss_one (ds_ret de_bl)) dss_nil)
  (dss_one (ds_ret (de_and (de_call S 0 rfl S.fs (by decide) runF_ne (dv_im (de_ixN S 0 (by decide) rfl (DE.k de_int)) dv_nil)) (de_one (de_ch o_le o_lt de_int (de_ixN S 0 (by decide) rfl (DE.k de_int)) (dk_var S 1 (by decide) rfl))))))) dss_nil)
  (dss_cons (ds_if (dt_cmpN S o_is 0 (by decide) rfl (DE.k de_non)) (dss_one (ds_ret de_bl)) dss_nil)
  (dss_cons (ds_if (DW.t (dw_or (dt_not (dt_val (de_isi .str S 0 3 rfl rfl rfl (dk_var S 0 (by decide) rfl)) rfl)) (dw_or1 (dt_cmp (o_notIn S) (de_len S 2 rfl (dk_var S 0 (by decide) rfl)) (DE.k (de_tup (da_cons de_int (da_cons de_int (da_cons de_int da_nil))))))))) (dss_one (ds_ret de_bl)) dss_nil)
  (dss_one (ds_ret (de_cmp (o_eq S) (DF.e (df_lc S L (own := [("sign", 2)]) (vs := [2]) (gs := []) (bs := []) (by decide +kernel) (di_seq (de_var S 0 (by decide) rfl)) (fun CS' S' L' => (dg_name S' 2 (by decide) rfl)) (fun CS' S' L' => (dts_one (DW.t (dw_or (dt_cmpN S' o_lt 2 (by decide) rfl (DE.k (de_str (by decide +kernel)))) (dw_or1 (dt_cmpN S' o_gt 2 (by decide) rfl (DE.k (de_str (by decide +kernel))))))))) (fun CS' S' L' => (de_var S' 2 (by decide) rfl)) (by decide))) (DE.k (DF.e (df_lst da_nil)))))))))
abbrev s_law_good : Stmt := top 38
def t_law_good_1 : M Bool := (notB (asB (bnd (vim (rd 2) (vim (c1 lenD (pk 0)) (ret []))) (callM F_law_meaning_good))))
def e_law_good_2 : M D := (rd 2)
def b_law_good_3 : M DS.Flow := (sq (ifM (orB (notB (asB (c1 (isiD .tuple) (pk 1)))) (orB (asB (rgIn true (c1 lenD (pk 1)) (ret (.int 2)) (ret (.int 9)))) (asB (bin neD (c1 lenD (pk 1)) (c1 lenD (binN ixD 0 (ret (.int 0)))))))) (rtM (ret (.bool false))) (ret .nx))
  (ifM (asB (bin neD (frzM (lcM [2] (itM (rd 1)) (st 2) t_law_good_1 e_law_good_2)) (frzM (lstM (ret []))))) (rtM (ret (.bool false))) (ret .nx)))
def m_law_good : M DS.Flow :=
  (sq (ifM (orB (notB (asB (c1 (isiD .tuple) (pk 0)))) (asB (rgIn true (c1 lenD (pk 0)) (ret (.int 1)) (ret (.int 5))))) (rtM (ret (.bool false))) (ret .nx))
  (sq (forS (itM (rd 0)) (st 1) b_law_good_3)
  (rtM (ret (.bool true)))))
def F_law_good : List Sl → Res D := runF 1 3 [] m_law_good
def n_law_good : Nm := ⟨["thing", "one", "meaning"], [0, 1], [1], [], ["isinstance", "tuple", "len", "range"], ["isinstance", "tuple", "len", "range"], [], [], [], 2, fun T => Has T "_law_meaning_good" 2 F_law_meaning_good, true⟩
theorem sc_law_good : FnScope n_law_good.N ["thing"] (defScope s_law_good) := ⟨rfl, rfl, rfl, by decide +kernel, rfl, by decide +kernel, by decide +kernel⟩
theorem ck_law_good : scB n_law_good (defScope s_law_good) = true := by decide +kernel
theorem d_law_good (C : DC) (S : Sc C n_law_good) (L : LkSc C (defScope s_law_good)) : DSs C (defBody s_law_good) m_law_good :=
  (dss_cons (ds_if (DW.t (dw_or (dt_not (dt_val (de_isi .tuple S 0 1 rfl rfl rfl (dk_var S 0 (by decide) rfl)) rfl)) (dw_or1 (dt_ninRg S 3 rfl (de_len S 2 rfl (dk_var S 0 (by decide) rfl)) de_int de_int)))) (dss_one (ds_ret de_bl)) dss_nil)
  (dss_cons (ds_for S (di_seq (de_var S 0 (by decide) rfl)) (dg_name S 1 (by decide) rfl) (dss_cons (ds_if (DW.t (dw_or (dt_not (dt_val (de_isi .tuple S 0 1 rfl rfl rfl (dk_var S 1 (by decide) rfl)) rfl)) (dw_or (dt_ninRg S 3 rfl (de_len S 2 rfl (dk_var S 1 (by decide) rfl)) de_int de_int) (dw_or1 (dt_cmp (o_ne S) (de_len S 2 rfl (dk_var S 1 (by decide) rfl)) (DE.k (de_len S 2 rfl (DE.k (de_ixN S 0 (by decide) rfl (DE.k de_int)))))))))) (dss_one (ds_ret de_bl)) dss_nil)
  (dss_one (ds_if (dt_cmp (o_ne S) (DF.e (df_lc S L (own := [("meaning", 2)]) (vs := [0, 2]) (gs := ["_law_meaning_good"]) (bs := ["len"]) (by decide +kernel) (di_seq (de_var S 1 (by decide) rfl)) (fun CS' S' L' => (dg_name S' 2 (by decide) rfl)) (fun CS' S' L' => (dts_one (dt_not (dt_val (de_call S' 0 rfl S'.fs (by decide) runF_ne (dv_im (de_var S' 2 (by decide) rfl) (dv_im (de_len S' 0 rfl (dk_var S' 0 (by decide) rfl)) dv_nil))) rfl)))) (fun CS' S' L' => (de_var S' 2 (by decide) rfl)) (by decide))) (DE.k (DF.e (df_lst da_nil)))) (dss_one (ds_ret de_bl)) dss_nil))))
  (dss_one (ds_ret de_bl))))
abbrev s_law_spoilt : Stmt := top 39
def r_law_spoilt_1 : M DS.Flow := (sq (asM (bin addD (bin addD (slM (binN ixD 2 (pk 3)) (ret none) (asI (rd 4))) (tupM (consM (rd 5) (ret [])))) (slM (binN ixD 2 (pk 3)) (asI (binN addD 4 (ret (.int 1)))) (ret none))) (st 6))
  (sq (asM (bnd (vim (rd 0) (vsl 1 (vim (ret (.int 7)) (ret [])))) (callM F_law_draw)) (st 7))
  (sq (ifM (asB (binN eqD 7 (ret (.int 0)))) (rtM (bnd (vim (rd 0) (vsl 1 (vim (frzM (lstM (consM (ret .none) (consM (frzM (liM (pk 2))) (consM (tupM (ret [])) (consM (binN ixD 2 (ret (.int 0))) (consM (ret (.str "ab")) (consM (ret (.dict [])) (consM (tupM (consM (slM (binN ixD 2 (ret (.int 0))) (ret none) (asI (ret (.int 1)))) (ret []))) (consM (binN addD 2 (tupM (consM (tupM (ret [])) (ret [])))) (ret []))))))))))) (ret [])))) (callM F_law_pick))) (ret .nx))
  (sq (ifM (asB (binN eqD 7 (ret (.int 1)))) (asM (bnd (vim (rd 0) (vsl 1 (vim (frzM (lstM (consM (frzM (liM (binN ixD 2 (pk 3)))) (consM (slM (binN ixD 2 (pk 3)) (asI (ret (.int 1))) (ret none)) (consM (bin addD (binN ixD 2 (pk 3)) (tupM (consM (ret (.str "a")) (ret [])))) (consM (ret (.str "ab")) (ret []))))))) (ret [])))) (callM F_law_pick)) (st 6)) (ret .nx))
  (rtM (ifV (asB (binN gtD 7 (ret (.int 4)))) (rd 2) (bin addD (bin addD (slN 2 (ret none) (asI (rd 3))) (tupM (consM (rd 6) (ret [])))) (slN 2 (asI (binN addD 3 (ret (.int 1)))) (ret none)))))))))
def m_law_spoilt : M DS.Flow :=
  (sq (asM (bnd (vim (rd 0) (vsl 1 (vim (c1 lenD (pk 2)) (ret [])))) (callM F_law_draw)) (st 3))
  (sq (asM (bnd (vim (rd 0) (vsl 1 (vim (c1 lenD (binN ixD 2 (pk 3))) (ret [])))) (callM F_law_draw)) (st 4))
  (sq (asM (frzM (lstM (consM (ret (.str "")) (consM (ret (.str "abcd")) (consM (ret (.str " ")) (consM (ret (.str "a b")) (consM (tupM (consM (ret (.str "to")) (consM (c1 lenD (pk 2)) (ret [])))) (consM (tupM (consM (ret (.str "once")) (consM (c1 negD (ret (.int 1))) (ret [])))) (consM (tupM (consM (ret (.str "to")) (consM (ret (.bool true)) (ret [])))) (consM (tupM (consM (ret (.str "at")) (consM (ret (.int 0)) (ret [])))) (consM (frzM (lstM (consM (ret (.str "to")) (consM (ret (.int 0)) (ret []))))) (consM (tupM (consM (ret (.str "to")) (ret []))) (ret []))))))))))))) (st 5))
  (sq (asM (bnd (vim (rd 0) (vsl 1 (vim (binN addD 5 (frzM (lstM (consM (ret (.bool true)) (consM (ret (.int 7)) (consM (ret (.str "~!~")) (consM (tupM (consM (ret (.str "once")) (consM (bin subD (c1 lenD (pk 2)) (ret (.int 1))) (ret [])))) (ret [])))))))) (ret [])))) (callM F_law_pick)) (st 5))
  r_law_spoilt_1))))
def F_law_spoilt : List Sl → Res D := runF 3 8 [1] m_law_spoilt
def n_law_spoilt : Nm := ⟨["script", "town", "modes", "at", "to", "odd", "one", "way"], [0, 1, 2, 3, 4, 5, 6, 7], [3, 4, 5, 6, 7], ["_law_draw", "_law_pick"], ["len", "list"], ["len", "list"], [1], [], [], 2, fun T => Has T "_law_draw" 1 F_law_draw ∧ Has T "_law_pick" 2 F_law_pick, true⟩
theorem sc_law_spoilt : FnScope n_law_spoilt.N ["script", "town", "modes"] (defScope s_law_spoilt) := ⟨rfl, rfl, rfl, by decide +kernel, rfl, by decide +kernel, by decide +kernel⟩
theorem ck_law_spoilt : scB n_law_spoilt (defScope s_law_spoilt) = true := by decide +kernel
theorem d_law_spoilt (C : DC) (S : Sc C n_law_spoilt) (L : LkSc C (defScope s_law_spoilt)) : DSs C (defBody s_law_spoilt) m_law_spoilt :=
  (dss_cons (ds_set S 3 (by decide) rfl (de_call S 0 rfl S.fs.1 (by decide) runF_ne (dv_im (de_var S 0 (by decide) rfl) (dv_sl S 1 (by decide) rfl (dv_im (de_len S 0 rfl (dk_var S 2 (by decide) rfl)) dv_nil)))) rfl)
  (dss_cons (ds_set S 4 (by decide) rfl (de_call S 0 rfl S.fs.1 (by decide) runF_ne (dv_im (de_var S 0 (by decide) rfl) (dv_sl S 1 (by decide) rfl (dv_im (de_len S 0 rfl (DE.k (de_ixN S 2 (by decide) rfl (dk_var S 3 (by decide) rfl)))) dv_nil)))) rfl)
  (dss_cons (ds_set S 5 (by decide) rfl (DF.e (df_lst (da_cons (de_str (by decide +kernel)) (da_cons (de_str (by decide +kernel)) (da_cons (de_str (by decide +kernel)) (da_cons (de_str (by decide +kernel)) (da_cons (de_tup (da_cons (de_str (by decide +kernel)) (da_cons (de_len S 0 rfl (dk_var S 2 (by decide) rfl)) da_nil))) (da_cons (de_tup (da_cons (de_str (by decide +kernel)) (da_cons (de_neg de_int) da_nil))) (da_cons (de_tup (da_cons (de_str (by decide +kernel)) (da_cons de_bl da_nil))) (da_cons (de_tup (da_cons (de_str (by decide +kernel)) (da_cons de_int da_nil))) (da_cons (DF.e (df_lst (da_cons (de_str (by decide +kernel)) (da_cons de_int da_nil)))) (da_cons (de_tup (da_cons (de_str (by decide +kernel)) da_nil)) da_nil)))))))))))) rfl)
  (dss_cons (ds_set S 5 (by decide) rfl (de_call S 1 rfl S.fs.2 (by decide) runF_ne (dv_im (de_var S 0 (by decide) rfl) (dv_sl S 1 (by decide) rfl (dv_im (de_binN S o_add 5 (by decide) rfl (DE.k (DF.e (df_lst (da_cons de_bl (da_cons de_int (da_cons (de_str (by decide +kernel)) (da_cons (de_tup (da_cons (de_str (by decide +kernel)) (da_cons (de_bin o_sub (de_len S 0 rfl (dk_var S 2 (by decide) rfl)) (DE.k de_int)) da_nil))) da_nil)))))))) dv_nil)))) rfl)
  (dss_cons (ds_set S 6 (by decide) rfl (de_bin o_add (de_bin o_add (de_sl (de_ixN S 2 (by decide) rfl (dk_var S 3 (by decide) rfl)) do_none (do_some (de_var S 4 (by decide) rfl))) (DE.k (de_tup (da_cons (de_var S 5 (by decide) rfl) da_nil)))) (DE.k (de_sl (de_ixN S 2 (by decide) rfl (dk_var S 3 (by decide) rfl)) (do_some (de_binN S o_add 4 (by decide) rfl (DE.k de_int))) do_none))) rfl)
  (dss_cons (ds_set S 7 (by decide) rfl (de_call S 0 rfl S.fs.1 (by decide) runF_ne (dv_im (de_var S 0 (by decide) rfl) (dv_sl S 1 (by decide) rfl (dv_im de_int dv_nil)))) rfl)
  (dss_cons (ds_if (dt_cmpN S (o_eq S) 7 (by decide) rfl (DE.k de_int)) (dss_one (ds_ret (de_call S 1 rfl S.fs.2 (by decide) runF_ne (dv_im (de_var S 0 (by decide) rfl) (dv_sl S 1 (by decide) rfl (dv_im (DF.e (df_lst (da_cons de_non (da_cons (DF.e (df_list S 1 rfl (dk_var S 2 (by decide) rfl))) (da_cons (de_tup da_nil) (da_cons (de_ixN S 2 (by decide) rfl (DE.k de_int)) (da_cons (de_str (by decide +kernel)) (da_cons de_dict0 (da_cons (de_tup (da_cons (de_sl (de_ixN S 2 (by decide) rfl (DE.k de_int)) do_none (do_some de_int)) da_nil)) (da_cons (de_binN S o_add 2 (by decide) rfl (DE.k (de_tup (da_cons (de_tup da_nil) da_nil)))) da_nil)))))))))) dv_nil)))))) dss_nil)
  (dss_cons (ds_if (dt_cmpN S (o_eq S) 7 (by decide) rfl (DE.k de_int)) (dss_one (ds_set S 6 (by decide) rfl (de_call S 1 rfl S.fs.2 (by decide) runF_ne (dv_im (de_var S 0 (by decide) rfl) (dv_sl S 1 (by decide) rfl (dv_im (DF.e (df_lst (da_cons (DF.e (df_list S 1 rfl (DE.k (de_ixN S 2 (by decide) rfl (dk_var S 3 (by decide) rfl))))) (da_cons (de_sl (de_ixN S 2 (by decide) rfl (dk_var S 3 (by decide) rfl)) (do_some de_int) do_none) (da_cons (de_bin o_add (de_ixN S 2 (by decide) rfl (dk_var S 3 (by decide) rfl)) (DE.k (de_tup (da_cons (de_str (by decide +kernel)) da_nil)))) (da_cons (de_str (by decide +kernel)) da_nil)))))) dv_nil)))) rfl)) dss_nil)
  (dss_one (ds_ret (de_if (dt_cmpN S o_gt 7 (by decide) rfl (DE.k de_int)) (de_var S 2 (by decide) rfl) (de_bin o_add (de_bin o_add (de_slN S 2 (by decide) rfl do_none (do_some (de_var S 3 (by decide) rfl))) (DE.k (de_tup (da_cons (de_var S 6 (by decide) rfl) da_nil)))) (DE.k (de_slN S 2 (by decide) rfl (do_some (de_binN S o_add 3 (by decide) rfl (DE.k de_int))) do_none))))))))))))))
abbrev s_law : Stmt := top 40
def b_law_1 : M DS.Flow := (sq (asM (bnd (vim (rd 3) (ret [])) (callM F_law_good)) (st 4))
  (sq (asM (bnd (vim (ret (.int 0)) (vim (rd 3) (ret []))) (callM F_law_told)) (st 5))
  (sq (ifM (orB (asB (binN neD 4 (bin eqD (binN ixD 5 (ret (.int 0))) (ret (.str "found"))))) (andB (notB (asB (rd 4))) (asB (binN neD 5 (bnd (vim (ret (.str "code")) (ret [])) (callM F_law_refused)))))) (rtM (ret (.bool false))) (ret .nx))
  (ifM (asB (rd 4)) (sq (asM (binN ixD 5 (ret (.int 1))) (st 6))
  (sq (ifM (orB (asB (bin neD (lenO "Code" F_Code_len (rd 6)) (c1 lenD (binN ixD 3 (ret (.int 0)))))) (orB (asB (bin neD (meM "Code" "modes" F_Code_modes (rd 6) (ret [])) (pk 3))) (orB (asB (eqO "Code" false F_Code_eq (rd 6) (rd 3))) (notB (asB (eqO "Code" false F_Code_eq (rd 6) (mkM "Code" F_Code_init (consM (rd 3) (ret []))))))))) (rtM (ret (.bool false))) (ret .nx))
  (sq (ifM (orB (asB (bin neD (strO "Code" F_Code_str (rd 6)) (bin addD (bin addD (bin addD (stM (c1 lenD (pk 3))) (ret (.str " modes, "))) (stM (c1 lenD (binN ixD 3 (ret (.int 0)))))) (ret (.str " symbols"))))) (asB (eqO "Code" true F_Code_eq (rd 6) (mkM "Code" F_Code_init (consM (rd 3) (ret [])))))) (rtM (ret (.bool false))) (ret .nx))
  (sq (asM (mkM "Code" F_Code_init (consM (tupM (consM (tupM (consM (ret (.str "a")) (consM (ret .none) (ret [])))) (consM (tupM (consM (ret (.str "a")) (consM (tupM (consM (ret (.str "to")) (consM (ret (.int 0)) (ret [])))) (ret [])))) (ret [])))) (ret []))) (st 7))
  (ifM (orB (asB (bin neD (inO "Code" F_Code_eq (rd 6) (frzM (lstM (consM (rd 7) (consM (rd 3) (ret [])))))) (binN eqD 3 (meM "Code" "modes" F_Code_modes (rd 7) (ret []))))) (asB (bin neD (eqO "Code" true F_Code_eq (rd 7) (rd 6)) (binN neD 3 (meM "Code" "modes" F_Code_modes (rd 7) (ret [])))))) (rtM (ret (.bool false))) (ret .nx)))))) (ret .nx)))))
def t_law_2 : M Bool := (asB (rgIn true (rd 10) (ret (.int 0)) (ret (.int 3))))
def e_law_3 : M D := (rd 10)
def b_law_4 : M DS.Flow := (sq (asM (andV (bnd (vim (rd 9) (ret [])) (callM F_law_wholes)) (andV (bin leD (c1 lenD (pk 9)) (ret (.int 300))) (bin eqD (frzM (lcM [10] (itM (rd 9)) (st 10) t_law_2 e_law_3)) (frzM (lstM (ret [])))))) (st 4))
  (sq (asM (bnd (vim (ret (.int 1)) (vim (tupM (consM (rd 6) (consM (rd 9) (ret [])))) (ret []))) (callM F_law_told)) (st 5))
  (ifM (asB (binN eqD 4 (binN eqD 5 (bnd (vim (ret (.str "row")) (ret [])) (callM F_law_refused))))) (rtM (ret (.bool false))) (ret .nx))))
def m_law : M DS.Flow :=
  (sq (soM (bnd (vim (rd 0) (ret [])) (callM F_law_town)) 1)
  (sq (asM (bnd (vim (rd 0) (vsl 1 (vim (ret (.int 5)) (vim (ret (.int 9)) (ret []))))) (callM F_law_modes)) (st 2))
  (sq (forS (itM (tupM (consM (bnd (vim (rd 0) (vsl 1 (vim (rd 2) (ret [])))) (callM F_law_spoilt)) (consM (bnd (vim (rd 0) (vsl 1 (vim (rd 2) (ret [])))) (callM F_law_spoilt)) (consM (rd 2) (ret [])))))) (st 3) b_law_1)
  (sq (asM (mkM "Code" F_Code_init (consM (tupM (consM (tupM (consM (ret (.str "a")) (consM (ret (.str "b")) (consM (ret .none) (ret []))))) (consM (tupM (consM (ret .none) (consM (ret (.str "c")) (consM (tupM (consM (ret (.str "to")) (consM (ret (.int 0)) (ret [])))) (ret []))))) (ret [])))) (ret []))) (st 6))
  (sq (asM (bnd (vim (rd 0) (vsl 1 (vim (frzM (lstM (consM (ret (.int 0)) (consM (ret (.int 1)) (consM (ret (.int 2)) (consM (ret (.int 3)) (consM (c1 negD (ret (.int 1))) (consM (ret (.bool true)) (consM (ret .none) (consM (ret (.str "0")) (consM (tupM (consM (ret (.int 0)) (ret []))) (ret [])))))))))))) (ret [])))) (callM F_law_pick)) (st 8))
  (sq (forS (itM (tupM (consM (frzM (lstM (consM (rd 8) (ret [])))) (consM (frzM (lstM (consM (ret (.int 0)) (consM (rd 8) (ret []))))) (consM (tupM (consM (ret (.int 0)) (consM (ret (.int 1)) (ret [])))) (consM (ret .none) (consM (ret (.str "0")) (consM (ret (.dict [])) (consM (bin mulD (frzM (lstM (consM (ret (.int 0)) (ret [])))) (ret (.int 300))) (consM (bin mulD (frzM (lstM (consM (ret (.int 0)) (ret [])))) (ret (.int 301))) (ret []))))))))))) (st 9) b_law_4)
  (rtM (ret (.bool true)))))))))
def F_law : List Sl → Res D := runF 1 11 [] m_law
def n_law : Nm := ⟨["script", "town", "modes", "thing", "good", "told", "code", "other", "odd", "row", "one"], [0, 1, 2, 3, 4, 5, 6, 7, 8, 9], [1, 2, 3, 4, 5, 6, 7, 8, 9], ["_law_town", "_law_modes", "_law_spoilt", "_law_good", "_law_told", "_law_refused", "Code", "_law_pick", "_law_wholes"], ["len", "str"], ["len", "str", "range"], [], [], [], 7, fun T => HasO T "_law_town" 1 F_law_town ∧ Has T "_law_modes" 4 F_law_modes ∧ Has T "_law_spoilt" 3 F_law_spoilt ∧ Has T "_law_good" 3 F_law_good ∧ Has T "_law_told" 7 F_law_told ∧ Has T "_law_refused" 1 F_law_refused ∧ HasM T "Code" "__len__" 1 F_Code_len ∧ HasM T "Code" "modes" 1 F_Code_modes ∧ HasE T "Code" 1 F_Code_eq ∧ HasI T "Code" 4 F_Code_init ∧ HasM T "Code" "__str__" 1 F_Code_str ∧ Has T "_law_pick" 2 F_law_pick ∧ Has T "_law_wholes" 2 F_law_wholes, true⟩
theorem sc_law : FnScope n_law.N ["script"] (defScope s_law) := ⟨rfl, rfl, rfl, by decide +kernel, rfl, by decide +kernel, by decide +kernel⟩
theorem ck_law : scB n_law (defScope s_law) = true := by decide +kernel
theorem d_law (C : DC) (S : Sc C n_law) (L : LkSc C (defScope s_law)) : DSs C (defBody s_law) m_law :=
  (dss_cons (ds_setF S 1 (by decide) rfl (df_call S 0 rfl S.fs.1 (by decide) runO_ne (dv_im (de_var S 0 (by decide) rfl) dv_nil)) rfl)
  (dss_cons (ds_set S 2 (by decide) rfl (de_call S 1 rfl S.fs.2.1 (by decide) runF_ne (dv_im (de_var S 0 (by decide) rfl) (dv_sl S 1 (by decide) rfl (dv_im de_int (dv_im de_int dv_nil))))) rfl)
  (dss_cons (ds_for S (di_seq (de_tup (da_cons (de_call S 2 rfl S.fs.2.2.1 (by decide) runF_ne (dv_im (de_var S 0 (by decide) rfl) (dv_sl S 1 (by decide) rfl (dv_im (de_var S 2 (by decide) rfl) dv_nil)))) (da_cons (de_call S 2 rfl S.fs.2.2.1 (by decide) runF_ne (dv_im (de_var S 0 (by decide) rfl) (dv_sl S 1 (by decide) rfl (dv_im (de_var S 2 (by decide) rfl) dv_nil)))) (da_cons (de_var S 2 (by decide) rfl) da_nil))))) (dg_name S 3 (by decide) rfl) (dss_cons (ds_set S 4 (by decide) rfl (de_call S 3 rfl S.fs.2.2.2.1 (by decide) runF_ne (dv_im (de_var S 3 (by decide) rfl) dv_nil)) rfl)
  (dss_cons (ds_set S 5 (by decide) rfl (de_call S 4 rfl S.fs.2.2.2.2.1 (by decide) runF_ne (dv_im de_int (dv_im (de_var S 3 (by decide) rfl) dv_nil))) rfl)
  (dss_cons (ds_if (DW.t (dw_or (dt_cmpN S (o_ne S) 4 (by decide) rfl (DE.k (de_cmp (o_eq S) (de_ixN S 5 (by decide) rfl (DE.k de_int)) (DE.k (de_str (by decide +kernel)))))) (dw_or1 (DW.t (dw_and (dt_not (dt_val (de_var S 4 (by decide) rfl) rfl)) (dw_and1 (dt_cmpN S (o_ne S) 5 (by decide) rfl (DE.k (de_call S 5 rfl S.fs.2.2.2.2.2.1 (by decide) runF_ne (dv_im (de_str (by decide +kernel)) dv_nil)))))))))) (dss_one (ds_ret de_bl)) dss_nil)
  (dss_one (ds_if (dt_val (de_var S 4 (by decide) rfl) rfl) (dss_cons (ds_set S 6 (by decide) rfl (de_ixN S 5 (by decide) rfl (DE.k de_int)) rfl)
  (dss_cons (ds_if (DW.t (dw_or (dt_cmp (o_ne S) (de_lenO S 0 rfl S.fs.2.2.2.2.2.2.1 (by decide) runF_ne (de_var S 6 (by decide) rfl)) (DE.k (de_len S 0 rfl (DE.k (de_ixN S 3 (by decide) rfl (DE.k de_int)))))) (dw_or (dt_cmp (o_ne S) (de_meth0 S S.fs.2.2.2.2.2.2.2.1 (by decide) (de_var S 6 (by decide) rfl) rfl) (dk_var S 3 (by decide) rfl)) (dw_or (dt_eqO S S.fs.2.2.2.2.2.2.2.2.1 (by decide) runF_ne (de_var S 6 (by decide) rfl) (de_var S 3 (by decide) rfl)) (dw_or1 (dt_not (dt_eqO S S.fs.2.2.2.2.2.2.2.2.1 (by decide) runF_ne (de_var S 6 (by decide) rfl) (de_make S 6 rfl S.fs.2.2.2.2.2.2.2.2.2.1 (by decide) (da_cons (de_var S 3 (by decide) rfl) da_nil) rfl rfl)))))))) (dss_one (ds_ret de_bl)) dss_nil)
  (dss_cons (ds_if (DW.t (dw_or (dt_cmp (o_ne S) (de_strO S 1 rfl S.fs.2.2.2.2.2.2.2.2.2.2.1 (by decide) runF_ne (de_var S 6 (by decide) rfl)) (DE.k (de_bin o_add (de_bin o_add (de_bin o_add (de_str1 S 1 rfl (de_len S 0 rfl (dk_var S 3 (by decide) rfl))) (DE.k (de_str (by decide +kernel)))) (DE.k (de_str1 S 1 rfl (de_len S 0 rfl (DE.k (de_ixN S 3 (by decide) rfl (DE.k de_int))))))) (DE.k (de_str (by decide +kernel)))))) (dw_or1 (dt_neO S S.fs.2.2.2.2.2.2.2.2.1 (by decide) runF_ne (de_var S 6 (by decide) rfl) (de_make S 6 rfl S.fs.2.2.2.2.2.2.2.2.2.1 (by decide) (da_cons (de_var S 3 (by decide) rfl) da_nil) rfl rfl))))) (dss_one (ds_ret de_bl)) dss_nil)
  (dss_cons (ds_set S 7 (by decide) rfl (de_make S 6 rfl S.fs.2.2.2.2.2.2.2.2.2.1 (by decide) (da_cons (de_tup (da_cons (de_tup (da_cons (de_str (by decide +kernel)) (da_cons de_non da_nil))) (da_cons (de_tup (da_cons (de_str (by decide +kernel)) (da_cons (de_tup (da_cons (de_str (by decide +kernel)) (da_cons de_int da_nil))) da_nil))) da_nil))) da_nil) rfl rfl) rfl)
  (dss_one (ds_if (DW.t (dw_or (dt_cmp (o_ne S) (de_inO S S.fs.2.2.2.2.2.2.2.2.1 (by decide) runF_ne (de_var S 6 (by decide) rfl) (DF.e (df_lst (da_cons (de_var S 7 (by decide) rfl) (da_cons (de_var S 3 (by decide) rfl) da_nil))))) (DE.k (de_cmpN S (o_eq S) 3 (by decide) rfl (DE.k (de_meth0 S S.fs.2.2.2.2.2.2.2.1 (by decide) (de_var S 7 (by decide) rfl) rfl))))) (dw_or1 (dt_cmp (o_ne S) (de_neO S S.fs.2.2.2.2.2.2.2.2.1 (by decide) runF_ne (de_var S 7 (by decide) rfl) (de_var S 6 (by decide) rfl)) (DE.k (de_cmpN S (o_ne S) 3 (by decide) rfl (DE.k (de_meth0 S S.fs.2.2.2.2.2.2.2.1 (by decide) (de_var S 7 (by decide) rfl) rfl)))))))) (dss_one (ds_ret de_bl)) dss_nil)))))) dss_nil))))))
  (dss_cons (ds_set S 6 (by decide) rfl (de_make S 6 rfl S.fs.2.2.2.2.2.2.2.2.2.1 (by decide) (da_cons (de_tup (da_cons (de_tup (da_cons (de_str (by decide +kernel)) (da_cons (de_str (by decide +kernel)) (da_cons de_non da_nil)))) (da_cons (de_tup (da_cons de_non (da_cons (de_str (by decide +kernel)) (da_cons (de_tup (da_cons (de_str (by decide +kernel)) (da_cons de_int da_nil))) da_nil)))) da_nil))) da_nil) rfl rfl) rfl)
  (dss_cons (ds_set S 8 (by decide) rfl (de_call S 7 rfl S.fs.2.2.2.2.2.2.2.2.2.2.2.1 (by decide) runF_ne (dv_im (de_var S 0 (by decide) rfl) (dv_sl S 1 (by decide) rfl (dv_im (DF.e (df_lst (da_cons de_int (da_cons de_int (da_cons de_int (da_cons de_int (da_cons (de_neg de_int) (da_cons de_bl (da_cons de_non (da_cons (de_str (by decide +kernel)) (da_cons (de_tup (da_cons de_int da_nil)) da_nil))))))))))) dv_nil)))) rfl)
  (dss_cons (ds_for S (di_seq (de_tup (da_cons (DF.e (df_lst (da_cons (de_var S 8 (by decide) rfl) da_nil))) (da_cons (DF.e (df_lst (da_cons de_int (da_cons (de_var S 8 (by decide) rfl) da_nil)))) (da_cons (de_tup (da_cons de_int (da_cons de_int da_nil))) (da_cons de_non (da_cons (de_str (by decide +kernel)) (da_cons de_dict0 (da_cons (de_bin o_mul (DF.e (df_lst (da_cons de_int da_nil))) (DE.k de_int)) (da_cons (de_bin o_mul (DF.e (df_lst (da_cons de_int da_nil))) (DE.k de_int)) da_nil)))))))))) (dg_name S 9 (by decide) rfl) (dss_cons (ds_set S 4 (by decide) rfl (de_and (de_call S 8 rfl S.fs.2.2.2.2.2.2.2.2.2.2.2.2 (by decide) runF_ne (dv_im (de_var S 9 (by decide) rfl) dv_nil)) (de_and (de_cmp o_le (de_len S 0 rfl (dk_var S 9 (by decide) rfl)) (DE.k de_int)) (de_one (de_cmp (o_eq S) (DF.e (df_lc S L (own := [("one", 10)]) (vs := [10]) (gs := []) (bs := ["range"]) (by decide +kernel) (di_seq (de_var S 9 (by decide) rfl)) (fun CS' S' L' => (dg_name S' 10 (by decide) rfl)) (fun CS' S' L' => (dts_one (dt_ninRg1 S' 0 rfl (de_var S' 10 (by decide) rfl) de_int))) (fun CS' S' L' => (de_var S' 10 (by decide) rfl)) (by decide))) (DE.k (DF.e (df_lst da_nil))))))) rfl)
  (dss_cons (ds_set S 5 (by decide) rfl (de_call S 4 rfl S.fs.2.2.2.2.1 (by decide) runF_ne (dv_im de_int (dv_im (de_tup (da_cons (de_var S 6 (by decide) rfl) (da_cons (de_var S 9 (by decide) rfl) da_nil))) dv_nil))) rfl)
  (dss_one (ds_if (dt_cmpN S (o_eq S) 4 (by decide) rfl (DE.k (de_cmpN S (o_eq S) 5 (by decide) rfl (DE.k (de_call S 5 rfl S.fs.2.2.2.2.2.1 (by decide) runF_ne (dv_im (de_str (by decide +kernel)) dv_nil)))))) (dss_one (ds_ret de_bl)) dss_nil)))))
  (dss_one (ds_ret de_bl))))))))
abbrev s_ini_NoMeaning : Stmt := inClass (top 4) 0
/-- the count of draws and the cells -/
def Tw (ns : List Int) (B : Nat) (t : List D) : Prop := ∃ (c : Int) (town : List Int), 0 ≤ c ∧ c ≤ B ∧ town.length = ns.length ∧ t = .int c :: nI town
theorem Tw.mono {ns : List Int} {B B' : Nat} {t : List D} (h : Tw ns B t) (hb : B ≤ B') : Tw ns B' t := by
  obtain ⟨c, town, h0, h1, hl, rfl⟩ := h
  exact ⟨c, town, h0, by omega, hl, rfl⟩
theorem atI_map {ns : List Int} {i : Int} (h0 : 0 ≤ i) (h1 : i < ns.length) : ∃ z, atI (nI ns) i = some (.int z) := by
  unfold atI ixN
  rw [nI_length, if_pos h0, if_pos h1]
  exact ⟨ns[i.toNat]'(by omega), nI_get (by omega)⟩
theorem draw_ok {ns : List Int} {B : Nat} {t : List D} {many : Int} (ht : Tw ns B t) (hB : B < 2 ^ 60) (hm : 0 < many) (hm2 : many < 2 ^ 29) :
    ∃ (d : Int) (t' : List D), 0 ≤ d ∧ d < many ∧ Tw ns (B + 1) t' ∧ F_law_draw [.im (.list (nI ns)), .ml t, .im (.int many)] =
      .ok (.int d) [.im (.list (nI ns)), .ml t', .im (.int many)] := by
  obtain ⟨c, town, h0, h1, hl, rfl⟩ := ht
  have hm3 : many < 1073741824 := by omega
  by_cases he : ns = []
  · subst he
    have hl : town = [] := by cases town with | nil => rfl | cons a l => cases hl
    subst hl
    rw [nI_nil]
    refine ⟨((c + 1) * (c + 1) * 7) / 3 % many, [.int (c + 1)], Int.emod_nonneg _ (by omega), Int.emod_lt_of_pos _ hm, ⟨c + 1, [], by omega, by omega, rfl, rfl⟩, ?_⟩
    have m1 : mulOk (c + 1) (c + 1) = true := by simp [mulOk]; omega
    have m2 : mulOk ((c + 1) * (c + 1)) 7 = true := by simp [mulOk]
    have e0 : eqD (.list []) (.list []) = some (.bool true) := rfl
    simp [F_law_draw, runF, m_law_draw, e0, atI, ixN, m1, m2, hm]
  · have hposN : 0 < ns.length := by
      cases ns with
      | nil => exact absurd rfl he
      | cons a l => simp
    have hpos : 0 < (ns.length : Int) := by omega
    have e0 : eqD (.list (nI ns)) (.list []) = some (.bool false) := by
      rw [eqD_nI_nil]
      cases ns with
      | nil => exact absurd rfl he
      | cons a l => rfl
    have ha0 := Int.emod_nonneg (c + 1) (b := (ns.length : Int)) (by omega)
    have ha1 := Int.emod_lt_of_pos (c + 1) hpos
    obtain ⟨x, hx⟩ := atI_map (ns := ns) ha0 ha1
    obtain ⟨y, hy⟩ := atI_map (ns := (c + 1) :: town) (i := 1 + (c + 1) % (ns.length : Int)) (by omega) (by simp; omega)
    have h00 : atI (PyData.int c :: nI town) 0 = some (.int c) := by
      have : (0 : Int) < ((town.length : Int) + 1) := by omega
      simp [atI, ixN, this]
    have h01 : atI (PyData.int (c + 1) :: nI town) 0 = some (.int (c + 1)) := by
      have : (0 : Int) < ((town.length : Int) + 1) := by omega
      simp [atI, ixN, this]
    have hs0 : ixN (town.length + 1) 0 = some 0 := by
      have : (0 : Int) < ((town.length : Int) + 1) := by omega
      simp [ixN, this]
    have hs1 : ixN (town.length + 1) (1 + (c + 1) % (ns.length : Int)) = some (1 + (c + 1) % (ns.length : Int)).toNat := by
      unfold ixN
      rw [if_pos (by omega), if_pos (by simp; omega)]
    rw [nI_cons] at hy
    have p1 : ∀ z : Int, mulOk 104729 z = true := fun z => by simp [mulOk]
    have p2 : ∀ z : Int, mulOk z 69621 = true := fun z => by simp [mulOk]
    have p3 : ∀ z : Int, (z % 4294967291).natAbs < 18446744073709551616 := fun z => by
      have a := Int.emod_nonneg z (b := 4294967291) (by omega)
      have b := Int.emod_lt_of_pos z (b := 4294967291) (by omega)
      omega
    have plain : ∀ b : Bool, (decide (1000000000000000000 ≤ x) && decide (0 < y)) = false → ∃ (d : Int) (t' : List D), 0 ≤ d ∧ d < many ∧ Tw ns (B + 1) t' ∧ F_law_draw [.im (.list (nI ns)), .ml (PyData.int c :: nI town), .im (.int many)] =
      .ok (.int d) [.im (.list (nI ns)), .ml t', .im (.int many)] := fun _ hf => by
      refine ⟨((((x + 104729 * (c + 1)) % 4294967291) ^ 5 % 4294967279 / 64 * 69621 + ((x + 104729 * (c + 1)) % 4294967291) ^ 5 % 4294967279) % 4294967231 / 8) % many, .int (c + 1) :: nI town, Int.emod_nonneg _ (by omega), Int.emod_lt_of_pos _ hm, ⟨c + 1, town, by omega, by omega, hl, rfl⟩, ?_⟩
      by_cases hb : (1000000000000000000 : Int) ≤ x
      · have hy0 : ¬ 0 < y := by simpa [hb] using hf
        simp [F_law_draw, runF, m_law_draw, e0, h00, h01, hs0, hx, hy, hb, hy0, hm, hposN, p1, p2, p3, hm3]
      · simp [F_law_draw, runF, m_law_draw, e0, h00, h01, hs0, hx, hy, hb, hm, hposN, p1, p2, p3, hm3]
    by_cases hb : (1000000000000000000 : Int) ≤ x
    · by_cases hb2 : 0 < y
      · refine ⟨y % many, .int (c + 1) :: nI (town.set ((c + 1) % (ns.length : Int)).toNat (y / many)), Int.emod_nonneg _ (by omega), Int.emod_lt_of_pos _ hm, ⟨c + 1, town.set ((c + 1) % (ns.length : Int)).toNat (y / many), by omega, by omega, by simpa using hl, rfl⟩, ?_⟩
        have hset : (PyData.int (c + 1) :: nI town).set (1 + (c + 1) % (ns.length : Int)).toNat (.int (y / many)) = PyData.int (c + 1) :: nI (town.set ((c + 1) % (ns.length : Int)).toNat (y / many)) := by
          rw [show (1 + (c + 1) % (ns.length : Int)).toNat = ((c + 1) % (ns.length : Int)).toNat + 1 by omega, List.set_cons_succ, nI, nI, List.map_set]
        simp [F_law_draw, runF, m_law_draw, e0, h00, h01, hs0, hx, hy, hb, hb2, hs1, hm, hposN, hset, hm3]
      · exact plain true (by simp [hb2])
    · exact plain true (by simp [hb])
theorem town_ok (ns : List Int) (hl : ns.length ≤ 63) : F_law_town [.im (.list (nI ns))] = .ok (.int 0 :: nI ns) [.im (.list (nI ns))] := by
  have h1 : 1 + ns.length ≤ sizeLine := by simp only [sizeLine]; omega
  have h2 : 1 ≤ sizeLine := by simp only [sizeLine]; omega
  simp [F_law_town, runO, m_law_town, h1, h2]
theorem town_tw (ns : List Int) : Tw ns 0 (.int 0 :: nI ns) := ⟨0, ns, by omega, by omega, rfl, rfl⟩
theorem pick_ok {ns : List Int} {B : Nat} {t : List D} {ds : List D} (ht : Tw ns B t) (hB : B < 2 ^ 60) (h0 : ds ≠ []) (h1 : ds.length < 2 ^ 29) :
    ∃ (x : D) (t' : List D), x ∈ ds ∧ Tw ns (B + 1) t' ∧ F_law_pick [.im (.list (nI ns)), .ml t, .im (.list ds)] = .ok x [.im (.list (nI ns)), .ml t', .im (.list ds)] := by
  have hp : 0 < ds.length := List.length_pos_iff.mpr h0
  obtain ⟨d, t', d0, d1, ht', e⟩ := draw_ok (many := ds.length) ht hB (by omega) (by omega)
  refine ⟨ds[d.toNat]'(by omega), t', List.getElem_mem _, ht', ?_⟩
  have ha : atI ds d = some (ds[d.toNat]'(by omega)) := by
    unfold atI ixN
    rw [if_pos d0, if_pos d1]
    simp
  simp [F_law_pick, runF, m_law_pick, e, ha]
/-- whole numbers below many -/
def Row (many : Int) (l : List Int) : Prop := ∀ x ∈ l, 0 ≤ x ∧ x < many
theorem is_number_int (i a b : Int) : F_is_number [.im (.int i), .im (.int a), .im (.int b)] = .ok (.bool (decide (a ≤ i) && decide (i ≤ b))) [.im (.int i), .im (.int a), .im (.int b)] := by
  by_cases h : a ≤ i <;> simp [F_is_number, runF, m_is_number, h]
theorem allT {α : Type} (l : List α) : allD (.list (l.map fun _ => PyData.bool true)) = some (.bool true) := by
  have : (l.map fun _ => PyData.bool true) = (l.map fun _ => true).map PyData.bool := by simp
  rw [this, allD_bool]; simp
theorem at0 (d : D) (l : List D) : atI (d :: l) 0 = some d := DS.atI_nat (i := 0) (by simp)
theorem at1 (a d : D) (l : List D) : atI (a :: d :: l) 1 = some d := DS.atI_nat (i := 1) (by simp)
/-- data that isinstance answers of -/
def okV : D → Bool
  | .dict (_ :: _) => false
  | _ => true
def isNum (d : D) (a b : Int) : Bool := match d with
  | .int i => decide (a ≤ i) && decide (i ≤ b)
  | _ => false
theorem is_number_any {d : D} (a b : Int) (h : okV d = true) : F_is_number [.im d, .im (.int a), .im (.int b)] = .ok (.bool (isNum d a b)) [.im d, .im (.int a), .im (.int b)] := by
  cases d with
  | int i => exact is_number_int i a b
  | none => simp [F_is_number, runF, m_is_number, isNum]
  | bool i => simp [F_is_number, runF, m_is_number, isNum]
  | str i => simp [F_is_number, runF, m_is_number, isNum]
  | list i => simp [F_is_number, runF, m_is_number, isNum]
  | tuple i => simp [F_is_number, runF, m_is_number, isNum]
  | dict kvs =>
    cases kvs with
    | cons p r => cases h
    | nil => simp [F_is_number, runF, m_is_number, isNum]
def isRow (d : D) (many : Int) : Bool := match d with
  | .list ds => decide (ds.length ≤ 300) && ds.all fun x => isNum x 0 (many - 1)
  | _ => false
theorem is_row_any {d : D} (many : Int) (h : okV d = true) (hl : ∀ ds, d = .list ds → ds.length ≤ 300 → ∀ x ∈ ds, okV x = true) : F_is_row [.im d, .im (.int many)] = .ok (.bool (isRow d many)) [.im d, .im (.int many)] := by
  cases d with
  | int i => simp [F_is_row, runF, m_is_row, isRow]
  | none => simp [F_is_row, runF, m_is_row, isRow]
  | bool i => simp [F_is_row, runF, m_is_row, isRow]
  | str i => simp [F_is_row, runF, m_is_row, isRow]
  | tuple i => simp [F_is_row, runF, m_is_row, isRow]
  | dict kvs =>
    cases kvs with
    | cons p r => cases h
    | nil => simp [F_is_row, runF, m_is_row, isRow]
  | list ds =>
    by_cases c : ds.length ≤ 300
    · have e : lcA [2] (DS.st 2) (ret true) e_is_row_1 [] ds [.im (.list ds), .im (.int many), .un] = .ok (ds.map fun x => .bool (isNum x 0 (many - 1))) [.im (.list ds), .im (.int many), .un] := by
        have := lc_map (f := DS.st 2) (el := e_is_row_1) (vs := [2]) (fun d : D => d) (fun x => .bool (isNum x 0 (many - 1))) (fun x => [.im (.list ds), .im (.int many), .im x]) (ρ := [.im (.list ds), .im (.int many), .un]) (ρ0 := [.im (.list ds), .im (.int many), .un]) rfl ds (le_sz (by omega)) fun x hx => ⟨rfl, rfl, by
          have := is_number_any (d := x) 0 (many - 1) (hl ds rfl c x hx)
          simp [e_is_row_1, this]⟩
        simpa using this
      have e2 : allD (.list (ds.map fun x => .bool (isNum x 0 (many - 1)))) = some (.bool (ds.all fun x => isNum x 0 (many - 1))) := by
        have : (ds.map fun x => PyData.bool (isNum x 0 (many - 1))) = (ds.map fun x => isNum x 0 (many - 1)).map PyData.bool := by simp
        rw [this, allD_bool, List.all_map]
        rfl
      have c' : (ds.length : Int) ≤ 300 := by omega
      simp [F_is_row, runF, m_is_row, c', e, e2, isRow, c]
    · have c' : ¬ (ds.length : Int) ≤ 300 := by omega
      simp [F_is_row, runF, m_is_row, c', isRow, c]
/-! codes: what a code is, and codes.py -/
inductive Mg where
  | no
  | say (s : Str)
  | go (once : Bool) (m : Nat)
def Mg.d : Mg → D
  | .no => .none
  | .say s => .str s
  | .go o m => .tuple [.str (if o then "once" else "to"), .int m]
abbrev Tb := List (List Mg)
def rowD (r : List Mg) : D := .tuple (r.map Mg.d)
def tbD (T : Tb) : D := .tuple (T.map rowD)
def GoodS (s : Str) : Prop := 1 ≤ s.length ∧ s.length ≤ 3 ∧ ∀ c ∈ s.cps.toList, 33 ≤ c ∧ c ≤ 126
def okMg (n : Nat) : Mg → Prop
  | .no => True
  | .say s => GoodS s
  | .go _ m => m < n
structure Code (T : Tb) (w : Nat) : Prop where
  h1 : 1 ≤ T.length
  h4 : T.length ≤ 4
  w2 : 2 ≤ w
  w8 : w ≤ 8
  wid : ∀ r ∈ T, r.length = w
  ok : ∀ r ∈ T, ∀ g ∈ r, okMg T.length g
def codeD (T : Tb) : D := .dict [(.str "Code", .none), (.str "table", tbD T)]
def rN (r : List Nat) : List Int := r.map fun (x : Nat) => (x : Int)
@[simp] theorem rN_length (r : List Nat) : (rN r).length = r.length := by simp [rN]
theorem row_nat {w : Nat} : ∀ {l : List Int}, Row w l → ∃ r : List Nat, l = rN r ∧ ∀ x ∈ r, x < w
  | [], _ => ⟨[], rfl, fun x hx => by cases hx⟩
  | a :: l, h => by
    obtain ⟨r, rfl, hr⟩ := row_nat (fun x hx => h x (List.mem_cons_of_mem _ hx))
    have := h a List.mem_cons_self
    refine ⟨a.toNat :: r, ?_, fun x hx => ?_⟩
    · simp only [rN, List.map_cons]; rw [Int.toNat_of_nonneg this.1]
    · rcases List.mem_cons.mp hx with rfl | hx
      · omega
      · exact hr x hx
theorem nat_row {w : Nat} {r : List Nat} (h : ∀ x ∈ r, x < w) : Row w (rN r) := fun x hx => by
  obtain ⟨y, hy, rfl⟩ := List.mem_map.mp hx
  have := h y hy
  exact ⟨by omega, by omega⟩
/-! ### is it a code -/
theorem lt1 (c d : Nat) : ([c] < [d]) ↔ c < d := by
  constructor
  · intro h
    rcases List.cons_lt_cons_iff.mp h with h | ⟨_, h⟩
    · exact h
    · cases h
  · intro h; exact List.cons_lt_cons_iff.mpr (.inl h)
theorem leS_bang (c : Nat) (h : 33 ≤ c) : leD (.str "!") (.str ⟨#[c]⟩) = some (.bool true) := by
  have e : ("!" : Str).cps.toList = [33] := by decide +kernel
  show some (PyData.bool (!decide (([c] : List Nat) < ("!" : Str).cps.toList))) = _
  rw [e]
  have : ¬ (([c] : List Nat) < [33]) := by rw [lt1]; omega
  simp [this]
theorem leS_tilde (c : Nat) (h : c ≤ 126) : leD (.str ⟨#[c]⟩) (.str "~") = some (.bool true) := by
  have e : ("~" : Str).cps.toList = [126] := by decide +kernel
  show some (PyData.bool (!decide (("~" : Str).cps.toList < ([c] : List Nat)))) = _
  rw [e]
  have : ¬ ([126] < ([c] : List Nat)) := by rw [lt1]; omega
  simp [this]
theorem is_signs_ok {s : Str} (h : GoodS s) : F_is_signs [.im (.str s), .im (.int 1), .im (.int 3)] = .ok (.bool true) [.im (.str s), .im (.int 1), .im (.int 3)] := by
  have e : lcA [3] (DS.st 3) (ret true) e_is_signs_1 [] (signsD s) [.im (.str s), .im (.int 1), .im (.int 3), .un] = .ok (s.cps.toList.map fun _ => .bool true) [.im (.str s), .im (.int 1), .im (.int 3), .un] := by
    refine lc_map (fun c : Nat => PyData.str ⟨#[c]⟩) _ (fun x => [.im (.str s), .im (.int 1), .im (.int 3), .im (.str ⟨#[x]⟩)]) rfl s.cps.toList (le_sz (by have := h.2.1; simp [Str.length] at this; simp; omega)) fun x hx => ⟨rfl, rfl, ?_⟩
    have := h.2.2 x hx
    simp [e_is_signs_1, leS_bang x this.1, leS_tilde x this.2]
  have h1 : (1 : Int) ≤ s.length := by have := h.1; omega
  have h3 : (s.length : Int) ≤ 3 := by have := h.2.1; omega
  have hl : lenD (.str s) = some (.int s.length) := by
    show (if s.length ≤ sizeLine then some (PyData.int s.length) else none) = _
    rw [if_pos (le_sz (by have := h.2.1; omega))]
  have hw : walkD (.str s) = some (signsD s) := rfl
  simp [F_is_signs, runF, m_is_signs, hl, h1, h3, hw, e, allT]
theorem word_in (o : Bool) : inD (.str (if o then "once" else "to")) (.tuple [.str "to", .str "once"]) = some (.bool true) := by
  cases o
  · show (if inOk (.str "to") [.str "to", .str "once"] = true then some (PyData.bool ([PyData.str "to", .str "once"].any fun y => PyData.eqv y (.str "to"))) else none) = _
    rw [if_pos (by decide +kernel), show ([PyData.str "to", .str "once"].any fun y => PyData.eqv y (.str "to")) = true by decide +kernel]
  · show (if inOk (.str "once") [.str "to", .str "once"] = true then some (PyData.bool ([PyData.str "to", .str "once"].any fun y => PyData.eqv y (.str "once"))) else none) = _
    rw [if_pos (by decide +kernel), show ([PyData.str "to", .str "once"].any fun y => PyData.eqv y (.str "once")) = true by decide +kernel]
theorem is_meaning_ok {n : Nat} {g : Mg} (h : okMg n g) : F_is_meaning [.im g.d, .im (.int n)] = .ok (.bool true) [.im g.d, .im (.int n)] := by
  cases g with
  | no => simp [F_is_meaning, runF, m_is_meaning, Mg.d, isNone]
  | say s => simp [F_is_meaning, runF, m_is_meaning, Mg.d, isNone, is_signs_ok h]
  | go o m =>
    have h : m < n := h
    have a0 : atI [PyData.str (if o then "once" else "to"), PyData.int m] 0 = some (.str (if o then "once" else "to")) := rfl
    have a1 : atI [PyData.str (if o then "once" else "to"), PyData.int m] 1 = some (.int m) := rfl
    have q1 : (0 : Int) ≤ m := by omega
    have q2 : (m : Int) ≤ (n : Int) - 1 := by omega
    have sz : 2 ≤ sizeLine := le_sz (by omega)
    simp [F_is_meaning, runF, m_is_meaning, Mg.d, a0, a1, is_number_int, q1, q2, word_in, sz]
theorem is_modes_ok {T : Tb} {w : Nat} (h : Code T w) : F_is_modes [.im (tbD T)] = .ok (.bool true) [.im (tbD T)] := by
  obtain ⟨r0, T', rfl⟩ : ∃ r0 T', T = r0 :: T' := by
    cases T with
    | nil => exact absurd h.h1 (by simp)
    | cons a b => exact ⟨a, b, rfl⟩
  generalize hT : r0 :: T' = T at h
  have a0 : atI (T.map rowD) 0 = some (rowD r0) := by subst hT; exact at0 _ _
  have h0 : r0.length = w := h.wid r0 (by rw [← hT]; exact List.mem_cons_self)
  obtain ⟨ρ', e, z1, z2, rfl⟩ := for_pre (f := DS.st 1) (b := b_is_modes_2) rowD (fun _ ρ => ∃ z1 z2, ρ = [.im (tbD T), z1, z2]) T [.im (tbD T), .un, .un] ⟨.un, .un, rfl⟩ (by
    rintro pre r post ρ hp ⟨z1, z2, rfl⟩
    have hr : r ∈ T := by rw [hp]; simp
    have hw := h.wid r hr
    have e : lcA [2] (DS.st 2) (ret true) e_is_modes_1 [] (r.map Mg.d) [.im (tbD T), .im (rowD r), z2] = .ok (r.map fun _ => .bool true) [.im (tbD T), .im (rowD r), .un] := by
      refine lc_map Mg.d _ (fun g => [.im (tbD T), .im (rowD r), .im g.d]) rfl r (le_sz (by have := h.w8; omega)) fun g hg => ⟨rfl, rfl, ?_⟩
      have := is_meaning_ok (h.ok r hr g hg)
      simp [e_is_modes_1, tbD, this]
    refine ⟨_, ?_, .im (rowD r), .un, rfl⟩
    rw [forStep_ok rfl]
    have q1 : (2 : Int) ≤ w := by have := h.w2; omega
    have q2 : (w : Int) ≤ 8 := by have := h.w8; omega
    simp only [tbD, rowD] at e a0 ⊢
    simp [b_is_modes_2, q1, q2, a0, hw, h0, e, allT])
  have q1 : (1 : Int) ≤ T.length := by have := h.h1; omega
  have q4 : (T.length : Int) ≤ 4 := by have := h.h4; omega
  simp only [tbD] at e ⊢
  simp [F_is_modes, runF, m_is_modes, q1, q4, e]
/-! ### the class -/
theorem code_init {T : Tb} {w : Nat} (h : Code T w) : F_Code_init [.mi "Code" [], .im (tbD T)] = .ok .none [.mi "Code" [(.str "table", tbD T)], .im (tbD T)] := by
  have sl : 900 > 0 := by omega
  simp [F_Code_init, runX, m_Code_init, is_modes_ok h, lkF]
theorem code_fld (T : Tb) : fldD "Code" "table" (codeD T) = some (tbD T) := by
  simp [fldD, codeD, lkF]
theorem code_len {T : Tb} {w : Nat} (h : Code T w) : F_Code_len [.im (codeD T)] = .ok (.int w) [.im (codeD T)] := by
  obtain ⟨r0, T', rfl⟩ : ∃ r0 T', T = r0 :: T' := by
    cases T with
    | nil => exact absurd h.h1 (by simp)
    | cons a b => exact ⟨a, b, rfl⟩
  have h0 : r0.length = w := h.wid r0 List.mem_cons_self
  have a0 : ixD (tbD (r0 :: T')) (.int 0) = some (rowD r0) := at0 _ _
  simp [F_Code_len, runF, m_Code_len, code_fld, a0, rowD, h0]
/-! ### saying -/
abbrev Stt := Nat × Option Nat
def stD (s : Stt) : D := .tuple [.int s.1, match s.2 with | none => .none | some m => .int m]
def mgAt (T : Tb) (s : Stt) (x : Nat) : Mg := ((T[s.2.getD s.1]?).bind (·[x]?)).getD .no
def stp (T : Tb) (s : Stt) (x : Nat) : Option (Str × Stt) := match mgAt T s x with
  | .no => none
  | .say z => some (z, (s.1, none))
  | .go false m => some ("", (m, none))
  | .go true m => some ("", (s.1, some m))
def SOk (T : Tb) (s : Stt) : Prop := s.1 < T.length ∧ ∀ m, s.2 = some m → m < T.length
theorem SOk.at {T : Tb} {s : Stt} (h : SOk T s) : s.2.getD s.1 < T.length := by
  obtain ⟨a, o⟩ := s
  cases o with
  | none => exact h.1
  | some m => exact h.2 m rfl
theorem mg_get {T : Tb} {w : Nat} (h : Code T w) {s : Stt} (hs : SOk T s) {x : Nat} (hx : x < w) : ∃ r, T[s.2.getD s.1]? = some r ∧ r[x]? = some (mgAt T s x) ∧ okMg T.length (mgAt T s x) := by
  have hlt := hs.at
  have e1 : T[s.2.getD s.1]? = some T[s.2.getD s.1] := List.getElem?_eq_getElem hlt
  have hw := h.wid _ (List.getElem_mem hlt)
  have e2 : (T[s.2.getD s.1])[x]? = some ((T[s.2.getD s.1])[x]'(by omega)) := List.getElem?_eq_getElem (by omega)
  have e3 : mgAt T s x = (T[s.2.getD s.1])[x]'(by omega) := by
    unfold mgAt
    rw [e1, Option.bind_some, e2]
    rfl
  exact ⟨_, e1, by rw [e2, e3], by rw [e3]; exact h.ok _ (List.getElem_mem hlt) _ (List.getElem_mem _)⟩
theorem stp_ok {T : Tb} {w : Nat} (h : Code T w) {s s' : Stt} (hs : SOk T s) {x : Nat} (hx : x < w) {z : Str} (e : stp T s x = some (z, s')) : SOk T s' ∧ z.length ≤ 3 := by
  obtain ⟨r, _, _, ok⟩ := mg_get h hs hx
  unfold stp at e
  cases hm : mgAt T s x with
  | no => rw [hm] at e; cases e
  | say y =>
    rw [hm] at e ok
    cases e
    exact ⟨⟨hs.1, fun m hm => by cases hm⟩, ok.2.1⟩
  | go o m =>
    rw [hm] at e ok
    have ok : m < T.length := ok
    cases o with
    | false => cases e; exact ⟨⟨ok, fun m hm => by cases hm⟩, by decide +kernel⟩
    | true => cases e; exact ⟨⟨hs.1, fun k hk => by cases hk; exact ok⟩, by decide +kernel⟩
def tellD : Option (Str × Stt) → D
  | none => .none
  | some (z, s) => .tuple [.str z, stD s]
theorem eqS (a b : Str) : eqD (.str a) (.str b) = some (.bool (decide (a = b))) := eqD_tD a b
theorem ne_to : decide (("once" : Str) = "to") = false := by decide +kernel
theorem step_ok {T : Tb} {w : Nat} (h : Code T w) {s : Stt} (hs : SOk T s) {x : Nat} (hx : x < w) : F_step [.im (codeD T), .im (stD s), .im (.int x)] = .ok (tellD (stp T s x)) [.im (codeD T), .im (stD s), .im (.int x)] := by
  obtain ⟨r, e1, e2, ok⟩ := mg_get h hs hx
  have i1 : atI (T.map rowD) ((s.2.getD s.1 : Nat) : Int) = some (rowD r) := DS.atI_nat (by rw [List.getElem?_map, e1]; rfl)
  have i2 : atI (r.map Mg.d) (x : Int) = some (mgAt T s x).d := DS.atI_nat (by rw [List.getElem?_map, e2]; rfl)
  have sz : 2 ≤ sizeLine := le_sz (by omega)
  have hf := code_fld T
  unfold stp
  obtain ⟨a, o⟩ := s
  cases o with
  | none =>
    simp only [Option.getD_none] at i1
    cases hm : mgAt T (a, none) x with
    | no => rw [hm] at i2; simp [F_step, runF, m_step, stD, hf, tbD, rowD, i1, i2, isNone, Mg.d, tellD]
    | say y => rw [hm] at i2; simp [F_step, runF, m_step, stD, hf, tbD, rowD, i1, i2, isNone, Mg.d, tellD, sz]
    | go p m =>
      rw [hm] at i2
      cases p
      · simp [F_step, runF, m_step, stD, hf, tbD, rowD, i1, i2, isNone, Mg.d, tellD, sz, eqS]
      · simp [F_step, runF, m_step, stD, hf, tbD, rowD, i1, i2, isNone, Mg.d, tellD, sz, eqS, ne_to]
  | some o =>
    simp only [Option.getD_some] at i1
    cases hm : mgAt T (a, some o) x with
    | no => rw [hm] at i2; simp [F_step, runF, m_step, stD, hf, tbD, rowD, i1, i2, isNone, Mg.d, tellD]
    | say y => rw [hm] at i2; simp [F_step, runF, m_step, stD, hf, tbD, rowD, i1, i2, isNone, Mg.d, tellD, sz]
    | go p m =>
      rw [hm] at i2
      cases p
      · simp [F_step, runF, m_step, stD, hf, tbD, rowD, i1, i2, isNone, Mg.d, tellD, sz, eqS]
      · simp [F_step, runF, m_step, stD, hf, tbD, rowD, i1, i2, isNone, Mg.d, tellD, sz, eqS, ne_to]
def enK (k : Nat) (ds : List D) : List D := (ds.zipIdx k).map fun p => .tuple [.int (p.2 : Nat), p.1]
theorem enD_K (ds : List D) : enD ds = enK 0 ds := rfl
theorem enK_cons (k : Nat) (d : D) (ds : List D) : enK k (d :: ds) = .tuple [.int (k : Nat), d] :: enK (k + 1) ds := rfl
theorem for_ex {f : D → M Unit} {b : M DS.Flow} {d : D} {ds : List D} {ρ ρ' : Rho} {x : Exn} (h : forStep f b d ρ = .ex x ρ') (hf : ∃ ρ1, f d ρ = .ok () ρ1) : DS.forM f b (d :: ds) ρ = .ex x ρ' := by
  obtain ⟨ρ1, e⟩ := hf
  rw [forStep_ok e] at h
  conv => lhs; unfold DS.forM
  simp only [e, h]
/-- the row is gone through: the place that has no meaning, or what is said and the state -/
def rn (T : Tb) : Stt → Nat → List Str → List Nat → Nat ⊕ (List Str × Stt)
  | s, _, acc, [] => .inr (acc, s)
  | s, k, acc, x :: r => match stp T s x with
    | none => .inl k
    | some (z, s') => rn T s' (k + 1) (acc ++ [z]) r
theorem rn_ok {T : Tb} {w : Nat} (h : Code T w) : ∀ {r : List Nat} {s s' : Stt} {k : Nat} {acc acc' : List Str}, SOk T s → (∀ x ∈ r, x < w) → (∀ z ∈ acc, z.length ≤ 3) → rn T s k acc r = .inr (acc', s') → SOk T s' ∧ (∀ z ∈ acc', z.length ≤ 3) ∧ acc'.length = acc.length + r.length
  | [], s, s', k, acc, acc', hs, _, ha, e => by cases e; exact ⟨hs, ha, rfl⟩
  | x :: r, s, s', k, acc, acc', hs, hr, ha, e => by
    unfold rn at e
    cases e1 : stp T s x with
    | none => rw [e1] at e; cases e
    | some p =>
      obtain ⟨z, s1⟩ := p
      rw [e1] at e
      obtain ⟨h1, h2⟩ := stp_ok h hs (hr x List.mem_cons_self) e1
      obtain ⟨q1, q2, q3⟩ := rn_ok h h1 (fun y hy => hr y (List.mem_cons_of_mem _ hy)) (fun y hy => by
        rcases List.mem_append.mp hy with hy | hy
        · exact ha y hy
        · rw [List.mem_singleton.mp hy]; exact h2) e
      exact ⟨q1, q2, by rw [q3]; simp; omega⟩
def saidT (T : Tb) (r : List Nat) : Nat ⊕ Str := match rn T (0, none) 0 [] r with
  | .inl k => .inl k
  | .inr (acc, s) => if s.2.isNone then .inr (Str.join "" acc) else .inl r.length
def noMean (k : Nat) : Exn := ⟨"NoMeaning", [(.str "at", .int k)]⟩
theorem nI_rN (x : Nat) (r : List Nat) : nI (rN (x :: r)) = .int x :: nI (rN r) := rfl
theorem s0_ok {T : Tb} {w : Nat} (h : Code T w) : SOk T (0, none) := ⟨h.h1, fun m hm => by cases hm⟩
/-! the laws' drawn codes -/
def Sgn (d : D) : Prop := ∃ c : Nat, d = .str ⟨#[c]⟩ ∧ 33 ≤ c ∧ c ≤ 126
theorem meaning_ok {ns : List Int} {B : Nat} {t : List D} {many : Nat} {signs : List D} (ht : Tw ns B t) (hB : B < 2 ^ 58) (hm : 1 ≤ many ∧ many ≤ 5) (h0 : signs ≠ []) (h1 : signs.length ≤ 100) (hs : ∀ x ∈ signs, Sgn x) :
    ∃ (g : Mg) (t' : List D), okMg many g ∧ Tw ns (B + 5) t' ∧ F_law_meaning [.im (.list (nI ns)), .ml t, .im (.int many), .im (.list signs)] = .ok g.d [.im (.list (nI ns)), .ml t', .im (.int many), .im (.list signs)] := by
  have sz5 : 5 ≤ sizeLine := le_sz (by omega)
  have sz2 : 2 ≤ sizeLine := le_sz (by omega)
  obtain ⟨way, t1, w0, w1, ht1, e1⟩ := draw_ok (many := 9) ht (by omega) (by omega) (by omega)
  by_cases c0 : way = 0
  · refine ⟨.no, t1, trivial, ht1.mono (by omega), ?_⟩
    simp [F_law_meaning, runF, m_law_meaning, e1, c0, Mg.d]
  by_cases c3 : way < 3
  · obtain ⟨x, t2, hx, ht2, e2⟩ := pick_ok (ds := [.str "to", .str "once"]) ht1 (by omega) (by simp) (by simp)
    obtain ⟨m, t3, m0, m1, ht3, e3⟩ := draw_ok (many := (many : Int)) ht2 (by omega) (by omega) (by omega)
    obtain ⟨m, rfl⟩ : ∃ k : Nat, m = (k : Int) := ⟨m.toNat, by omega⟩
    have hx : ∃ o : Bool, x = .str (if o then "once" else "to") := by
      simp only [List.mem_cons, List.not_mem_nil, or_false] at hx
      rcases hx with rfl | rfl
      · exact ⟨false, rfl⟩
      · exact ⟨true, rfl⟩
    obtain ⟨o, rfl⟩ := hx
    refine ⟨.go o m, t3, by show m < many; omega, ht3.mono (by omega), ?_⟩
    simp [F_law_meaning, runF, m_law_meaning, e1, c0, c3, e2, e3, Mg.d, sz2]
  · obtain ⟨x, t2, hx, ht2, e2⟩ := pick_ok (ds := [.int 1, .int 1, .int 1, .int 2, .int 3]) ht1 (by omega) (by simp) (by simp)
    have hx : ∃ k : Nat, x = .int k ∧ 1 ≤ k ∧ k ≤ 3 := by
      simp only [List.mem_cons, List.not_mem_nil, or_false] at hx
      rcases hx with rfl | rfl | rfl | rfl | rfl
      · exact ⟨1, rfl, by omega, by omega⟩
      · exact ⟨1, rfl, by omega, by omega⟩
      · exact ⟨1, rfl, by omega, by omega⟩
      · exact ⟨2, rfl, by omega, by omega⟩
      · exact ⟨3, rfl, by omega, by omega⟩
    obtain ⟨k, rfl, k1, k3⟩ := hx
    obtain ⟨ρ', e3, s, t3, z6, hl, hc, ht3, rfl⟩ := forM_inv (f := DS.st 6) (b := b_law_meaning_1) (fun j ρ => ∃ (s : Str) (t3 : List D) (z6 : Sl), s.length = j ∧ (∀ c ∈ s.cps.toList, 33 ≤ c ∧ c ≤ 126) ∧ Tw ns (B + 2 + min j 3) t3 ∧ ρ = [.im (.list (nI ns)), .ml t3, .im (.int many), .im (.list signs), .im (.int way), .im (.str s), z6]) (rgD 0 k 1)
      [.im (.list (nI ns)), .ml t2, .im (.int many), .im (.list signs), .im (.int way), .im (.str ""), .un] ⟨"", t2, .un, by decide +kernel, (by intro c hc; exact absurd hc (by decide +kernel +revert)), ht2.mono (by omega), rfl⟩ (by
      rintro j d ρ hd ⟨s, t3, z6, hl, hc, ht3, rfl⟩
      obtain ⟨hj, rfl⟩ := rg_get' hd
      obtain ⟨y, t4, hy, ht4, e4⟩ := pick_ok (ds := signs) ht3 (by omega) h0 (by omega)
      obtain ⟨c, rfl, c1, c2⟩ := hs y hy
      have szs : s.length + (Str.mk #[c]).length ≤ sizeLine := le_sz (by simp [Str.length] at hl ⊢; omega)
      refine ⟨_, ?_, s ++ ⟨#[c]⟩, t4, .im (.int j), ?_, ?_, ht4.mono (by omega), rfl⟩
      · rw [forStep_ok rfl]
        simp [b_law_meaning_1, e4, szs]
      · show (s.cps ++ #[c]).size = j + 1
        have : s.cps.size = j := hl
        simp [this]
      · intro d hd
        have : d ∈ (s.cps ++ #[c]).toList := hd
        simp only [Array.toList_append, List.mem_append] at this
        rcases this with h | h
        · exact hc d h
        · simp at h; subst h; exact ⟨c1, c2⟩)
    rw [rg_len] at hl ht3
    have r1 : inR (k : Int) = true := inR_nat (by omega)
    refine ⟨.say s, t3, ⟨by omega, by omega, hc⟩, ht3.mono (by omega), ?_⟩
    simp [F_law_meaning, runF, m_law_meaning, e1, c0, c3, e2, e3, r1, Mg.d, sz5]
def Alph (x : D) : Prop := ∃ signs, x = .list signs ∧ signs ≠ [] ∧ signs.length ≤ 100 ∧ ∀ y ∈ signs, Sgn y
theorem sgn_of {s : Str} {c : Nat} (e : s = ⟨#[c]⟩) (h : 33 ≤ c ∧ c ≤ 126) : Sgn (.str s) := ⟨c, by rw [e], h⟩
theorem sg_a : Sgn (.str "a") := sgn_of (c := 97) (by decide +kernel) (by omega)
theorem sg_b : Sgn (.str "b") := sgn_of (c := 98) (by decide +kernel) (by omega)
theorem sg_c : Sgn (.str "c") := sgn_of (c := 99) (by decide +kernel) (by omega)
theorem sg_0 : Sgn (.str "0") := sgn_of (c := 48) (by decide +kernel) (by omega)
theorem sg_x : Sgn (.str "!") := sgn_of (c := 33) (by decide +kernel) (by omega)
theorem sg_t : Sgn (.str "~") := sgn_of (c := 126) (by decide +kernel) (by omega)
theorem sg_A : Sgn (.str "A") := sgn_of (c := 65) (by decide +kernel) (by omega)
theorem sg_7 : Sgn (.str "7") := sgn_of (c := 55) (by decide +kernel) (by omega)
theorem alph_ok {x : D} (h : x ∈ [PyData.list [.str "a", .str "b"], .list [.str "a", .str "b", .str "c", .str "0"], .list [.str "!", .str "~", .str "A", .str "7", .str "a"]]) : Alph x := by
  simp only [List.mem_cons, List.not_mem_nil, or_false] at h
  rcases h with rfl | rfl | rfl
  · refine ⟨_, rfl, by simp, by simp, fun y hy => ?_⟩
    simp only [List.mem_cons, List.not_mem_nil, or_false] at hy
    rcases hy with rfl | rfl
    · exact sg_a
    · exact sg_b
  · refine ⟨_, rfl, by simp, by simp, fun y hy => ?_⟩
    simp only [List.mem_cons, List.not_mem_nil, or_false] at hy
    rcases hy with rfl | rfl | rfl | rfl
    · exact sg_a
    · exact sg_b
    · exact sg_c
    · exact sg_0
  · refine ⟨_, rfl, by simp, by simp, fun y hy => ?_⟩
    simp only [List.mem_cons, List.not_mem_nil, or_false] at hy
    rcases hy with rfl | rfl | rfl | rfl | rfl
    · exact sg_x
    · exact sg_t
    · exact sg_A
    · exact sg_7
    · exact sg_a
theorem mode_row {ns : List Int} {B : Nat} {t : List D} {many long : Nat} {signs : List D} {a b : D} {found : List D} {z8 : Sl} (ht : Tw ns B t) (hB : B < 2 ^ 57) (hm : 1 ≤ many ∧ many ≤ 5) (hl : long ≤ 9) (h0 : signs ≠ []) (h1 : signs.length ≤ 100) (hs : ∀ x ∈ signs, Sgn x) :
    ∃ (r : List Mg) (t' : List D), r.length = long ∧ (∀ g ∈ r, okMg many g) ∧ Tw ns (B + 45) t' ∧ lcA [9] (DS.st 9) (ret true) e_law_modes_1 [] (rgD 0 long 1) [.im (.list (nI ns)), .ml t, .im a, .im b, .im (.int many), .im (.int long), .im (.list signs), .ml found, z8, .un] = .ok (r.map Mg.d) [.im (.list (nI ns)), .ml t', .im a, .im b, .im (.int many), .im (.int long), .im (.list signs), .ml found, z8, .un] := by
  obtain ⟨acc, ρ', e2, r, t2, rfl, hρ, hk, hr, ht2⟩ := lcA_inv (vs := [9]) (f := DS.st 9) (t := ret true) (el := e_law_modes_1) (fun acc j ρ => ∃ r t2, acc = r.map Mg.d ∧ wpR ρ [9] = [.im (.list (nI ns)), .ml t2, .im a, .im b, .im (.int many), .im (.int long), .im (.list signs), .ml found, z8, .un] ∧ r.length = j ∧ (∀ g ∈ r, okMg many g) ∧ Tw ns (B + 5 * min j 9) t2) (rgD 0 long 1)
    [.im (.list (nI ns)), .ml t, .im a, .im b, .im (.int many), .im (.int long), .im (.list signs), .ml found, z8, .un] (by rw [rg_len]; exact le_sz (by omega)) ⟨[], t, rfl, rfl, rfl, fun g hg => (by cases hg), ht.mono (by omega)⟩ (by
      rintro j d acc ρ hd ⟨r, t2, rfl, hρ, hj, hr, ht2⟩
      obtain ⟨hjk, rfl⟩ := rg_get' hd
      obtain ⟨g, t3, hg, ht3, e3⟩ := meaning_ok ht2 (by omega) hm h0 h1 hs
      refine ⟨some g.d, [.im (.list (nI ns)), .ml t3, .im a, .im b, .im (.int many), .im (.int long), .im (.list signs), .ml found, z8, .im (.int j)], lcStep_t hρ rfl rfl (by simp [e_law_modes_1, e3]), r ++ [g], t3, by simp, rfl, by simp [hj], fun y hy => ?_, ht3.mono (by omega)⟩
      rcases List.mem_append.mp hy with h | h
      · exact hr y h
      · rw [List.mem_singleton.mp h]; exact hg)
  rw [hρ] at e2
  exact ⟨r, t2, by rw [hk, rg_len], hr, ht2.mono (by omega), e2⟩
/-- modes of up to five, of up to nine meanings -/
structure CodeW (T : Tb) (w : Nat) : Prop where
  h1 : 1 ≤ T.length
  h5 : T.length ≤ 5
  w2 : 2 ≤ w
  w9 : w ≤ 9
  wid : ∀ r ∈ T, r.length = w
  ok : ∀ r ∈ T, ∀ g ∈ r, okMg T.length g
theorem modesW_ok {ns : List Int} {B : Nat} {t : List D} {mm ms : Nat} (ht : Tw ns B t) (hB : B < 2 ^ 56) (h1 : 1 ≤ mm ∧ mm ≤ 5) (h2 : 2 ≤ ms ∧ ms ≤ 9) :
    ∃ (T : Tb) (w : Nat) (t' : List D), CodeW T w ∧ T.length ≤ mm ∧ w ≤ ms ∧ Tw ns (B + 240) t' ∧ F_law_modes [.im (.list (nI ns)), .ml t, .im (.int mm), .im (.int ms)] = .ok (tbD T) [.im (.list (nI ns)), .ml t', .im (.int mm), .im (.int ms)] := by
  obtain ⟨d1, t1, a0, a1, ht1, e1⟩ := draw_ok (many := (mm : Int)) ht (by omega) (by omega) (by omega)
  obtain ⟨d1, rfl⟩ : ∃ k : Nat, d1 = (k : Int) := ⟨d1.toNat, by omega⟩
  obtain ⟨d2, t2, b0, b1, ht2, e2⟩ := draw_ok (many := (ms : Int) - 1) ht1 (by omega) (by omega) (by omega)
  obtain ⟨d2, rfl⟩ : ∃ k : Nat, d2 = (k : Int) := ⟨d2.toNat, by omega⟩
  obtain ⟨x, t3, hx, ht3, e3⟩ := pick_ok (ds := [PyData.list [.str "a", .str "b"], .list [.str "a", .str "b", .str "c", .str "0"], .list [.str "!", .str "~", .str "A", .str "7", .str "a"]]) ht2 (by omega) (by simp) (by simp)
  obtain ⟨signs, rfl, s0, s1, hs⟩ := alph_ok hx
  have em : (1 : Int) + (d1 : Int) = ((1 + d1 : Nat) : Int) := by omega
  have el : (2 : Int) + (d2 : Int) = ((2 + d2 : Nat) : Int) := by omega
  generalize hmany : 1 + d1 = many at em
  generalize hlong : 2 + d2 = long at el
  have rl : inR (long : Int) = true := inR_nat (by omega)
  have rm : inR (many : Int) = true := inR_nat (by omega)
  obtain ⟨ρ', e4, T, t4, z8, hT, hw, hok, ht4, rfl⟩ := forM_inv (f := DS.st 8) (b := b_law_modes_2) (fun j ρ => ∃ (T : Tb) (t4 : List D) (z8 : Sl), T.length = j ∧ (∀ r ∈ T, r.length = long) ∧ (∀ r ∈ T, ∀ g ∈ r, okMg many g) ∧ Tw ns (B + 3 + 45 * min j 5) t4 ∧
      ρ = [.im (.list (nI ns)), .ml t4, .im (.int mm), .im (.int ms), .im (.int many), .im (.int long), .im (.list signs), .ml (T.map rowD), z8, .un]) (rgD 0 many 1)
    [.im (.list (nI ns)), .ml t3, .im (.int mm), .im (.int ms), .im (.int many), .im (.int long), .im (.list signs), .ml [], .un, .un] ⟨[], t3, .un, rfl, fun r hr => (by cases hr), fun r hr => (by cases hr), ht3.mono (by omega), rfl⟩ (by
      rintro j d ρ hd ⟨T, t4, z8, hT, hw, hok, ht4, rfl⟩
      obtain ⟨hj, rfl⟩ := rg_get' hd
      obtain ⟨r, t5, r1, r2, ht5, e5⟩ := mode_row (a := .int mm) (b := .int ms) (found := T.map rowD) (z8 := .im (.int j)) (long := long) ht4 (by omega) (by omega : 1 ≤ many ∧ many ≤ 5) (by omega) s0 s1 hs
      refine ⟨_, ?_, T ++ [r], t5, .im (.int j), by simp [hT], fun y hy => ?_, fun y hy => ?_, ht5.mono (by omega), rfl⟩
      · rw [forStep_ok rfl]
        have sz : T.length < sizeLine := lt_sz (by omega)
        have szr : r.length ≤ sizeLine := le_sz (by omega)
        simp [b_law_modes_2, rl, e5, sz, rowD, tupleD, szr]
      · rcases List.mem_append.mp hy with h | h
        · exact hw y h
        · rw [List.mem_singleton.mp h]; exact r1
      · rcases List.mem_append.mp hy with h | h
        · exact hok y h
        · rw [List.mem_singleton.mp h]; exact r2)
  rw [rg_len] at hT ht4
  have sz5 : 5 ≤ sizeLine := le_sz (by omega)
  have sz4 : 4 ≤ sizeLine := le_sz (by omega)
  have sz3 : 3 ≤ sizeLine := le_sz (by omega)
  have sz2 : 2 ≤ sizeLine := le_sz (by omega)
  have szT : T.length ≤ sizeLine := le_sz (by omega)
  refine ⟨T, long, t4, ⟨by omega, by omega, by omega, by omega, hw, by rw [hT]; exact hok⟩, by omega, by omega, ht4.mono (by omega), ?_⟩
  simp [F_law_modes, runF, m_law_modes, e1, e2, e3, em, el, rm, e4, sz2, sz3, sz4, sz5, tupleD, tbD, szT]
theorem str_len (s : Str) : s.length = s.cps.toList.length := by simp [Str.length]
/-! is_signs of anything -/
theorem leB (c : Nat) : leD (.str "!") (.str ⟨#[c]⟩) = some (.bool (decide (33 ≤ c))) := by
  have e : ("!" : Str).cps.toList = [33] := by decide +kernel
  show some (PyData.bool (!decide (([c] : List Nat) < ("!" : Str).cps.toList))) = _
  rw [e]
  by_cases h : 33 ≤ c
  · have : ¬ (([c] : List Nat) < [33]) := by rw [lt1]; omega
    simp [this, h]
  · have : ([c] : List Nat) < [33] := by rw [lt1]; omega
    simp [this, h]
theorem leT (c : Nat) : leD (.str ⟨#[c]⟩) (.str "~") = some (.bool (decide (c ≤ 126))) := by
  have e : ("~" : Str).cps.toList = [126] := by decide +kernel
  show some (PyData.bool (!decide (("~" : Str).cps.toList < ([c] : List Nat)))) = _
  rw [e]
  by_cases h : c ≤ 126
  · have : ¬ ([126] < ([c] : List Nat)) := by rw [lt1]; omega
    simp [this, h]
  · have : ([126] : List Nat) < [c] := by rw [lt1]; omega
    simp [this, h]
def sgB (c : Nat) : Bool := decide (33 ≤ c) && decide (c ≤ 126)
def isSg (d : D) (a b : Int) : Bool := match d with
  | .str s => decide (a ≤ s.length) && (decide ((s.length : Int) ≤ b) && s.cps.toList.all sgB)
  | _ => false
theorem is_signs_any {d : D} (a b : Int) (h : okV d = true) (hs : ∀ s, d = .str s → s.length ≤ 1000) : F_is_signs [.im d, .im (.int a), .im (.int b)] = .ok (.bool (isSg d a b)) [.im d, .im (.int a), .im (.int b)] := by
  cases d with
  | none => simp [F_is_signs, runF, m_is_signs, isSg]
  | bool i => simp [F_is_signs, runF, m_is_signs, isSg]
  | int i => simp [F_is_signs, runF, m_is_signs, isSg]
  | list i => simp [F_is_signs, runF, m_is_signs, isSg]
  | tuple i => simp [F_is_signs, runF, m_is_signs, isSg]
  | dict i =>
    cases i with
    | nil => simp [F_is_signs, runF, m_is_signs, isSg]
    | cons x y => cases h
  | str s =>
    have hl := hs s rfl
    have e : lcA [3] (DS.st 3) (ret true) e_is_signs_1 [] (signsD s) [.im (.str s), .im (.int a), .im (.int b), .un] = .ok ((s.cps.toList.map sgB).map .bool) [.im (.str s), .im (.int a), .im (.int b), .un] := by
      rw [List.map_map]
      refine lc_map (fun c : Nat => PyData.str ⟨#[c]⟩) _ (fun x => [.im (.str s), .im (.int a), .im (.int b), .im (.str ⟨#[x]⟩)]) rfl s.cps.toList (le_sz (by rw [← str_len]; omega)) fun x hx => ⟨rfl, rfl, ?_⟩
      have e1 := leB x
      have e2 := leT x
      by_cases c1 : 33 ≤ x
      · rw [decide_eq_true c1] at e1
        simp [e_is_signs_1, e1, e2, sgB, c1]
      · rw [decide_eq_false c1] at e1
        simp [e_is_signs_1, e1, sgB, c1]
    have al := allD_bool (s.cps.toList.map sgB)
    have al2 : (s.cps.toList.map sgB).all id = s.cps.toList.all sgB := by rw [List.all_map]; rfl
    rw [al2] at al
    have ll : lenD (.str s) = some (.int s.length) := if_pos (le_sz (by omega))
    have hw : walkD (.str s) = some (signsD s) := rfl
    unfold isSg
    generalize (s.cps.toList.map sgB).map PyData.bool = L at *
    by_cases h1 : a ≤ (s.length : Int)
    · by_cases h2 : (s.length : Int) ≤ b
      · simp [F_is_signs, runF, m_is_signs, ll, h1, h2, hw, e, al]
      · simp [F_is_signs, runF, m_is_signs, ll, h1, h2]
    · simp [F_is_signs, runF, m_is_signs, ll, h1]
theorem said_loop {T : Tb} {w : Nat} (h : Code T w) (row : D) : ∀ (r : List Nat) (s : Stt) (k : Nat) (acc : List Str) (z4 z5 z6 : Sl), SOk T s → (∀ x ∈ r, x < w) → acc.length + r.length ≤ 1000 →
    match rn T s k acc r with
    | .inl a => ∃ ρ', DS.forM (unT 2 (stC (DS.st 4) (stC (DS.st 5) stN))) b_said_1 (enK k (nI (rN r))) [.im (codeD T), .im row, .im (stD s), .ml (acc.map .str), z4, z5, z6] = .ex (noMean a) ρ'
    | .inr (acc', s') => ∃ z4' z5' z6', DS.forM (unT 2 (stC (DS.st 4) (stC (DS.st 5) stN))) b_said_1 (enK k (nI (rN r))) [.im (codeD T), .im row, .im (stD s), .ml (acc.map .str), z4, z5, z6] = .ok .nx [.im (codeD T), .im row, .im (stD s'), .ml (acc'.map .str), z4', z5', z6']
  | [], s, k, acc, z4, z5, z6, hs, _, _ => ⟨z4, z5, z6, rfl⟩
  | x :: r, s, k, acc, z4, z5, z6, hs, hr, hl => by
    have hx := hr x List.mem_cons_self
    have e1 := step_ok h hs hx
    simp only [List.length_cons] at hl
    have sz : acc.length < sizeLine := lt_sz (by omega)
    unfold rn
    rw [nI_rN, enK_cons]
    cases e : stp T s x with
    | none =>
      rw [e] at e1
      refine ⟨[.im (codeD T), .im row, .im (stD s), .ml (acc.map .str), .im (.int k), .im (.int x), .im .none], for_ex ?_ ⟨[.im (codeD T), .im row, .im (stD s), .ml (acc.map .str), .im (.int k), .im (.int x), z6], rfl⟩⟩
      rw [forStep_ok (ρ1 := [.im (codeD T), .im row, .im (stD s), .ml (acc.map .str), .im (.int k), .im (.int x), z6]) rfl]
      simp [b_said_1, e1, tellD, isNone, noMean]
    | some p =>
      obtain ⟨z, s1⟩ := p
      rw [e] at e1
      have st : forStep (unT 2 (stC (DS.st 4) (stC (DS.st 5) stN))) b_said_1 (.tuple [.int (k : Nat), .int (x : Nat)]) [.im (codeD T), .im row, .im (stD s), .ml (acc.map .str), z4, z5, z6] = .ok .nx [.im (codeD T), .im row, .im (stD s1), .ml ((acc ++ [z]).map .str), .im (.int k), .im (.int x), .im (tellD (some (z, s1)))] := by
        rw [forStep_ok (ρ1 := [.im (codeD T), .im row, .im (stD s), .ml (acc.map .str), .im (.int k), .im (.int x), z6]) rfl]
        simp [b_said_1, e1, tellD, isNone, sz, at0, at1]
      rw [forM_step st]
      exact said_loop h row r s1 (k + 1) (acc ++ [z]) _ _ _ (stp_ok h hs hx e).1 (fun y hy => hr y (List.mem_cons_of_mem _ hy)) (by simp; omega)
theorem strsD_map (l : List Str) : strsD (l.map .str) = some l := by
  induction l with
  | nil => rfl
  | cons a l ih => rw [List.map_cons, strsD, ih]; rfl
theorem sum_le3 : ∀ {l : List Str}, (∀ z ∈ l, z.length ≤ 3) → (l.map (·.length)).sum ≤ 3 * l.length
  | [], _ => by simp
  | a :: l, h => by
    have := sum_le3 (fun z hz => h z (List.mem_cons_of_mem _ hz))
    have := h a List.mem_cons_self
    simp
    omega
theorem said_ok {T : Tb} {w : Nat} (h : Code T w) {r : List Nat} (hr : ∀ x ∈ r, x < w) (hl : r.length ≤ 300) : match saidT T r with
    | .inl k => ∃ ρ', F_said [.im (codeD T), .im (.list (nI (rN r)))] = .ex (noMean k) ρ'
    | .inr z => F_said [.im (codeD T), .im (.list (nI (rN r)))] = .ok (.str z) [.im (codeD T), .im (.list (nI (rN r)))] := by
  have lp := said_loop h (.list (nI (rN r))) r (0, none) 0 [] .un .un .un (s0_ok h) hr (by simp; omega)
  have e0 : (PyData.tuple [.int 0, .none]) = stD (0, none) := rfl
  have sz : 2 ≤ sizeLine := le_sz (by omega)
  have e00 : (Str.ofString "").length = 0 := by decide +kernel
  unfold saidT
  cases e : rn T (0, none) 0 [] r with
  | inl k =>
    rw [e] at lp
    obtain ⟨ρ', lp⟩ := lp
    rw [← enD_K] at lp
    refine ⟨ρ', ?_⟩
    simp only [List.map_nil] at lp
    simp [F_said, runX, m_said, sz, e0, lp]
  | inr p =>
    obtain ⟨acc, s⟩ := p
    rw [e] at lp
    obtain ⟨z4, z5, z6, lp⟩ := lp
    rw [← enD_K] at lp
    simp only [List.map_nil] at lp
    obtain ⟨hs, hz, ha⟩ := rn_ok h (s0_ok h) hr (fun z hz => by cases hz) e
    obtain ⟨a, o⟩ := s
    cases o with
    | none =>
      have sm := sum_le3 hz
      have hj : (acc.map (·.length)).sum + acc.length * (Str.ofString "").length ≤ 16777216 := by rw [e00]; simp at ha; omega
      simp [F_said, runX, m_said, sz, e0, lp]
      simp [stD, at1, isNone, strsD_map, hj]
    | some m =>
      show ∃ ρ', _ = Res.ex (noMean r.length) ρ'
      refine ⟨[.im (codeD T), .im (.list (nI (rN r))), .im (stD (a, some m)), .ml (acc.map .str), z4, z5, z6], ?_⟩
      simp [F_said, runX, m_said, sz, e0, lp]
      simp [stD, at1, isNone, noMean]
theorem is_row_ok {many : Int} {l : List Int} (h : Row many l) (hl : l.length ≤ 300) : F_is_row [.im (.list (nI l)), .im (.int many)] = .ok (.bool true) [.im (.list (nI l)), .im (.int many)] := by
  have e : lcA [2] (DS.st 2) (ret true) e_is_row_1 [] (nI l) [.im (.list (nI l)), .im (.int many), .un] = .ok (l.map fun _ => .bool true) [.im (.list (nI l)), .im (.int many), .un] := by
    refine lc_map PyData.int _ (fun x => [.im (.list (nI l)), .im (.int many), .im (.int x)]) rfl l (le_sz (by omega)) fun x hx => ⟨rfl, rfl, ?_⟩
    have := h x hx
    have q1 : 0 ≤ x := this.1
    have q2 : x ≤ many - 1 := by omega
    simp [e_is_row_1, is_number_int, q1, q2]
  have h3 : (l.length : Int) ≤ 300 := by omega
  simp [F_is_row, runF, runX, m_is_row, h3, e, allT]
theorem says_ok {T : Tb} {w : Nat} (h : Code T w) {r : List Nat} (hr : ∀ x ∈ r, x < w) (hl : r.length ≤ 300) : match saidT T r with
    | .inl k => ∃ ρ', F_Code_says [.im (codeD T), .im (.list (nI (rN r)))] = .ex (noMean k) ρ'
    | .inr z => F_Code_says [.im (codeD T), .im (.list (nI (rN r)))] = .ok (.str z) [.im (codeD T), .im (.list (nI (rN r)))] := by
  have e1 := is_row_ok (nat_row hr) (by simpa using hl)
  have e2 := code_len h
  have e3 := said_ok h hr hl
  have ei : insOf "Code" (codeD T) = some [(.str "table", tbD T)] := rfl
  have w0 : (0 : Int) ≤ w := by omega
  have w1 : (w : Int) ≤ 1000000 := by have := h.w8; omega
  cases e : saidT T r with
  | inl k =>
    rw [e] at e3
    obtain ⟨ρ', e3⟩ := e3
    exact ⟨[.im (codeD T), .im (.list (nI (rN r)))], by simp [F_Code_says, runX, m_Code_says, ei, e2, w0, w1, e1, e3]⟩
  | inr z =>
    rw [e] at e3
    simp [F_Code_says, runX, m_Code_says, ei, e2, w0, w1, e1, e3]
/-! meanings of anything -/
inductive PMg : D → Prop where
  | none : PMg .none
  | bool (b : Bool) : PMg (.bool b)
  | int (i : Int) : PMg (.int i)
  | str (s : Str) (h : s.length ≤ 1000) : PMg (.str s)
  | list (l : List D) (h : noObjA l = true) : PMg (.list l)
  | one (x : D) (h : noObj x = true) : PMg (.tuple [x])
  | pair (s : Str) (x : D) (h : okV x = true) (h2 : noObj x = true) : PMg (.tuple [.str s, x])
theorem PMg.no {z : D} (h : PMg z) : noObj z = true := by
  cases h with
  | none => rfl
  | bool b => rfl
  | int i => rfl
  | str s h => rfl
  | list l h => exact h
  | one x h => show (noObj x && true) = true; rw [h]; rfl
  | pair s x h h2 => show (true && (noObj x && true)) = true; rw [h2]; rfl
def wdB (s : Str) : Bool := [PyData.str "to", .str "once"].any fun y => PyData.eqv y (.str s)
def isMg (n : Nat) : D → Bool
  | .none => true
  | .str s => isSg (.str s) 1 3
  | .tuple [.str s, x] => isNum x 0 ((n : Int) - 1) && wdB s
  | _ => false
theorem wd_in (s : Str) : inD (.str s) (.tuple [.str "to", .str "once"]) = some (.bool (wdB s)) := by
  show (if inOk (.str s) [.str "to", .str "once"] = true then some (PyData.bool (wdB s)) else none) = _
  exact if_pos rfl
theorem wd_nin (s : Str) : notInD (.str s) (.tuple [.str "to", .str "once"]) = some (.bool (!wdB s)) := by
  show (if inOk (.str s) [.str "to", .str "once"] = true then some (PyData.bool (!wdB s)) else none) = _
  exact if_pos rfl
theorem is_meaning_any {z : D} (h : PMg z) (n : Nat) : F_is_meaning [.im z, .im (.int n)] = .ok (.bool (isMg n z)) [.im z, .im (.int n)] := by
  have s1 : 1 ≤ sizeLine := le_sz (by omega)
  have s2 : 2 ≤ sizeLine := le_sz (by omega)
  cases h with
  | none => simp [F_is_meaning, runF, m_is_meaning, isMg, isNone]
  | bool b =>
    have e := is_signs_any (d := .bool b) 1 3 rfl (fun s e => by cases e)
    simp [F_is_meaning, runF, m_is_meaning, isMg, isNone, e, isSg]
  | int i =>
    have e := is_signs_any (d := .int i) 1 3 rfl (fun s e => by cases e)
    simp [F_is_meaning, runF, m_is_meaning, isMg, isNone, e, isSg]
  | list i hn =>
    have e := is_signs_any (d := .list i) 1 3 rfl (fun s e => by cases e)
    simp [F_is_meaning, runF, m_is_meaning, isMg, isNone, e, isSg]
  | str s hl =>
    have e := is_signs_any (d := .str s) 1 3 rfl (fun s' e => by cases e; exact hl)
    simp only [isMg]
    generalize isSg (.str s) 1 3 = B at *
    simp [F_is_meaning, runF, m_is_meaning, isNone, e]
  | one x hn => simp [F_is_meaning, runF, m_is_meaning, isMg, isNone, s1]
  | pair s x hx hn =>
    have e := is_number_any (d := x) 0 ((n : Int) - 1) hx
    have w1 := wd_in s
    have a0 : atI [PyData.str s, x] 0 = some (.str s) := at0 _ _
    have a1 : atI [PyData.str s, x] 1 = some x := at1 _ _ _
    simp only [isMg]
    generalize isNum x 0 ((n : Int) - 1) = B at *
    generalize wdB s = C at *
    cases B <;> simp [F_is_meaning, runF, m_is_meaning, isNone, s2, a0, a1, e, w1]
def whB : D → Bool
  | .int _ => true
  | _ => false
theorem whole_any {d : D} (h : okV d = true) : F_law_whole [.im d] = .ok (.bool (whB d)) [.im d] := by
  cases d with
  | dict kvs =>
    cases kvs with
    | cons p r => cases h
    | nil => simp [F_law_whole, runF, m_law_whole, whB]
  | _ => simp [F_law_whole, runF, m_law_whole, whB]
theorem ltB (c : Nat) : ltD (.str ⟨#[c]⟩) (.str "!") = some (.bool (!decide (33 ≤ c))) := by
  have e : ("!" : Str).cps.toList = [33] := by decide +kernel
  show some (PyData.bool (decide (([c] : List Nat) < ("!" : Str).cps.toList))) = _
  rw [e]
  by_cases h : 33 ≤ c
  · have : ¬ (([c] : List Nat) < [33]) := by rw [lt1]; omega
    simp [this, h]
  · have : ([c] : List Nat) < [33] := by rw [lt1]; omega
    simp [this, h]
theorem gtT (c : Nat) : gtD (.str ⟨#[c]⟩) (.str "~") = some (.bool (!decide (c ≤ 126))) := by
  have e : ("~" : Str).cps.toList = [126] := by decide +kernel
  show some (PyData.bool (decide (("~" : Str).cps.toList < ([c] : List Nat)))) = _
  rw [e]
  by_cases h : c ≤ 126
  · have : ¬ ([126] < ([c] : List Nat)) := by rw [lt1]; omega
    simp [this, h]
  · have : ([126] : List Nat) < [c] := by rw [lt1]; omega
    simp [this, h]
theorem k123 (k : Int) : notInD (.int k) (.tuple [.int 1, .int 2, .int 3]) = some (.bool (!decide (1 ≤ k ∧ k ≤ 3))) := by
  show (if inOk (.int k) [.int 1, .int 2, .int 3] = true then some (PyData.bool (!([PyData.int 1, .int 2, .int 3].any fun y => PyData.eqv y (.int k)))) else none) = _
  rw [if_pos (show inOk (.int k) [.int 1, .int 2, .int 3] = true from rfl)]
  congr 3
  simp [PyData.eqv]
  rw [Bool.eq_iff_iff]
  simp
  omega
theorem flt_mt (c : Nat → Bool) (l : List Nat) : eqD (.list ((l.filter fun x => !c x).map fun x => PyData.str ⟨#[x]⟩)) (.list []) = some (.bool (l.all c)) := by
  have no : noObjA ((l.filter fun x => !c x).map fun x => PyData.str ⟨#[x]⟩) = true := by
    generalize l.filter (fun x => !c x) = m
    induction m with
    | nil => rfl
    | cons a m ih => show (noObj _ && _) = true; rw [ih]; rfl
  rw [eqD_nil _ no]
  congr 2
  induction l with
  | nil => rfl
  | cons a l ih =>
    rw [List.filter_cons, List.all_cons]
    cases h : c a with
    | true => simpa using ih (by simpa [h, List.filter_cons] using no)
    | false => simp
theorem meaning_good_any {z : D} (h : PMg z) (n : Nat) : F_law_meaning_good [.im z, .im (.int n)] = .ok (.bool (isMg n z)) [.im z, .im (.int n)] := by
  have s0 : 0 ≤ sizeLine := Nat.zero_le _
  have s1 : 1 ≤ sizeLine := le_sz (by omega)
  have s2 : 2 ≤ sizeLine := le_sz (by omega)
  have s3 : 3 ≤ sizeLine := le_sz (by omega)
  cases h with
  | none => simp [F_law_meaning_good, runF, m_law_meaning_good, isMg, isNone]
  | bool b => simp [F_law_meaning_good, runF, m_law_meaning_good, isMg, isNone]
  | int i => simp [F_law_meaning_good, runF, m_law_meaning_good, isMg, isNone]
  | list i hn => simp [F_law_meaning_good, runF, m_law_meaning_good, isMg, isNone]
  | str s hl =>
    have e : lcA [2] (DS.st 2) t_law_meaning_good_1 e_law_meaning_good_2 [] (signsD s) [.im (.str s), .im (.int n), .un] = .ok ((s.cps.toList.filter fun x => !sgB x).map fun x => PyData.str ⟨#[x]⟩) [.im (.str s), .im (.int n), .un] := by
      have := lc_flt (f := DS.st 2) (t := t_law_meaning_good_1) (el := e_law_meaning_good_2) (vs := [2]) (fun c : Nat => PyData.str ⟨#[c]⟩) (fun x => !sgB x) (fun c : Nat => PyData.str ⟨#[c]⟩) (fun x => [.im (.str s), .im (.int n), .im (.str ⟨#[x]⟩)]) (ρ := [.im (.str s), .im (.int n), .un]) (ρ0 := [.im (.str s), .im (.int n), .un]) rfl s.cps.toList [] (le_sz (by rw [← str_len]; simp; omega)) fun x hx => ⟨rfl, rfl, by
        have e1 := ltB x
        have e2 := gtT x
        by_cases c1 : 33 ≤ x
        · rw [decide_eq_true c1] at e1
          simp [t_law_meaning_good_1, e1, e2, sgB, c1]
        · rw [decide_eq_false c1] at e1
          simp [t_law_meaning_good_1, e1, sgB, c1], fun _ => by simp [e_law_meaning_good_2]⟩
      rw [show signsD s = s.cps.toList.map fun c => PyData.str ⟨#[c]⟩ from rfl]
      simpa using this
    have ll : lenD (.str s) = some (.int s.length) := if_pos (le_sz (by omega))
    have hw : walkD (.str s) = some (signsD s) := rfl
    have kk := k123 (s.length : Int)
    have en := flt_mt sgB s.cps.toList
    have is : isSg (.str s) 1 3 = (decide ((1 : Int) ≤ s.length ∧ (s.length : Int) ≤ 3) && s.cps.toList.all sgB) := by
      unfold isSg
      simp only [Bool.decide_and, Bool.and_assoc]
    simp only [isMg]
    rw [is]
    generalize (s.cps.toList.filter fun x => !sgB x).map (fun x => PyData.str ⟨#[x]⟩) = L at *
    generalize s.cps.toList.all sgB = B at *
    generalize hd : decide ((1 : Int) ≤ s.length ∧ (s.length : Int) ≤ 3) = G at *
    cases G <;> simp [F_law_meaning_good, runF, m_law_meaning_good, isNone, s0, s3, ll, kk, hw, e, en]
  | one x hn => simp [F_law_meaning_good, runF, m_law_meaning_good, isMg, isNone, s1]
  | pair s x hx hn =>
    have e := whole_any hx
    have w1 := wd_nin s
    have a0 : atI [PyData.str s, x] 0 = some (.str s) := at0 _ _
    have a1 : atI [PyData.str s, x] 1 = some x := at1 _ _ _
    simp only [isMg]
    generalize wdB s = C at *
    cases C with
    | false => simp [F_law_meaning_good, runF, m_law_meaning_good, isNone, s2, a0, a1, w1]
    | true =>
      cases x with
      | int i =>
        have : isNum (.int i) 0 ((n : Int) - 1) = decide (0 ≤ i ∧ i < (n : Int)) := by
          show (decide (0 ≤ i) && decide (i ≤ (n : Int) - 1)) = _
          rw [← Bool.decide_and]
          exact decide_eq_decide.mpr (by omega)
        rw [this]
        by_cases c1 : 0 ≤ i
        · by_cases c2 : i < (n : Int)
          · simp [F_law_meaning_good, runF, m_law_meaning_good, isNone, s2, a0, a1, w1, e, whB, c1, c2]
          · simp [F_law_meaning_good, runF, m_law_meaning_good, isNone, s2, a0, a1, w1, e, whB, c1, c2]
        · simp [F_law_meaning_good, runF, m_law_meaning_good, isNone, s2, a0, a1, w1, e, whB, c1]
      | none => simp [F_law_meaning_good, runF, m_law_meaning_good, isNone, s2, a0, a1, w1, e, isNum, whB]
      | bool i => simp [F_law_meaning_good, runF, m_law_meaning_good, isNone, s2, a0, a1, w1, e, isNum, whB]
      | str i => simp [F_law_meaning_good, runF, m_law_meaning_good, isNone, s2, a0, a1, w1, e, isNum, whB]
      | list i => simp [F_law_meaning_good, runF, m_law_meaning_good, isNone, s2, a0, a1, w1, e, isNum, whB]
      | tuple i => simp [F_law_meaning_good, runF, m_law_meaning_good, isNone, s2, a0, a1, w1, e, isNum, whB]
      | dict i =>
        simp [F_law_meaning_good, runF, m_law_meaning_good, isNone, s2, a0, a1, w1, e, isNum, whB]
/-! modes of anything -/
def PMd (y : D) : Prop := okV y = true ∧ ∀ es, y = .tuple es → es.length ≤ 12 ∧ ∀ z ∈ es, PMg z
def PM (d : D) : Prop := okV d = true ∧ ∀ ds, d = .tuple ds → ds.length ≤ 12 ∧ ∀ y ∈ ds, PMd y
def lenT : D → Nat
  | .tuple es => es.length
  | _ => 0
def isMd (n w : Nat) : D → Bool
  | .tuple es => decide (2 ≤ es.length ∧ es.length ≤ 8) && (decide (es.length = w) && es.all (isMg n))
  | _ => false
def isM : D → Bool
  | .tuple (y :: ds) => decide ((y :: ds).length ≤ 4) && (y :: ds).all (isMd (y :: ds).length (lenT y))
  | _ => false
theorem forM_rt {f : D → M Unit} {b : M DS.Flow} {d x : D} {ds : List D} {ρ ρ' : Rho} (h : forStep f b d ρ = .ok (.rt x) ρ') : DS.forM f b (d :: ds) ρ = .ok (.rt x) ρ' := by
  conv => lhs; unfold DS.forM
  unfold forStep at h
  cases e1 : f d ρ with
  | ok u ρ1 =>
    simp only [e1] at h ⊢
    simp only [h]
  | ex z r => simp only [e1] at h; cases h
  | no => simp only [e1] at h; cases h
theorem is_tup {y : D} (h : isTup y = false) : isiD .tuple y = some (.bool false) ∨ ∃ p r, y = .dict (p :: r) := by
  cases y with
  | tuple ds => cases h
  | dict kvs =>
    cases kvs with
    | nil => exact .inl rfl
    | cons p r => exact .inr ⟨p, r, rfl⟩
  | _ => exact .inl rfl
theorem noObj_flt (c : D → Bool) : ∀ ds : List D, (∀ z ∈ ds, noObj z = true) → noObjA (ds.filter c) = true
  | [], _ => rfl
  | d :: ds, h => by
    rw [List.filter_cons]
    split
    · show (noObj d && noObjA (ds.filter c)) = true
      rw [h d List.mem_cons_self, noObj_flt c ds fun z hz => h z (List.mem_cons_of_mem _ hz)]; rfl
    · exact noObj_flt c ds fun z hz => h z (List.mem_cons_of_mem _ hz)
theorem flt_mty (c : D → Bool) (ds : List D) : (ds.filter c).isEmpty = ds.all fun x => !c x := by
  induction ds with
  | nil => rfl
  | cons d ds ih =>
    rw [List.filter_cons, List.all_cons]
    cases h : c d with
    | true => simp
    | false => simpa using ih
section
variable {ds : List D} {y0 : D} {r0 : List D}
/-- one mode, by the program -/
theorem md_step (hy : PMd y0) (hs : ds.length ≤ 12) {e0 : List D} (h0 : atI ds 0 = some (.tuple e0)) (z1 z2 : Sl) (he : e0.length ≤ 12) :
    ∃ x1 x2, forStep (DS.st 1) b_is_modes_2 y0 [.im (.tuple ds), z1, z2] = .ok (if isMd ds.length e0.length y0 = true then .nx else .rt (.bool false)) [.im (.tuple ds), x1, x2] := by
  rw [forStep_ok rfl]
  show ∃ x1 x2, b_is_modes_2 [.im (.tuple ds), .im y0, z2] = _
  cases ht : isTup y0 with
  | false =>
    rcases is_tup ht with e | ⟨p, r, rfl⟩
    · have : isMd ds.length e0.length y0 = false := by cases y0 <;> first | rfl | cases ht
      rw [this]
      exact ⟨.im y0, z2, by simp [b_is_modes_2, e]⟩
    · cases hy.1
  | true =>
    cases y0 with
    | tuple es =>
      obtain ⟨hl, hz⟩ := hy.2 es rfl
      have e : lcA [2] (DS.st 2) (ret true) e_is_modes_1 [] es [.im (.tuple ds), .im (.tuple es), z2] = .ok ((es.map (isMg ds.length)).map .bool) [.im (.tuple ds), .im (.tuple es), .un] := by
        rw [List.map_map]
        have := lc_map (f := DS.st 2) (el := e_is_modes_1) (vs := [2]) (fun d : D => d) (PyData.bool ∘ isMg ds.length) (fun g => [.im (.tuple ds), .im (.tuple es), .im g]) (ρ := [.im (.tuple ds), .im (.tuple es), z2]) (ρ0 := [.im (.tuple ds), .im (.tuple es), .un]) rfl es (le_sz (by omega)) fun g hg => ⟨rfl, rfl, by
          have := is_meaning_any (hz g hg) ds.length
          simp [e_is_modes_1, this]⟩
        simpa using this
      have al := allD_bool (es.map (isMg ds.length))
      have al2 : (es.map (isMg ds.length)).all id = es.all (isMg ds.length) := by rw [List.all_map]; rfl
      rw [al2] at al
      have im : isMd ds.length e0.length (.tuple es) = (decide (2 ≤ es.length ∧ es.length ≤ 8) && (decide (es.length = e0.length) && es.all (isMg ds.length))) := rfl
      rw [im]
      clear al2 im
      generalize (es.map (isMg ds.length)).map PyData.bool = L at *
      generalize es.all (isMg ds.length) = B at *
      by_cases c1 : 2 ≤ es.length
      · have c1' : (2 : Int) ≤ es.length := by omega
        by_cases c2 : es.length ≤ 8
        · have c2' : (es.length : Int) ≤ 8 := by omega
          by_cases c3 : es.length = e0.length
          · have d1 : 2 ≤ e0.length := by omega
            have d1' : (2 : Int) ≤ e0.length := by omega
            have d2 : e0.length ≤ 8 := by omega
            have d2' : (e0.length : Int) ≤ 8 := by omega
            cases B
            · exact ⟨.im (.tuple es), .un, by simp [b_is_modes_2, d1, d1', d2, d2', h0, c3, e, al]⟩
            · exact ⟨.im (.tuple es), .un, by simp [b_is_modes_2, d1, d1', d2, d2', h0, c3, e, al]⟩
          · have c3' : ¬ (es.length : Int) = (e0.length : Int) := by omega
            exact ⟨.im (.tuple es), z2, by simp [b_is_modes_2, c1, c1', c2, c2', h0, c3, c3']⟩
        · have c2' : ¬ (es.length : Int) ≤ 8 := by omega
          exact ⟨.im (.tuple es), z2, by simp [b_is_modes_2, c1, c1', c2, c2']⟩
      · have c1' : ¬ (2 : Int) ≤ es.length := by omega
        exact ⟨.im (.tuple es), z2, by simp [b_is_modes_2, c1, c1']⟩
    | _ => cases ht
theorem md_loop (hs : ds.length ≤ 12) {e0 : List D} (h0 : atI ds 0 = some (.tuple e0)) (he : e0.length ≤ 12) : ∀ (es : List D) (z1 z2 : Sl), (∀ y ∈ es, PMd y) →
    ∃ x1 x2, DS.forM (DS.st 1) b_is_modes_2 es [.im (.tuple ds), z1, z2] = .ok (if es.all (isMd ds.length e0.length) = true then .nx else .rt (.bool false)) [.im (.tuple ds), x1, x2]
  | [], z1, z2, _ => ⟨z1, z2, rfl⟩
  | y :: es, z1, z2, h => by
    obtain ⟨x1, x2, e⟩ := md_step (h y List.mem_cons_self) hs h0 z1 z2 he
    cases c : isMd ds.length e0.length y with
    | true =>
      rw [c, if_pos rfl] at e
      obtain ⟨w1, w2, e'⟩ := md_loop hs h0 he es x1 x2 fun y' hy => h y' (List.mem_cons_of_mem _ hy)
      refine ⟨w1, w2, ?_⟩
      rw [forM_step e, e', List.all_cons, c, Bool.true_and]
    | false =>
      rw [c, if_neg (by simp)] at e
      refine ⟨x1, x2, ?_⟩
      rw [forM_rt e, List.all_cons, c, Bool.false_and, if_neg (by simp)]
/-- the same by the law -/
theorem gd_step (hy : PMd y0) (hs : ds.length ≤ 12) {e0 : List D} (h0 : atI ds 0 = some (.tuple e0)) (z1 z2 : Sl) (he : e0.length ≤ 12) :
    ∃ x1 x2, forStep (DS.st 1) b_law_good_3 y0 [.im (.tuple ds), z1, z2] = .ok (if isMd ds.length e0.length y0 = true then .nx else .rt (.bool false)) [.im (.tuple ds), x1, x2] := by
  rw [forStep_ok rfl]
  show ∃ x1 x2, b_law_good_3 [.im (.tuple ds), .im y0, z2] = _
  cases ht : isTup y0 with
  | false =>
    rcases is_tup ht with e | ⟨p, r, rfl⟩
    · have : isMd ds.length e0.length y0 = false := by cases y0 <;> first | rfl | cases ht
      rw [this]
      exact ⟨.im y0, z2, by simp [b_law_good_3, e]⟩
    · cases hy.1
  | true =>
    cases y0 with
    | tuple es =>
      obtain ⟨hl, hz⟩ := hy.2 es rfl
      have s0 : 0 ≤ sizeLine := Nat.zero_le _
      have e : lcA [2] (DS.st 2) t_law_good_1 e_law_good_2 [] es [.im (.tuple ds), .im (.tuple es), z2] = .ok (es.filter fun x => !isMg ds.length x) [.im (.tuple ds), .im (.tuple es), .un] := by
        have := lc_flt (f := DS.st 2) (t := t_law_good_1) (el := e_law_good_2) (vs := [2]) (fun d : D => d) (fun x => !isMg ds.length x) (fun d : D => d) (fun x => [.im (.tuple ds), .im (.tuple es), .im x]) (ρ := [.im (.tuple ds), .im (.tuple es), z2]) (ρ0 := [.im (.tuple ds), .im (.tuple es), .un]) rfl es [] (le_sz (by simp; omega)) fun x hx => ⟨rfl, rfl, by
          have hw := meaning_good_any (hz x hx) ds.length
          simp [t_law_good_1, hw], fun _ => by simp [e_law_good_2]⟩
        simpa using this
      have no : neD (.list (es.filter fun x => !isMg ds.length x)) (.list []) = some (.bool (!es.all (isMg ds.length))) := by
        rw [neD_nil _ (noObj_flt _ es fun z h => (hz z h).no), flt_mty]
        simp
      have im : isMd ds.length e0.length (.tuple es) = (decide (2 ≤ es.length ∧ es.length ≤ 8) && (decide (es.length = e0.length) && es.all (isMg ds.length))) := rfl
      rw [im]
      clear im
      generalize es.filter (fun x => !isMg ds.length x) = L at *
      generalize es.all (isMg ds.length) = B at *
      by_cases c1 : 2 ≤ es.length
      · have c1' : (2 : Int) ≤ es.length := by omega
        by_cases c2 : es.length ≤ 8
        · have c2' : (es.length : Int) < 9 := by omega
          by_cases c3 : es.length = e0.length
          · have d1 : 2 ≤ e0.length := by omega
            have d1' : (2 : Int) ≤ e0.length := by omega
            have d2 : e0.length ≤ 8 := by omega
            have d2' : (e0.length : Int) < 9 := by omega
            cases B
            · exact ⟨.im (.tuple es), .un, by simp [b_law_good_3, s0, d1, d1', d2, d2', h0, c3, e, no]⟩
            · exact ⟨.im (.tuple es), .un, by simp [b_law_good_3, s0, d1, d1', d2, d2', h0, c3, e, no]⟩
          · have c3' : ¬ (es.length : Int) = (e0.length : Int) := by omega
            exact ⟨.im (.tuple es), z2, by simp [b_law_good_3, c1, c1', c2, c2', h0, c3, c3']⟩
        · have c2' : ¬ (es.length : Int) < 9 := by omega
          exact ⟨.im (.tuple es), z2, by simp [b_law_good_3, c1, c1', c2, c2']⟩
      · have c1' : ¬ (2 : Int) ≤ es.length := by omega
        exact ⟨.im (.tuple es), z2, by simp [b_law_good_3, c1, c1']⟩
    | _ => cases ht
theorem gd_loop (hs : ds.length ≤ 12) {e0 : List D} (h0 : atI ds 0 = some (.tuple e0)) (he : e0.length ≤ 12) : ∀ (es : List D) (z1 z2 : Sl), (∀ y ∈ es, PMd y) →
    ∃ x1 x2, DS.forM (DS.st 1) b_law_good_3 es [.im (.tuple ds), z1, z2] = .ok (if es.all (isMd ds.length e0.length) = true then .nx else .rt (.bool false)) [.im (.tuple ds), x1, x2]
  | [], z1, z2, _ => ⟨z1, z2, rfl⟩
  | y :: es, z1, z2, h => by
    obtain ⟨x1, x2, e⟩ := gd_step (h y List.mem_cons_self) hs h0 z1 z2 he
    cases c : isMd ds.length e0.length y with
    | true =>
      rw [c, if_pos rfl] at e
      obtain ⟨w1, w2, e'⟩ := gd_loop hs h0 he es x1 x2 fun y' hy => h y' (List.mem_cons_of_mem _ hy)
      refine ⟨w1, w2, ?_⟩
      rw [forM_step e, e', List.all_cons, c, Bool.true_and]
    | false =>
      rw [c, if_neg (by simp)] at e
      refine ⟨x1, x2, ?_⟩
      rw [forM_rt e, List.all_cons, c, Bool.false_and, if_neg (by simp)]
end
/-- a first mode that is none -/
theorem md_first {y0 : D} {r0 : List D} (hy : okV y0 = true) (ht : isTup y0 = false) : ∃ x1 x2, DS.forM (DS.st 1) b_is_modes_2 (y0 :: r0) [.im (.tuple (y0 :: r0)), .un, .un] = .ok (.rt (.bool false)) [.im (.tuple (y0 :: r0)), x1, x2] := by
  rcases is_tup ht with e | ⟨p, r, rfl⟩
  · refine ⟨.im y0, .un, forM_rt ?_⟩
    rw [forStep_ok rfl]
    show b_is_modes_2 [.im (.tuple (y0 :: r0)), .im y0, .un] = _
    simp [b_is_modes_2, e]
  · cases hy
theorem gd_first {y0 : D} {r0 : List D} (hy : okV y0 = true) (ht : isTup y0 = false) : ∃ x1 x2, DS.forM (DS.st 1) b_law_good_3 (y0 :: r0) [.im (.tuple (y0 :: r0)), .un, .un] = .ok (.rt (.bool false)) [.im (.tuple (y0 :: r0)), x1, x2] := by
  rcases is_tup ht with e | ⟨p, r, rfl⟩
  · refine ⟨.im y0, .un, forM_rt ?_⟩
    rw [forStep_ok rfl]
    show b_law_good_3 [.im (.tuple (y0 :: r0)), .im y0, .un] = _
    simp [b_law_good_3, e]
  · cases hy
theorem is_modes_any {d : D} (h : PM d) : F_is_modes [.im d] = .ok (.bool (isM d)) [.im d] := by
  cases ht : isTup d with
  | false =>
    rcases is_tup ht with e | ⟨p, r, rfl⟩
    · have : isM d = false := by cases d <;> first | rfl | cases ht
      rw [this]
      simp [F_is_modes, runF, m_is_modes, e]
    · cases h.1
  | true =>
    cases d with
    | tuple ds =>
      obtain ⟨hl, hy⟩ := h.2 ds rfl
      cases ds with
      | nil => simp [F_is_modes, runF, m_is_modes, isM]
      | cons y0 r0 =>
        have q1 : (1 : Int) ≤ ((y0 :: r0).length : Int) := by simp; omega
        have im : isM (.tuple (y0 :: r0)) = (decide ((y0 :: r0).length ≤ 4) && (y0 :: r0).all (isMd (y0 :: r0).length (lenT y0))) := rfl
        rw [im]
        by_cases c4 : (y0 :: r0).length ≤ 4
        · have c4' : ((y0 :: r0).length : Int) ≤ 4 := by omega
          rw [decide_eq_true c4, Bool.true_and]
          cases ht0 : isTup y0 with
          | false =>
            obtain ⟨x1, x2, e⟩ := md_first (r0 := r0) (hy y0 List.mem_cons_self).1 ht0
            have : (y0 :: r0).all (isMd (y0 :: r0).length (lenT y0)) = false := by
              rw [List.all_cons]
              have : isMd (y0 :: r0).length (lenT y0) y0 = false := by cases y0 <;> first | rfl | cases ht0
              rw [this]; rfl
            rw [this]
            generalize y0 :: r0 = ds at *
            simp [F_is_modes, runF, m_is_modes, q1, c4', e]
          | true =>
            cases y0 with
            | tuple e0 =>
              have he := ((hy _ List.mem_cons_self).2 e0 rfl).1
              obtain ⟨x1, x2, e⟩ := md_loop (ds := .tuple e0 :: r0) hl (at0 _ _) he (.tuple e0 :: r0) .un .un hy
              have : lenT (.tuple e0) = e0.length := rfl
              rw [this]
              generalize PyData.tuple e0 :: r0 = ds at *
              generalize ds.all (isMd ds.length e0.length) = B at *
              cases B <;> simp [F_is_modes, runF, m_is_modes, q1, c4', e]
            | _ => cases ht0
        · have c4' : ¬ ((y0 :: r0).length : Int) ≤ 4 := by omega
          rw [decide_eq_false c4, Bool.false_and]
          generalize y0 :: r0 = ds at *
          simp [F_is_modes, runF, m_is_modes, q1, c4']
    | _ => cases ht
theorem good_any {d : D} (h : PM d) : F_law_good [.im d] = .ok (.bool (isM d)) [.im d] := by
  cases ht : isTup d with
  | false =>
    rcases is_tup ht with e | ⟨p, r, rfl⟩
    · have : isM d = false := by cases d <;> first | rfl | cases ht
      rw [this]
      simp [F_law_good, runF, m_law_good, e]
    · cases h.1
  | true =>
    cases d with
    | tuple ds =>
      obtain ⟨hl, hy⟩ := h.2 ds rfl
      cases ds with
      | nil => simp [F_law_good, runF, m_law_good, isM]
      | cons y0 r0 =>
        have q1 : (1 : Int) ≤ ((y0 :: r0).length : Int) := by simp; omega
        have im : isM (.tuple (y0 :: r0)) = (decide ((y0 :: r0).length ≤ 4) && (y0 :: r0).all (isMd (y0 :: r0).length (lenT y0))) := rfl
        rw [im]
        by_cases c4 : (y0 :: r0).length ≤ 4
        · have c4' : ((y0 :: r0).length : Int) < 5 := by omega
          rw [decide_eq_true c4, Bool.true_and]
          cases ht0 : isTup y0 with
          | false =>
            obtain ⟨x1, x2, e⟩ := gd_first (r0 := r0) (hy y0 List.mem_cons_self).1 ht0
            have : (y0 :: r0).all (isMd (y0 :: r0).length (lenT y0)) = false := by
              rw [List.all_cons]
              have : isMd (y0 :: r0).length (lenT y0) y0 = false := by cases y0 <;> first | rfl | cases ht0
              rw [this]; rfl
            rw [this]
            generalize y0 :: r0 = ds at *
            simp [F_law_good, runF, m_law_good, q1, c4', e]
          | true =>
            cases y0 with
            | tuple e0 =>
              have he := ((hy _ List.mem_cons_self).2 e0 rfl).1
              obtain ⟨x1, x2, e⟩ := gd_loop (ds := .tuple e0 :: r0) hl (at0 _ _) he (.tuple e0 :: r0) .un .un hy
              have : lenT (.tuple e0) = e0.length := rfl
              rw [this]
              generalize PyData.tuple e0 :: r0 = ds at *
              generalize ds.all (isMd ds.length e0.length) = B at *
              cases B <;> simp [F_law_good, runF, m_law_good, q1, c4', e]
            | _ => cases ht0
        · have c4' : ¬ ((y0 :: r0).length : Int) < 5 := by omega
          rw [decide_eq_false c4, Bool.false_and]
          generalize y0 :: r0 = ds at *
          simp [F_law_good, runF, m_law_good, q1, c4']
    | _ => cases ht
/-! codes of anything -/
theorem wdB_of {s : Str} (h : wdB s = true) : ∃ o : Bool, s = (if o then "once" else "to" : Str) := by
  simp only [wdB, List.any_cons, List.any_nil, Bool.or_false, Bool.or_eq_true] at h
  rcases h with h | h
  · exact ⟨false, (beq_iff_eq.mp (show (("to" : Str) == s) = true from h)).symm⟩
  · exact ⟨true, (beq_iff_eq.mp (show (("once" : Str) == s) = true from h)).symm⟩
theorem isMg_of {n : Nat} {z : D} (h : isMg n z = true) : ∃ g : Mg, z = g.d ∧ okMg n g := by
  unfold isMg at h
  split at h
  · exact ⟨.no, rfl, trivial⟩
  · rename_i s
    simp only [isSg, Bool.and_eq_true, decide_eq_true_eq, List.all_eq_true, sgB] at h
    exact ⟨.say s, rfl, by omega, by omega, fun c hc => h.2.2 c hc⟩
  · rename_i s x
    rw [Bool.and_eq_true] at h
    obtain ⟨h1, h2⟩ := h
    obtain ⟨o, rfl⟩ := wdB_of h2
    unfold isNum at h1
    split at h1
    · rename_i i
      simp only [Bool.and_eq_true, decide_eq_true_eq] at h1
      refine ⟨.go o i.toNat, ?_, by show i.toNat < n; omega⟩
      show _ = PyData.tuple [.str (if o then "once" else "to"), .int (i.toNat : Int)]
      rw [Int.toNat_of_nonneg h1.1]
    · cases h1
  · cases h
theorem isMd_of {n w : Nat} {y : D} (h : isMd n w y = true) : ∃ r : List Mg, y = rowD r ∧ 2 ≤ r.length ∧ r.length ≤ 8 ∧ r.length = w ∧ ∀ g ∈ r, okMg n g := by
  cases y with
  | tuple es =>
    have h : (decide (2 ≤ es.length ∧ es.length ≤ 8) && (decide (es.length = w) && es.all (isMg n))) = true := h
    simp only [Bool.and_eq_true, decide_eq_true_eq, List.all_eq_true] at h
    obtain ⟨⟨h1, h2⟩, h3, h4⟩ := h
    have key : ∀ es : List D, (∀ x ∈ es, isMg n x = true) → ∃ r : List Mg, es = r.map Mg.d ∧ ∀ g ∈ r, okMg n g := fun es => by
      induction es with
      | nil => intro _; exact ⟨[], rfl, fun g hg => by cases hg⟩
      | cons z es ih =>
        intro hz
        obtain ⟨r, rfl, hr⟩ := ih fun x hx => hz x (List.mem_cons_of_mem _ hx)
        obtain ⟨g, rfl, hg⟩ := isMg_of (hz z List.mem_cons_self)
        refine ⟨g :: r, rfl, fun y hy => ?_⟩
        rcases List.mem_cons.mp hy with rfl | hy
        · exact hg
        · exact hr y hy
    obtain ⟨r, rfl, hr⟩ := key es h4
    rw [List.length_map] at h1 h2 h3
    exact ⟨r, rfl, h1, h2, h3, hr⟩
  | _ => cases h
theorem isM_code {d : D} (h : isM d = true) : ∃ T w, d = tbD T ∧ Code T w := by
  unfold isM at h
  split at h
  · rename_i y ds
    simp only [Bool.and_eq_true, decide_eq_true_eq, List.all_eq_true] at h
    obtain ⟨h4, h⟩ := h
    have key : ∀ l : List D, (∀ x ∈ l, isMd (y :: ds).length (lenT y) x = true) → ∃ T : Tb, l = T.map rowD ∧ ∀ r ∈ T, (2 ≤ r.length ∧ r.length ≤ 8 ∧ r.length = lenT y) ∧ ∀ g ∈ r, okMg (y :: ds).length g := fun l => by
      induction l with
      | nil => intro _; exact ⟨[], rfl, fun g hg => by cases hg⟩
      | cons z l ih =>
        intro hz
        obtain ⟨T, rfl, hT⟩ := ih fun x hx => hz x (List.mem_cons_of_mem _ hx)
        obtain ⟨r, rfl, h1, h2, h3, h4⟩ := isMd_of (hz z List.mem_cons_self)
        refine ⟨r :: T, rfl, fun y' hy => ?_⟩
        rcases List.mem_cons.mp hy with rfl | hy
        · exact ⟨⟨h1, h2, h3⟩, h4⟩
        · exact hT y' hy
    obtain ⟨T, e, hT⟩ := key (y :: ds) h
    have hl := congrArg List.length e
    rw [List.length_map] at hl
    have hne : T ≠ [] := fun z => by subst z; cases e
    obtain ⟨r, T', rfl⟩ := List.exists_cons_of_ne_nil hne
    have w := (hT r List.mem_cons_self).1
    refine ⟨r :: T', lenT y, by rw [e]; rfl, ⟨by simp, by omega, by omega, by omega, fun r' hr => (hT r' hr).1.2.2, fun r' hr g hg => ?_⟩⟩
    rw [← hl]
    exact (hT r' hr).2 g hg
  · cases h
theorem noObj_mg : ∀ g : Mg, noObj g.d = true
  | .no => rfl
  | .say s => rfl
  | .go o m => rfl
theorem noObjA_map {α : Type} (f : α → D) (h : ∀ x, noObj (f x) = true) : ∀ l : List α, noObjA (l.map f) = true
  | [] => rfl
  | x :: l => by
    show (noObj (f x) && noObjA (l.map f)) = true
    rw [h x, noObjA_map f h l]; rfl
theorem noObj_row (r : List Mg) : noObj (rowD r) = true := noObjA_map Mg.d noObj_mg r
theorem noObj_tb (T : Tb) : noObj (tbD T) = true := noObjA_map rowD noObj_row T
theorem depthA_map {α : Type} (f : α → D) (k : Nat) (h : ∀ x, (f x).depth ≤ k) : ∀ l : List α, PyData.depthAll (l.map f) ≤ k
  | [] => Nat.zero_le _
  | x :: l => by
    have := depthA_map f k h l
    have := h x
    show max (f x).depth (PyData.depthAll (l.map f)) ≤ k
    omega
theorem depth_mg : ∀ g : Mg, g.d.depth ≤ 1
  | .no => by decide
  | .say s => Nat.zero_le _
  | .go o m => Nat.le_refl _
theorem depth_row (r : List Mg) : (rowD r).depth ≤ 2 := by
  have := depthA_map Mg.d 1 depth_mg r
  show PyData.depthAll (r.map Mg.d) + 1 ≤ 2
  omega
theorem depth_tb (T : Tb) : (tbD T).depth ≤ 3 := by
  have := depthA_map rowD 2 depth_row T
  show PyData.depthAll (T.map rowD) + 1 ≤ 3
  omega
def eqT (T U : Tb) : Bool := PyData.eqv (tbD T) (tbD U)
theorem cmp_tb (T U : Tb) : cmpOk (tbD T) (tbD U) = true := by
  unfold cmpOk
  rw [noObj_tb, noObj_tb]
  have := depth_tb T
  simp
  omega
theorem eq_tb (T U : Tb) : eqD (tbD T) (tbD U) = some (.bool (eqT T U)) := if_pos (cmp_tb T U)
theorem ne_tb (T U : Tb) : neD (tbD T) (tbD U) = some (.bool (!eqT T U)) := if_pos (cmp_tb T U)
theorem eqT_self (T : Tb) : eqT T T = true := PySem.SeqAt.eqv_refl_plain _ (plain_noObj _ (noObj_tb T))
theorem eqT_comm (T U : Tb) : eqT T U = eqT U T := PySem.W.eqv_comm _ _
theorem code_eq (T U : Tb) : F_Code_eq [.im (codeD T), .im (codeD U)] = .ok (.bool (eqT T U)) [.im (codeD T), .im (codeD U)] := by
  have e1 := code_fld T
  have e2 := code_fld U
  have e3 : isoD "Code" (codeD U) = some (.bool true) := isoD_ins _ _
  have e4 := eq_tb T U
  generalize codeD T = A at *
  generalize codeD U = B at *
  generalize tbD T = C at *
  generalize tbD U = E at *
  simp [F_Code_eq, runF, m_Code_eq, e3, e1, e2, e4]
theorem code_eqT (T U : Tb) : F_Code_eq [.im (codeD T), .im (tbD U)] = .ok (.bool false) [.im (codeD T), .im (tbD U)] := by
  have e3 : isoD "Code" (tbD U) = some (.bool false) := rfl
  generalize codeD T = A at *
  generalize tbD U = E at *
  simp [F_Code_eq, runF, m_Code_eq, e3]
theorem code_modes (T : Tb) : F_Code_modes [.im (codeD T)] = .ok (tbD T) [.im (codeD T)] := by
  have e1 := code_fld T
  generalize codeD T = A at *
  simp [F_Code_modes, runF, m_Code_modes, e1]
/-! what deeds tell -/
theorem ne_ref (k : Int) : neD (.tuple [.str "refused", .int k]) (.tuple [.str "refused", .int k]) = some (.bool false) := by
  have := neD_tD (("refused", k) : Str × Int) ("refused", k)
  rw [decide_eq_true rfl] at this
  exact this
theorem eq_ref (k j : Int) : eqD (.tuple [.str "refused", .int k]) (.tuple [.str "refused", .int j]) = some (.bool (decide (k = j))) := by
  have := eqD_tD (("refused", k) : Str × Int) ("refused", j)
  have e : decide (((Str.ofString "refused", k) : Str × Int) = (Str.ofString "refused", j)) = decide (k = j) := decide_eq_decide.mpr ⟨fun h => (Prod.mk.inj h).2, fun h => by rw [h]⟩
  rw [e] at this
  exact this
theorem eq_fnd (z : Str) (j : Int) : eqD (.tuple [.str "found", .str z]) (.tuple [.str "refused", .int j]) = some (.bool false) := by
  show (if cmpOk (.tuple [.str "found", .str z]) (.tuple [.str "refused", .int j]) = true then some (PyData.bool (PyData.eqv (.tuple [.str "found", .str z]) (.tuple [.str "refused", .int j]))) else none) = _
  rw [if_pos (show cmpOk (.tuple [.str "found", .str z]) (.tuple [.str "refused", .int j]) = true from rfl)]
  have e : (("found" : Str) == "refused") = false := by decide +kernel
  simp [PyData.eqv, PyData.eqvAll, e]
theorem ne_bool (a b : Bool) : neD (.bool a) (.bool b) = some (.bool (!decide (a = b))) := neD_tD a b
theorem eq_bool (a b : Bool) : eqD (.bool a) (.bool b) = some (.bool (decide (a = b))) := eqD_tD a b
theorem eq_str (a b : Str) : eqD (.str a) (.str b) = some (.bool (decide (a = b))) := eqD_tD a b
theorem ne_str (a b : Str) : neD (.str a) (.str b) = some (.bool (!decide (a = b))) := neD_tD a b
theorem told_ex {w s : D} {c : Str} {r : Rho} {k : Int} (h : F_law_one [.im w, .im s] = .ex ⟨c, []⟩ r) (hc : (["BadCode", "BadRow"] : List Str).contains c = true)
    (hw : F_law_word [.im (.dict [(.str c, .bool true)])] = .ok (.int k) [.im (.dict [(.str c, .bool true)])]) : F_law_told [.im w, .im s] = .ok (.tuple [.str "refused", .int k]) [.im w, .im s] := by
  have s2 : 2 ≤ sizeLine := le_sz (by omega)
  have hc : c ∈ (["BadCode", "BadRow"] : List Str) := List.contains_iff_mem.mp hc
  simp only [List.mem_cons, List.not_mem_nil, or_false] at hc
  have hc : c = "BadCode" ∨ c = "BadRow" ∨ c = "NoMeaning" := by rcases hc with h | h <;> simp [h]
  simp [F_law_told, runF, m_law_told, h, hc, isNone, hw, s2]
theorem told_ok {w s d : D} {r : Rho} (h : F_law_one [.im w, .im s] = .ok d r) (hl : r.length = 2) : F_law_told [.im w, .im s] = .ok (.tuple [.str "found", d]) [.im w, .im s] := by
  have s2 : 2 ≤ sizeLine := le_sz (by omega)
  obtain ⟨a, b, rfl⟩ : ∃ a b, r = [a, b] := by
    match r, hl with
    | [a, b], _ => exact ⟨a, b, rfl⟩
  simp [F_law_told, runF, m_law_told, h, isNone, s2]
theorem word_code : F_law_word [.im (.dict [(.str "BadCode", .bool true)])] = .ok (.int 0) [.im (.dict [(.str "BadCode", .bool true)])] := rfl
theorem word_row : F_law_word [.im (.dict [(.str "BadRow", .bool true)])] = .ok (.int 1) [.im (.dict [(.str "BadRow", .bool true)])] := rfl
theorem word_mean : F_law_word [.im (.dict [(.str "NoMeaning", .bool false)])] = .ok (.int 2) [.im (.dict [(.str "NoMeaning", .bool false)])] := rfl
theorem ref_code : F_law_refused [.im (.str "code")] = .ok (.tuple [.str "refused", .int 0]) [.im (.str "code")] := rfl
theorem ref_row : F_law_refused [.im (.str "row")] = .ok (.tuple [.str "refused", .int 1]) [.im (.str "row")] := rfl
theorem told_mean {w s : D} {k : Nat} {r : Rho} (h : F_law_one [.im w, .im s] = .ex (noMean k) r) : F_law_told [.im w, .im s] = .ok (.tuple [.str "refused", .int 2]) [.im w, .im s] := by
  have s2 : 2 ≤ sizeLine := le_sz (by omega)
  unfold noMean at h
  simp [F_law_told, runF, m_law_told, h, isNone, word_mean, s2]
/-- a code made of anything -/
theorem told_bad {d : D} (h : PM d) (hb : isM d = false) : F_law_told [.im (.int 0), .im d] = .ok (.tuple [.str "refused", .int 0]) [.im (.int 0), .im d] := by
  have e := is_modes_any h
  rw [hb] at e
  have : ∃ r, F_law_one [.im (.int 0), .im d] = .ex ⟨"BadCode", []⟩ r := ⟨_, by simp [F_law_one, runX, m_law_one, F_Code_init, m_Code_init, e]; rfl⟩
  obtain ⟨r, e'⟩ := this
  exact told_ex e' rfl word_code
theorem told_good {T : Tb} {w : Nat} (h : Code T w) : F_law_told [.im (.int 0), .im (tbD T)] = .ok (.tuple [.str "found", codeD T]) [.im (.int 0), .im (tbD T)] := by
  have e := code_init h
  have eC : (PyData.dict [(.str "Code", .none), (.str "table", tbD T)]) = codeD T := rfl
  refine told_ok (r := [.im (.int 0), .im (tbD T)]) ?_ rfl
  generalize codeD T = CD at *
  generalize tbD T = TD at *
  simp [F_law_one, runX, m_law_one, e, eC]
/-! texts of codes -/
theorem small_int {n : Nat} (h : n ≤ 9) : PyData.strOk (intT n) = true ∧ (intT n).length ≤ 2 ∧ ((n : Int).natAbs.log2 < 1920) := by
  have : ∀ n ∈ List.range 10, PyData.strOk (intT (n : Int)) = true ∧ (intT (n : Int)).length ≤ 2 ∧ ((n : Int).natAbs.log2 < 1920) := by decide +kernel
  exact this n (List.mem_range.mpr (by omega))
theorem strOk_app {a b : Str} (ha : PyData.strOk a = true) (hb : PyData.strOk b = true) : PyData.strOk (a ++ b) = true := by
  unfold PyData.strOk at *
  show (a.cps ++ b.cps).all _ = true
  rw [Array.all_append, ha, hb]; rfl
theorem len_app (a b : Str) : (a ++ b).length = a.length + b.length := by
  show (a.cps ++ b.cps).size = _
  rw [Array.size_append]; rfl
theorem empty_app (a : Str) : Str.empty ++ a = a := by
  show (⟨#[] ++ a.cps⟩ : Str) = a
  simp
def sayC (m w : Nat) : Str := intT m ++ " modes, " ++ intT w ++ " symbols"
theorem code_str {T : Tb} {w : Nat} (h : Code T w) : F_Code_str [.im (codeD T)] = .ok (.str (sayC T.length w)) [.im (codeD T)] := by
  obtain ⟨a1, a2, a3⟩ := small_int (n := T.length) (by have := h.h4; omega)
  obtain ⟨b1, b2, b3⟩ := small_int (n := w) (by have := h.w8; omega)
  have e1 := code_fld T
  obtain ⟨r0, lw, lr⟩ : ∃ r0 : D, ixD (tbD T) (.int 0) = some r0 ∧ lenD r0 = some (.int w) := by
    obtain ⟨r0, T', rfl⟩ : ∃ r0 T', T = r0 :: T' := by
      cases T with
      | nil => exact absurd h.h1 (by simp)
      | cons a b => exact ⟨a, b, rfl⟩
    have hw0 : r0.length = w := h.wid r0 List.mem_cons_self
    exact ⟨rowD r0, at0 _ _, by simp [rowD, hw0]⟩
  have lT : lenD (tbD T) = some (.int T.length) := by simp [tbD]
  have f1 : fmtD (.int (T.length : Int)) = some (.str (intT T.length)) := if_pos ⟨a3, a1⟩
  have f2 : fmtD (.int (w : Int)) = some (.str (intT w)) := if_pos ⟨b3, b1⟩
  have m1 : (" modes, " : Str).length = 8 := by decide +kernel
  have m2 : (" symbols" : Str).length = 8 := by decide +kernel
  have k1 : PyData.strOk (" modes, " : Str) = true := by decide +kernel
  have k2 : PyData.strOk (" symbols" : Str) = true := by decide +kernel
  have l1 : (intT T.length).length ≤ sizeLine := le_sz (by omega)
  have l2 : (intT T.length ++ " modes, ").length ≤ sizeLine := le_sz (by rw [len_app]; omega)
  have l3 : (intT T.length ++ " modes, " ++ intT w).length ≤ sizeLine := le_sz (by rw [len_app, len_app]; omega)
  have l4 : (intT T.length ++ " modes, " ++ intT w ++ " symbols").length ≤ sizeLine := le_sz (by rw [len_app, len_app, len_app]; omega)
  have ok := strOk_app (strOk_app (strOk_app a1 k1) b1) k2
  unfold sayC
  generalize codeD T = CD at *
  generalize tbD T = TD at *
  simp [F_Code_str, runF, m_Code_str, fsM, e1, lT, lw, lr, f1, f2, empty_app, l1, l2, l3, l4, ok]
/-! one thing -/
theorem eq_fnd2 : eqD (.str "found") (.str "found") = some (.bool true) := by
  rw [eq_str, decide_eq_true rfl]
theorem eq_rfd : eqD (.str "refused") (.str "found") = some (.bool false) := by
  rw [eq_str, decide_eq_false (by decide +kernel)]
theorem code_ins (T : Tb) : insOf "Code" (codeD T) = some [(.str "table", tbD T)] := by simp [codeD]
theorem insB_code (T : Tb) : insB "Code" (codeD T) = true := rfl
theorem insN_code (T : Tb) : insN "Code" (codeD T) = true := by
  have h : (noObj (tbD T) && true) = true := by rw [noObj_tb]; rfl
  exact h
theorem isTup_tb (T : Tb) : isTup (tbD T) = true := rfl
theorem code_inj {T U : Tb} (h : codeD U = codeD T) : eqT U T = true := by
  have : tbD U = tbD T := by
    unfold codeD at h
    simpa using h
  unfold eqT
  rw [this]
  exact eqT_self T
section
variable {A0 A1 A2 z4 z5 z6 z7 z8 z9 z10 : Sl}
theorem in_code (T U : Tb) {ρ : Rho} (h6 : ρ[6]? = some (.im (codeD T))) (h7 : ρ[7]? = some (.im (codeD U))) (h3 : ρ[3]? = some (.im (tbD T))) :
    inO "Code" F_Code_eq (rd 6) (frzM (lstM (consM (rd 7) (consM (rd 3) (ret []))))) ρ = .ok (.bool (eqT U T)) ρ := by
  have i1 := insN_code T
  have i2 := insN_code U
  have i3 := isTup_tb T
  have e1 := code_eq U T
  have e2 := code_eqT T T
  have ne : eqT U T = false → ¬ codeD U = codeD T := fun h z => by rw [code_inj z] at h; cases h
  have s2 : 2 ≤ sizeLine := le_sz (by omega)
  generalize codeD T = CT at *
  generalize codeD U = CU at *
  generalize tbD T = TT at *
  cases c : eqT U T with
  | true =>
    rw [c] at e1
    simp [h6, h7, h3, i1, i2, i3, e1, s2]
  | false =>
    rw [c] at e1
    simp [h6, h7, h3, i1, i2, i3, e1, e2, s2, ne c]
theorem thing_bad {d : D} (h : PM d) (hb : isM d = false) : ∃ x4 x5, b_law_1 [A0, A1, A2, .im d, z4, z5, z6, z7, z8, z9, z10] = .ok .nx [A0, A1, A2, .im d, x4, x5, z6, z7, z8, z9, z10] := by
  have e1 := good_any h
  have e2 := told_bad h hb
  rw [hb] at e1
  have n1 := ne_ref 0
  have s2 : 2 ≤ sizeLine := le_sz (by omega)
  exact ⟨.im (.bool false), .im (.tuple [.str "refused", .int 0]), by simp [b_law_1, e1, e2, at0, eq_rfd, ne_bool, ref_code, n1, s2]⟩
def T2 : Tb := [[.say "a", .no], [.say "a", .go false 0]]
theorem t2_code : Code T2 2 := by
  have ga : GoodS "a" := ⟨by decide +kernel, by decide +kernel, by decide +kernel⟩
  refine ⟨by simp [T2], by simp [T2], by omega, by omega, fun r hr => ?_, fun r hr g hg => ?_⟩
  · simp only [T2, List.mem_cons, List.not_mem_nil, or_false] at hr
    rcases hr with rfl | rfl <;> rfl
  · simp only [T2, List.mem_cons, List.not_mem_nil, or_false] at hr
    rcases hr with rfl | rfl <;> simp only [List.mem_cons, List.not_mem_nil, or_false] at hg <;> rcases hg with rfl | rfl
    · exact ga
    · trivial
    · exact ga
    · show 0 < T2.length; simp [T2]
theorem thing_good {T : Tb} {w : Nat} (h : Code T w) (hp : PM (tbD T)) (hb : isM (tbD T) = true) : ∃ x4 x5 x6 x7, b_law_1 [A0, A1, A2, .im (tbD T), z4, z5, z6, z7, z8, z9, z10] = .ok .nx [A0, A1, A2, .im (tbD T), x4, x5, x6, x7, z8, z9, z10] := by
  have e1 := good_any hp
  rw [hb] at e1
  have e2 := told_good h
  have e3 := code_len h
  have ic := code_ins T
  have w6 : (w : Int) ≤ 1000000 := by have := h.w8; omega
  obtain ⟨r0, lw, lr⟩ : ∃ r0 : D, ixD (tbD T) (.int 0) = some r0 ∧ lenD r0 = some (.int w) := by
    obtain ⟨r0, T', rfl⟩ : ∃ r0 T', T = r0 :: T' := by
      cases T with
      | nil => exact absurd h.h1 (by simp)
      | cons a b => exact ⟨a, b, rfl⟩
    have hw0 : r0.length = w := h.wid r0 List.mem_cons_self
    exact ⟨rowD r0, at0 _ _, by simp [rowD, hw0]⟩
  have lT : lenD (tbD T) = some (.int T.length) := by simp [tbD]
  have m1 := code_modes T
  have mi : ∀ T : Tb, insM "Code" "modes" (codeD T) = true := fun T => by
    have n1 : ¬ ("modes" : Str) = "table" := by decide +kernel
    simp [codeD, lkF, n1]
  have mi1 := mi T
  have mi2 := mi T2
  have m2 := code_modes T2
  have n1 := ne_tb T T
  rw [eqT_self] at n1
  have q1 := code_eqT T T
  have q2 := code_eq T T
  rw [eqT_self] at q2
  have q3 := code_eq T2 T
  have b1 := insB_code T
  have b2 := insB_code T2
  have t1 := isTup_tb T
  have ini := code_init h
  have ini2 := code_init t2_code
  have eC : (PyData.dict [(.str "Code", .none), (.str "table", tbD T)]) = codeD T := rfl
  have eC2 : (PyData.dict [(.str "Code", .none), (.str "table", tbD T2)]) = codeD T2 := rfl
  have eT2 : (PyData.tuple [.tuple [.str "a", .none], .tuple [.str "a", .tuple [.str "to", .int 0]]]) = tbD T2 := rfl
  have st1 := code_str h
  obtain ⟨a1, a2, a3⟩ := small_int (n := T.length) (by have := h.h4; omega)
  obtain ⟨c1, c2, c3⟩ := small_int (n := w) (by have := h.w8; omega)
  have f1 : strD (.int (T.length : Int)) = some (.str (intT T.length)) := if_pos ⟨a3, a1⟩
  have f2 : strD (.int (w : Int)) = some (.str (intT w)) := if_pos ⟨c3, c1⟩
  have g1 : (" modes, " : Str).length = 8 := by decide +kernel
  have g2 : (" symbols" : Str).length = 8 := by decide +kernel
  have l2 : (intT T.length).length + (" modes, " : Str).length ≤ sizeLine := le_sz (by omega)
  have l3 : (intT T.length ++ " modes, ").length + (intT w).length ≤ sizeLine := le_sz (by rw [len_app]; omega)
  have l4 : (intT T.length ++ " modes, " ++ intT w).length + (" symbols" : Str).length ≤ sizeLine := le_sz (by rw [len_app, len_app]; omega)
  have sy := ne_str (sayC T.length w) (sayC T.length w)
  rw [decide_eq_true rfl] at sy
  have sf : intT T.length ++ " modes, " ++ intT w ++ " symbols" = sayC T.length w := rfl
  have k1 := eq_tb T T2
  have k2 := ne_tb T T2
  rw [eqT_comm T T2] at k1 k2
  have nb := ne_bool (eqT T2 T) (eqT T2 T)
  have nb2 := ne_bool (!eqT T2 T) (!eqT T2 T)
  rw [decide_eq_true rfl] at nb nb2
  have nt := ne_bool true true
  rw [decide_eq_true rfl] at nt
  have ig := in_code T T2 (ρ := [A0, A1, A2, .im (tbD T), .im (.bool true), .im (.tuple [.str "found", codeD T]), .im (codeD T), .im (codeD T2), z8, z9, z10]) rfl rfl rfl
  have s2 : 2 ≤ sizeLine := le_sz (by omega)
  clear mi
  generalize hT2 : T2 = U2 at *
  generalize eqT U2 T = Q at *
  generalize codeD T = CT at *
  generalize codeD U2 = C2 at *
  generalize tbD T = TT at *
  generalize tbD U2 = TT2 at *
  generalize sayC T.length w = SC at *
  refine ⟨.im (.bool true), .im (.tuple [.str "found", CT]), .im CT, .im C2, ?_⟩
  simp [b_law_1, e1, e2, at0, at1, eq_fnd2, nt, e3, ic, w6, lw, lr, lT, m1, mi1, mi2, m2, n1, q1, q2, q3, b1, b2, t1, ini, ini2, eC, eC2, eT2, st1, f1, f2, l2, l3, l4, sf, sy, k1, k2, nb, nb2, -inO_eq, ig, s2]
end
/-! things drawn -/
theorem pmg_mg {n : Nat} {g : Mg} (h : okMg n g) : PMg g.d := by
  cases g with
  | no => exact .none
  | say s => exact .str s (by have := h.2.1; omega)
  | go o m => exact .pair _ _ rfl rfl
theorem pmd_tuple {es : List D} (hl : es.length ≤ 12) (h : ∀ z ∈ es, PMg z) : PMd (.tuple es) := ⟨rfl, fun es' e => by cases e; exact ⟨hl, h⟩⟩
theorem pm_tuple {ds : List D} (hl : ds.length ≤ 12) (h : ∀ z ∈ ds, PMd z) : PM (.tuple ds) := ⟨rfl, fun es' e => by cases e; exact ⟨hl, h⟩⟩
theorem pmd_mg {n : Nat} {g : Mg} (h : okMg n g) : PMd g.d := by
  cases g with
  | no => exact ⟨rfl, fun es e => by cases e⟩
  | say s => exact ⟨rfl, fun es e => by cases e⟩
  | go o m =>
    refine pmd_tuple (by simp) fun z hz => ?_
    simp only [List.mem_cons, List.not_mem_nil, or_false] at hz
    rcases hz with rfl | rfl
    · exact .str _ (by cases o <;> decide +kernel)
    · exact .int _
section
variable {T : Tb} {w : Nat}
theorem pmg_row (h : CodeW T w) {r : List Mg} (hr : r ∈ T) : ∀ z ∈ r.map Mg.d, PMg z := fun z hz => by
  obtain ⟨g, hg, rfl⟩ := List.mem_map.mp hz
  exact pmg_mg (h.ok r hr g hg)
theorem pmd_row (h : CodeW T w) {r : List Mg} (hr : r ∈ T) : PMd (rowD r) := pmd_tuple (by rw [List.length_map, h.wid r hr]; have := h.w9; omega) (pmg_row h hr)
theorem pmd_all (h : CodeW T w) : ∀ z ∈ T.map rowD, PMd z := fun z hz => by
  obtain ⟨r, hr, rfl⟩ := List.mem_map.mp hz
  exact pmd_row h hr
theorem pm_tb (h : CodeW T w) : PM (tbD T) := pm_tuple (by rw [List.length_map]; have := h.h5; omega) (pmd_all h)
def odds (n : Nat) : List D := [.str "", .str "abcd", .str " ", .str "a b", .tuple [.str "to", .int n], .tuple [.str "once", .int (-1)], .tuple [.str "to", .bool true], .tuple [.str "at", .int 0], .list [.str "to", .int 0], .tuple [.str "to"]] ++ [.bool true, .int 7, .str "~!~", .tuple [.str "once", .int ((n : Int) - 1)]]
theorem odds_pmg {n : Nat} {x : D} (h : x ∈ odds n) : PMg x := by
  simp only [odds, List.cons_append, List.nil_append, List.mem_cons, List.not_mem_nil, or_false] at h
  rcases h with rfl | rfl | rfl | rfl | rfl | rfl | rfl | rfl | rfl | rfl | rfl | rfl | rfl | rfl
  · exact .str _ (by decide +kernel)
  · exact .str _ (by decide +kernel)
  · exact .str _ (by decide +kernel)
  · exact .str _ (by decide +kernel)
  · exact .pair _ _ rfl rfl
  · exact .pair _ _ rfl rfl
  · exact .pair _ _ rfl rfl
  · exact .pair _ _ rfl rfl
  · exact .list _ rfl
  · exact .one _ rfl
  · exact .bool _
  · exact .int _
  · exact .str _ (by decide +kernel)
  · exact .pair _ _ rfl rfl
theorem spoilt_ok {ns : List Int} {B : Nat} {t : List D} (ht : Tw ns B t) (hB : B < 2 ^ 57) (h : CodeW T w) :
    ∃ (d : D) (t' : List D), PM d ∧ Tw ns (B + 5) t' ∧ F_law_spoilt [.im (.list (nI ns)), .ml t, .im (tbD T)] = .ok d [.im (.list (nI ns)), .ml t', .im (tbD T)] := by
  have h1 := h.h1
  have h5 := h.h5
  have w2 := h.w2
  have w9 := h.w9
  have all := pmd_all h
  have pmT := pm_tb h
  obtain ⟨at', t1, a0, a1, ht1, e1⟩ := draw_ok (many := (T.length : Int)) ht (by omega) (by omega) (by omega)
  obtain ⟨k, rfl⟩ := Int.eq_ofNat_of_zero_le a0
  have hk : k < T.length := by omega
  obtain ⟨r, hr⟩ : ∃ r, T[k]? = some r := ⟨T[k], List.getElem?_eq_getElem hk⟩
  have hrm : r ∈ T := List.mem_of_getElem? hr
  have hrw := h.wid r hrm
  have gr := pmg_row h hrm
  obtain ⟨r0, hr0⟩ : ∃ r, T[0]? = some r := ⟨T[0], List.getElem?_eq_getElem (by omega)⟩
  have hr0m : r0 ∈ T := List.mem_of_getElem? hr0
  have gr0 := pmg_row h hr0m
  have gm0 : ∀ z ∈ r0.map Mg.d, PMd z := fun z hz => by
    obtain ⟨g, hg, rfl⟩ := List.mem_map.mp hz
    exact pmd_mg (h.ok r0 hr0m g hg)
  have s0 : 0 ≤ sizeLine := Nat.zero_le _
  have x1 : atI (T.map rowD) (k : Int) = some (.tuple (r.map Mg.d)) := DS.atI_nat (by rw [List.getElem?_map, hr]; rfl)
  have x0 : atI (T.map rowD) 0 = some (.tuple (r0.map Mg.d)) := DS.atI_nat (i := 0) (by rw [List.getElem?_map, hr0]; rfl)
  have lT : (T.map rowD).length = T.length := by simp
  have lR : (r.map Mg.d).length = w := by simp [hrw]
  have lR0 : (r0.map Mg.d).length = w := by simp [h.wid r0 hr0m]
  have pr0 : PMd (.tuple (r0.map Mg.d)) := pmd_row h hr0m
  have pr : PMd (.tuple (r.map Mg.d)) := pmd_row h hrm
  obtain ⟨to', t2, b0, b1, ht2, e2⟩ := draw_ok (many := (w : Int)) ht1 (by omega) (by omega) (by omega)
  obtain ⟨j, rfl⟩ := Int.eq_ofNat_of_zero_le b0
  obtain ⟨x, t3, hx, ht3, e3⟩ := pick_ok (ds := odds T.length) ht2 (by omega) (by simp [odds]) (by simp [odds])
  have px := odds_pmg hx
  obtain ⟨way, t4, c0, c1, ht4, e4⟩ := draw_ok (many := 7) ht3 (by omega) (by omega) (by omega)
  have tbe : tbD T = .tuple (T.map rowD) := rfl
  rw [tbe] at pmT ⊢
  generalize r.map Mg.d = R at *
  generalize r0.map Mg.d = R0 at *
  generalize hTT : T.map rowD = TT at *
  have u1 : cutL R none (some (j : Int)) = R.take j := by rw [cutL_to]
  have u2 : cutL R (some ((j : Int) + 1)) none = R.drop (j + 1) := by rw [cutL_fromS]
  have u3 : cutL TT none (some (k : Int)) = TT.take k := by rw [cutL_to]
  have u4 : cutL TT (some ((k : Int) + 1)) none = TT.drop (k + 1) := by rw [cutL_fromS]
  have u5 : cutL R0 none (some 1) = R0.take 1 := cutL_to R0 1
  have u6 : cutL R (some 1) none = R.drop 1 := cutL_from R 1
  have ov : odds T.length = [.str "", .str "abcd", .str " ", .str "a b", .tuple [.str "to", .int T.length], .tuple [.str "once", .int (-1)], .tuple [.str "to", .bool true], .tuple [.str "at", .int 0], .list [.str "to", .int 0], .tuple [.str "to"], .bool true, .int 7, .str "~!~", .tuple [.str "once", .int ((T.length : Int) - 1)]] := rfl
  rw [ov] at e3
  have lTi : (TT.length : Int) = (T.length : Int) := by rw [lT]
  have lRi : (R.length : Int) = (w : Int) := by rw [lR]
  have s1 : 1 ≤ sizeLine := le_sz (by omega)
  have s2 : 2 ≤ sizeLine := le_sz (by omega)
  have s4 : 4 ≤ sizeLine := le_sz (by omega)
  have s8 : 8 ≤ sizeLine := le_sz (by omega)
  have s10 : 10 ≤ sizeLine := le_sz (by omega)
  have s14 : 14 ≤ sizeLine := le_sz (by omega)
  have v1 : (R.take j).length + 1 ≤ sizeLine := le_sz (by simp; omega)
  have v2 : (R.take j).length + 1 + (R.drop (j + 1)).length ≤ sizeLine := le_sz (by simp; omega)
  have v3 : TT.length ≤ sizeLine := le_sz (by omega)
  have v4 : TT.length + 1 ≤ sizeLine := le_sz (by omega)
  have v3' : T.length ≤ sizeLine := le_sz (by omega)
  have v4' : T.length + 1 ≤ sizeLine := le_sz (by omega)
  have v5 : R.length ≤ sizeLine := le_sz (by omega)
  have v6 : R.length + 1 ≤ sizeLine := le_sz (by omega)
  have v7 : (TT.take k).length + 1 ≤ sizeLine := le_sz (by simp; omega)
  have v8 : (TT.take k).length + 1 + (TT.drop (k + 1)).length ≤ sizeLine := le_sz (by simp; omega)
  have pone : PMd (.tuple (R.take j ++ x :: R.drop (j + 1))) := pmd_tuple (by simp; omega) fun z hz => by
    simp only [List.mem_append, List.mem_cons] at hz
    rcases hz with hz | rfl | hz
    · exact gr z (List.mem_of_mem_take hz)
    · exact px
    · exact gr z (List.mem_of_mem_drop hz)
  have pfin : ∀ y : D, PMd y → PM (.tuple (TT.take k ++ y :: TT.drop (k + 1))) := fun y hy => pm_tuple (by simp; omega) fun z hz => by
    simp only [List.mem_append, List.mem_cons] at hz
    rcases hz with hz | rfl | hz
    · exact all z (List.mem_of_mem_take hz)
    · exact hy
    · exact all z (List.mem_of_mem_drop hz)
  have p01 : PMd (.tuple (R0.take 1)) := pmd_tuple (by simp; omega) fun z hz => gr0 z (List.mem_of_mem_take hz)
  have p1 : PMd (.tuple (R.drop 1)) := pmd_tuple (by simp; omega) fun z hz => gr z (List.mem_of_mem_drop hz)
  generalize R.take j = RJ at *
  generalize R.drop (j + 1) = RD at *
  generalize TT.take k = TK at *
  generalize TT.drop (k + 1) = TD at *
  generalize R0.take 1 = R01 at *
  generalize R.drop 1 = R1 at *
  by_cases w0 : way = 0
  · obtain ⟨y, t5, hy, ht5, e5⟩ := pick_ok (ds := [.none, .list TT, .tuple [], .tuple R0, .str "ab", .dict [], .tuple [.tuple R01], .tuple (TT ++ [.tuple []])]) ht4 (by omega) (by simp) (by simp)
    refine ⟨y, t5, ?_, ht5.mono (by omega), ?_⟩
    · simp only [List.mem_cons, List.not_mem_nil, or_false] at hy
      rcases hy with rfl | rfl | rfl | rfl | rfl | rfl | rfl | rfl
      · exact ⟨rfl, fun ds e => by cases e⟩
      · exact ⟨rfl, fun ds e => by cases e⟩
      · exact pm_tuple (by simp) fun z hz => by cases hz
      · exact pm_tuple (by omega) gm0
      · exact ⟨rfl, fun ds e => by cases e⟩
      · exact ⟨rfl, fun ds e => by cases e⟩
      · refine pm_tuple (by simp) fun z hz => ?_
        rw [List.mem_singleton.mp hz]
        exact p01
      · refine pm_tuple (by simp; omega) fun z hz => ?_
        rcases List.mem_append.mp hz with hz | hz
        · exact all z hz
        · rw [List.mem_singleton.mp hz]
          exact pmd_tuple (by simp) fun z hz => by cases hz
    · simp [F_law_spoilt, runF, m_law_spoilt, r_law_spoilt_1, s0, lTi, lRi, lT, e1, x1, x0, e2, s1, s2, s4, s8, s10, s14, e3, u1, u2, u5, v1, v2, v3, v4, v3', v4', e4, w0, e5]
  · by_cases w1 : way = 1
    · obtain ⟨y, t5, hy, ht5, e5⟩ := pick_ok (ds := [.list R, .tuple R1, .tuple (R ++ [.str "a"]), .str "ab"]) ht4 (by omega) (by simp) (by simp)
      refine ⟨_, t5, pfin y ?_, ht5.mono (by omega), ?_⟩
      · simp only [List.mem_cons, List.not_mem_nil, or_false] at hy
        rcases hy with rfl | rfl | rfl | rfl
        · exact ⟨rfl, fun ds e => by cases e⟩
        · exact p1
        · refine pmd_tuple (by simp; omega) fun z hz => ?_
          rcases List.mem_append.mp hz with hz | hz
          · exact gr z hz
          · rw [List.mem_singleton.mp hz]; exact .str _ (by decide +kernel)
        · exact ⟨rfl, fun ds e => by cases e⟩
      · simp [F_law_spoilt, runF, m_law_spoilt, r_law_spoilt_1, s0, lTi, lRi, lT, e1, x1, x0, e2, s1, s2, s4, s8, s10, s14, e3, u1, u2, u3, u4, u6, v1, v2, v5, v6, v7, v8, e4, w1, e5]
    · by_cases w4 : 4 < way
      · refine ⟨.tuple TT, t4, pmT, ht4.mono (by omega), ?_⟩
        simp [F_law_spoilt, runF, m_law_spoilt, r_law_spoilt_1, s0, lTi, lRi, lT, e1, x1, x0, e2, s1, s2, s4, s8, s10, s14, e3, u1, u2, v1, v2, e4, w0, w1, w4]
      · refine ⟨_, t4, pfin _ pone, ht4.mono (by omega), ?_⟩
        simp [F_law_spoilt, runF, m_law_spoilt, r_law_spoilt_1, s0, lTi, lRi, lT, e1, x1, x0, e2, s1, s2, s4, s8, s10, s14, e3, u1, u2, u3, u4, v1, v2, v7, v8, e4, w0, w1, w4]
end
/-! rows -/
def allW (d : D) : Bool := match d with
  | .list ds => ds.all whB
  | _ => false
theorem flt_no (c : D → Bool) (ds : List D) (h : noObjA ds = true) : eqD (.list (ds.filter fun x => !c x)) (.list []) = some (.bool (ds.all c)) := by
  have no : noObjA (ds.filter fun x => !c x) = true := noObj_flt _ ds fun z hz => by
    induction ds with
    | nil => cases hz
    | cons a l ih =>
      have h : (noObj a && noObjA l) = true := h
      rw [Bool.and_eq_true] at h
      rcases List.mem_cons.mp hz with rfl | hz
      · exact h.1
      · exact ih h.2 hz
  rw [eqD_nil _ no, flt_mty]
  simp
theorem wholes_any {d : D} (h : okV d = true) (hl : ∀ ds, d = .list ds → ds.length ≤ 400 ∧ (∀ x ∈ ds, okV x = true) ∧ noObjA ds = true) : F_law_wholes [.im d] = .ok (.bool (allW d)) [.im d] := by
  have s0 : 0 ≤ sizeLine := Nat.zero_le _
  cases d with
  | dict kvs =>
    cases kvs with
    | cons p r => cases h
    | nil => simp [F_law_wholes, runF, m_law_wholes, allW]
  | list ds =>
    obtain ⟨hn, ho, hb⟩ := hl ds rfl
    have e : lcA [1] (DS.st 1) t_law_wholes_1 e_law_wholes_2 [] ds [.im (.list ds), .un] = .ok (ds.filter fun x => !whB x) [.im (.list ds), .un] := by
      have := lc_flt (f := DS.st 1) (t := t_law_wholes_1) (el := e_law_wholes_2) (vs := [1]) (fun d : D => d) (fun x => !whB x) (fun d : D => d) (fun x => [.im (.list ds), .im x]) (ρ := [.im (.list ds), .un]) (ρ0 := [.im (.list ds), .un]) rfl ds [] (le_sz (by simp; omega)) fun x hx => ⟨rfl, rfl, by
        have hw := whole_any (ho x hx)
        simp [t_law_wholes_1, hw], fun _ => by simp [e_law_wholes_2]⟩
      simpa using this
    have en := flt_no whB ds hb
    have al : allW (.list ds) = ds.all whB := rfl
    rw [al]
    generalize ds.filter (fun x => !whB x) = L at *
    generalize ds.all whB = B at *
    simp [F_law_wholes, runF, m_law_wholes, s0, e, en]
  | _ => simp [F_law_wholes, runF, m_law_wholes, allW]
theorem sq_nx {p q : M DS.Flow} {ρ ρ1 : Rho} (h : p ρ = .ok .nx ρ1) : sq p q ρ = q ρ1 := by rw [sq_eq, h]
def T3 : Tb := [[.say "a", .say "b", .no], [.no, .say "c", .go false 0]]
theorem t3_code : Code T3 3 := by
  have g : ∀ s ∈ (["a", "b", "c"] : List Str), GoodS s := by
    intro s hs
    simp only [List.mem_cons, List.not_mem_nil, or_false] at hs
    rcases hs with rfl | rfl | rfl <;> exact ⟨by decide +kernel, by decide +kernel, by decide +kernel⟩
  refine ⟨by simp [T3], by simp [T3], by omega, by omega, fun r hr => ?_, fun r hr x hx => ?_⟩
  · simp only [T3, List.mem_cons, List.not_mem_nil, or_false] at hr
    rcases hr with rfl | rfl <;> rfl
  · simp only [T3, List.mem_cons, List.not_mem_nil, or_false] at hr
    rcases hr with rfl | rfl <;> simp only [List.mem_cons, List.not_mem_nil, or_false] at hx <;> rcases hx with rfl | rfl | rfl
    · exact g _ (by simp)
    · exact g _ (by simp)
    · trivial
    · trivial
    · exact g _ (by simp)
    · show 0 < T3.length; simp [T3]
theorem isRow_nI {d : D} {w : Nat} (h : isRow d w = true) : ∃ r : List Nat, d = .list (nI (rN r)) ∧ (∀ x ∈ r, x < w) ∧ r.length ≤ 300 := by
  cases d with
  | list ds =>
    have h : (decide (ds.length ≤ 300) && ds.all fun x => isNum x 0 ((w : Int) - 1)) = true := h
    simp only [Bool.and_eq_true, decide_eq_true_eq, List.all_eq_true] at h
    obtain ⟨h1, h2⟩ := h
    have key : ∀ ds : List D, (∀ x ∈ ds, isNum x 0 ((w : Int) - 1) = true) → ∃ r : List Nat, ds = nI (rN r) ∧ ∀ x ∈ r, x < w := fun ds => by
      induction ds with
      | nil => intro _; exact ⟨[], rfl, fun g hg => by cases hg⟩
      | cons z ds ih =>
        intro hz
        obtain ⟨r, rfl, hr⟩ := ih fun x hx => hz x (List.mem_cons_of_mem _ hx)
        have hn := hz z List.mem_cons_self
        unfold isNum at hn
        split at hn
        · rename_i i
          simp only [Bool.and_eq_true, decide_eq_true_eq] at hn
          refine ⟨i.toNat :: r, ?_, fun y hy => ?_⟩
          · simp [nI, rN, Int.toNat_of_nonneg hn.1]
          · rcases List.mem_cons.mp hy with rfl | hy
            · omega
            · exact hr y hy
        · cases hn
    obtain ⟨r, rfl, hr⟩ := key ds h2
    exact ⟨r, rfl, hr, by simpa using h1⟩
  | _ => cases h
theorem sayM : insM "Code" "says" (codeD T3) = true := by
  have n1 : ¬ ("says" : Str) = "table" := by decide +kernel
  simp [codeD, lkF, n1]
section
variable {A0 A1 A2 A3 z4 z5 A7 A8 z9 z10 : Sl}
/-- rows that are handed in -/
structure PR (d : D) : Prop where
  ok : okV d = true
  it : ∀ ds, d = .list ds → ds.length ≤ 400 ∧ (∀ x ∈ ds, okV x = true) ∧ noObjA ds = true
theorem isRow_all {ds : List D} (h : isRow (.list ds) 3 = true) : ds.all whB = true := by
  have h : (decide (ds.length ≤ 300) && ds.all fun x => isNum x 0 ((3 : Int) - 1)) = true := h
  simp only [Bool.and_eq_true, List.all_eq_true] at h
  rw [List.all_eq_true]
  intro x hx
  have := h.2 x hx
  cases x <;> first | rfl | cases this
def goodM : M D := andV (bnd (vim (rd 9) (ret [])) (callM F_law_wholes)) (andV (bin leD (c1 lenD (pk 9)) (ret (.int 300))) (bin eqD (frzM (lcM [10] (itM (rd 9)) (st 10) t_law_2 e_law_3)) (frzM (lstM (ret [])))))
theorem row_good {d : D} (h : PR d) : ∃ x10, goodM [A0, A1, A2, A3, z4, z5, .im (codeD T3), A7, A8, .im d, z10] = .ok (.bool (isRow d 3)) [A0, A1, A2, A3, z4, z5, .im (codeD T3), A7, A8, .im d, x10] := by
  have s0 : 0 ≤ sizeLine := Nat.zero_le _
  have e1 := wholes_any h.ok h.it
  generalize codeD T3 = C3 at *
  cases d with
  | list ds =>
    obtain ⟨hn, ho, hb⟩ := h.it ds rfl
    have al : allW (.list ds) = ds.all whB := rfl
    rw [al] at e1
    cases ca : ds.all whB with
    | false =>
      rw [ca] at e1
      have : isRow (.list ds) 3 = false := by
        cases z : isRow (.list ds) 3 with
        | false => rfl
        | true => rw [isRow_all z] at ca; cases ca
      rw [this]
      exact ⟨z10, by simp [goodM, e1]⟩
    | true =>
      rw [ca] at e1
      have ir : isRow (.list ds) 3 = (decide (ds.length ≤ 300) && ds.all fun x => isNum x 0 ((3 : Int) - 1)) := rfl
      rw [ir]
      by_cases c3 : ds.length ≤ 300
      · have c3' : (ds.length : Int) ≤ 300 := by omega
        have tx : ∀ x ∈ ds, t_law_2 [A0, A1, A2, A3, z4, z5, .im C3, A7, A8, .im (.list ds), .im x] = .ok (!isNum x 0 ((3 : Int) - 1)) [A0, A1, A2, A3, z4, z5, .im C3, A7, A8, .im (.list ds), .im x] := fun x hx => by
          have hw := List.all_eq_true.mp ca x hx
          cases x with
          | int i =>
            have : isNum (.int i) 0 ((3 : Int) - 1) = decide (0 ≤ i ∧ i < 3) := by
              show (decide (0 ≤ i) && decide (i ≤ (3 : Int) - 1)) = _
              rw [← Bool.decide_and]
              exact decide_eq_decide.mpr (by omega)
            rw [this]
            simp [t_law_2]
          | _ => cases hw
        have e : lcA [10] (DS.st 10) t_law_2 e_law_3 [] ds [A0, A1, A2, A3, z4, z5, .im C3, A7, A8, .im (.list ds), z10] = .ok (ds.filter fun x => !isNum x 0 ((3 : Int) - 1)) [A0, A1, A2, A3, z4, z5, .im C3, A7, A8, .im (.list ds), .un] := by
          have := lc_flt (f := DS.st 10) (t := t_law_2) (el := e_law_3) (vs := [10]) (fun d : D => d) (fun x => !isNum x 0 ((3 : Int) - 1)) (fun d : D => d) (fun x => [A0, A1, A2, A3, z4, z5, .im C3, A7, A8, .im (.list ds), .im x]) (ρ := [A0, A1, A2, A3, z4, z5, .im C3, A7, A8, .im (.list ds), z10]) (ρ0 := [A0, A1, A2, A3, z4, z5, .im C3, A7, A8, .im (.list ds), .un]) rfl ds [] (le_sz (by simp; omega)) fun x hx => ⟨rfl, rfl, tx x hx, fun _ => by simp [e_law_3]⟩
          simpa using this
        have en := flt_no (fun x => isNum x 0 ((3 : Int) - 1)) ds hb
        rw [decide_eq_true c3, Bool.true_and]
        generalize ds.filter (fun x => !isNum x 0 ((3 : Int) - 1)) = L at *
        generalize (ds.all fun x => isNum x 0 ((3 : Int) - 1)) = B at *
        exact ⟨.un, by simp [goodM, e1, c3', s0, e, en]⟩
      · have c3' : ¬ (ds.length : Int) ≤ 300 := by omega
        rw [decide_eq_false c3, Bool.false_and]
        exact ⟨z10, by simp [goodM, e1, c3']⟩
  | _ => exact ⟨z10, by simp [goodM, e1, allW, isRow]⟩
theorem row_told {d : D} (h : PR d) : ∃ x, F_law_told [.im (.int 1), .im (.tuple [codeD T3, d])] = .ok x [.im (.int 1), .im (.tuple [codeD T3, d])] ∧ eqD x (.tuple [.str "refused", .int 1]) = some (.bool (!isRow d 3)) := by
  have e2 := is_row_any (d := d) 3 h.ok fun ds e hl x hx => (h.it ds e).2.1 x hx
  have ic := code_ins T3
  have e3 := code_len t3_code
  have e3 : F_Code_len [.im (codeD T3)] = .ok (.int 3) [.im (codeD T3)] := e3
  have sm := sayM
  have s2 : 2 ≤ sizeLine := le_sz (by omega)
  cases c : isRow d 3 with
  | false =>
    rw [c] at e2
    have : ∃ r, F_law_one [.im (.int 1), .im (.tuple [codeD T3, d])] = .ex ⟨"BadRow", []⟩ r := by
      generalize codeD T3 = C3 at *
      exact ⟨_, by simp [F_law_one, runX, m_law_one, at0, at1, sm, F_Code_says, m_Code_says, ic, e3, e2]; rfl⟩
    obtain ⟨r, e'⟩ := this
    refine ⟨_, told_ex e' rfl word_row, ?_⟩
    have := eq_ref 1 1
    rw [decide_eq_true rfl] at this
    exact this
  | true =>
    obtain ⟨r, rfl, hr, hl⟩ := isRow_nI (w := 3) c
    have sy := says_ok t3_code hr hl
    cases hs : saidT T3 r with
    | inl k =>
      rw [hs] at sy
      obtain ⟨ρ', sy⟩ := sy
      have : ∃ r', F_law_one [.im (.int 1), .im (.tuple [codeD T3, .list (nI (rN r))])] = .ex (noMean k) r' := by
        generalize codeD T3 = C3 at *
        generalize PyData.list (nI (rN r)) = R at *
        exact ⟨_, by simp [F_law_one, runX, m_law_one, at0, at1, sm, sy]; rfl⟩
      obtain ⟨r', e'⟩ := this
      refine ⟨_, told_mean e', ?_⟩
      have := eq_ref 2 1
      rw [decide_eq_false (by decide)] at this
      exact this
    | inr z =>
      rw [hs] at sy
      dsimp only at sy
      have : F_law_one [.im (.int 1), .im (.tuple [codeD T3, .list (nI (rN r))])] = .ok (.str z) [.im (.int 1), .im (.tuple [codeD T3, .list (nI (rN r))])] := by
        generalize codeD T3 = C3 at *
        generalize PyData.list (nI (rN r)) = R at *
        simp [F_law_one, runX, m_law_one, at0, at1, sm, sy]
      exact ⟨_, told_ok this rfl, eq_fnd z 1⟩
theorem row_step {d : D} (h : PR d) : ∃ x4 x5 x10, forStep (DS.st 9) b_law_4 d [A0, A1, A2, A3, z4, z5, .im (codeD T3), A7, A8, z9, z10] = .ok .nx [A0, A1, A2, A3, x4, x5, .im (codeD T3), A7, A8, .im d, x10] := by
  rw [forStep_ok rfl]
  show ∃ x4 x5 x10, b_law_4 [A0, A1, A2, A3, z4, z5, .im (codeD T3), A7, A8, .im d, z10] = _
  obtain ⟨x10, e1⟩ := row_good (A0 := A0) (A1 := A1) (A2 := A2) (A3 := A3) (A7 := A7) (A8 := A8) (z4 := z4) (z5 := z5) (z10 := z10) h
  obtain ⟨x, e2, e3⟩ := row_told h
  have s2 : 2 ≤ sizeLine := le_sz (by omega)
  have nb := eq_bool (isRow d 3) (!isRow d 3)
  rw [decide_eq_false (by cases isRow d 3 <;> decide)] at nb
  have gm : ∀ ρ, (andV (bnd (vim (rd 9) (ret [])) (callM F_law_wholes)) (andV (bin leD (c1 lenD (pk 9)) (ret (.int 300))) (bin eqD (frzM (lcM [10] (itM (rd 9)) (st 10) t_law_2 e_law_3)) (frzM (lstM (ret [])))))) ρ = goodM ρ := fun ρ => rfl
  generalize codeD T3 = C3 at *
  generalize isRow d 3 = B at *
  refine ⟨.im (.bool B), .im x, x10, ?_⟩
  unfold b_law_4
  rw [sq_nx (ρ1 := [A0, A1, A2, A3, .im (.bool B), z5, .im C3, A7, A8, .im d, x10]) (by unfold asM; simp only [bnd]; rw [gm, e1]; rfl)]
  simp [s2, e2, ref_row, e3, nb]
theorem rows_loop : ∀ (ds : List D) (z4 z5 z9 z10 : Sl), (∀ d ∈ ds, PR d) → ∃ x4 x5 x9 x10, DS.forM (DS.st 9) b_law_4 ds [A0, A1, A2, A3, z4, z5, .im (codeD T3), A7, A8, z9, z10] = .ok .nx [A0, A1, A2, A3, x4, x5, .im (codeD T3), A7, A8, x9, x10]
  | [], z4, z5, z9, z10, _ => ⟨z4, z5, z9, z10, rfl⟩
  | d :: ds, z4, z5, z9, z10, h => by
    obtain ⟨x4, x5, x10, e⟩ := row_step (A0 := A0) (A1 := A1) (A2 := A2) (A3 := A3) (A7 := A7) (A8 := A8) (z4 := z4) (z5 := z5) (z9 := z9) (z10 := z10) (h d List.mem_cons_self)
    obtain ⟨y4, y5, y9, y10, e'⟩ := rows_loop ds x4 x5 (.im d) x10 fun d' h' => h d' (List.mem_cons_of_mem _ h')
    exact ⟨y4, y5, y9, y10, by rw [forM_step e]; exact e'⟩
end
/-! things -/
section
variable {A0 A1 A2 z8 z9 z10 : Sl}
theorem things_loop : ∀ (ds : List D) (z3 z4 z5 z6 z7 : Sl), (∀ d ∈ ds, PM d) → ∃ x3 x4 x5 x6 x7, DS.forM (DS.st 3) b_law_1 ds [A0, A1, A2, z3, z4, z5, z6, z7, z8, z9, z10] = .ok .nx [A0, A1, A2, x3, x4, x5, x6, x7, z8, z9, z10]
  | [], z3, z4, z5, z6, z7, _ => ⟨z3, z4, z5, z6, z7, rfl⟩
  | d :: ds, z3, z4, z5, z6, z7, h => by
    have hd := h d List.mem_cons_self
    have st : ∃ x4 x5 x6 x7, forStep (DS.st 3) b_law_1 d [A0, A1, A2, z3, z4, z5, z6, z7, z8, z9, z10] = .ok .nx [A0, A1, A2, .im d, x4, x5, x6, x7, z8, z9, z10] := by
      rw [forStep_ok rfl]
      show ∃ x4 x5 x6 x7, b_law_1 [A0, A1, A2, .im d, z4, z5, z6, z7, z8, z9, z10] = _
      cases c : isM d with
      | false =>
        obtain ⟨x4, x5, e⟩ := thing_bad (A0 := A0) (A1 := A1) (A2 := A2) (z4 := z4) (z5 := z5) (z6 := z6) (z7 := z7) (z8 := z8) (z9 := z9) (z10 := z10) hd c
        exact ⟨x4, x5, z6, z7, e⟩
      | true =>
        obtain ⟨T, w, rfl, hc⟩ := isM_code c
        exact thing_good hc hd c
    obtain ⟨x4, x5, x6, x7, e⟩ := st
    obtain ⟨y3, y4, y5, y6, y7, e'⟩ := things_loop ds (.im d) x4 x5 x6 x7 fun d' h' => h d' (List.mem_cons_of_mem _ h')
    exact ⟨y3, y4, y5, y6, y7, by rw [forM_step e]; exact e'⟩
end
theorem law_true : ∀ ns : List Int, ns.length ≤ 63 → ∃ r, F_law [.im (.list (ns.map .int))] = .ok (.bool true) r := by
  intro ns hl
  have e0 := town_ok ns hl
  obtain ⟨T, w, t1, hc, _, _, ht1, e1⟩ := modesW_ok (mm := 5) (ms := 9) (town_tw ns) (by omega) (by omega) (by omega)
  have e1 : F_law_modes [.im (.list (nI ns)), .ml (.int 0 :: nI ns), .im (.int 5), .im (.int 9)] = .ok (tbD T) [.im (.list (nI ns)), .ml t1, .im (.int 5), .im (.int 9)] := e1
  obtain ⟨d1, t2, p1, ht2, e2⟩ := spoilt_ok ht1 (by omega) hc
  obtain ⟨d2, t3, p2, ht3, e3⟩ := spoilt_ok ht2 (by omega) hc
  have pT := pm_tb hc
  obtain ⟨x3, x4, x5, x6, x7, lf⟩ := things_loop (A0 := .im (.list (nI ns))) (A1 := .ml t3) (A2 := .im (tbD T)) (z8 := .un) (z9 := .un) (z10 := .un) [d1, d2, tbD T] .un .un .un .un .un (fun d hd => by
    simp only [List.mem_cons, List.not_mem_nil, or_false] at hd
    rcases hd with rfl | rfl | rfl
    · exact p1
    · exact p2
    · exact pT)
  have ini := code_init t3_code
  obtain ⟨x, t4, hx, ht4, e4⟩ := pick_ok (ds := [.int 0, .int 1, .int 2, .int 3, .int (-1), .bool true, .none, .str "0", .tuple [.int 0]]) ht3 (by omega) (by simp) (by simp)
  have px : okV x = true ∧ noObj x = true := by
    simp only [List.mem_cons, List.not_mem_nil, or_false] at hx
    rcases hx with rfl | rfl | rfl | rfl | rfl | rfl | rfl | rfl | rfl <;> exact ⟨rfl, rfl⟩
  have rep : ∀ n : Nat, n ≤ 400 → PR (.list (List.replicate n (.int 0))) := fun n hn => ⟨rfl, fun ds e => by
    cases e
    refine ⟨by simpa using hn, fun y hy => by rw [(List.mem_replicate.mp hy).2]; rfl, ?_⟩
    clear hn
    induction n with
    | zero => rfl
    | succ n ih => rw [List.replicate_succ]; show (true && _) = true; rw [ih]; rfl⟩
  obtain ⟨y4, y5, y9, y10, lr⟩ := rows_loop (A0 := .im (.list (nI ns))) (A1 := .ml t4) (A2 := .im (tbD T)) (A3 := x3) (A7 := x7) (A8 := .im x) [.list [x], .list [.int 0, x], .tuple [.int 0, .int 1], .none, .str "0", .dict [], .list (List.replicate 300 (.int 0)), .list (List.replicate 301 (.int 0))] x4 x5 .un .un (fun d hd => by
    simp only [List.mem_cons, List.not_mem_nil, or_false] at hd
    rcases hd with rfl | rfl | rfl | rfl | rfl | rfl | rfl | rfl
    · exact ⟨rfl, fun ds e => by
        cases e
        refine ⟨by simp, fun y hy => by rw [List.mem_singleton.mp hy]; exact px.1, ?_⟩
        show (noObj x && true) = true
        rw [px.2]; rfl⟩
    · exact ⟨rfl, fun ds e => by
        cases e
        refine ⟨by simp, fun y hy => ?_, ?_⟩
        · simp only [List.mem_cons, List.not_mem_nil, or_false] at hy
          rcases hy with rfl | rfl
          · rfl
          · exact px.1
        · show (true && (noObj x && true)) = true
          rw [px.2]; rfl⟩
    · exact ⟨rfl, fun ds e => by cases e⟩
    · exact ⟨rfl, fun ds e => by cases e⟩
    · exact ⟨rfl, fun ds e => by cases e⟩
    · exact ⟨rfl, fun ds e => by cases e⟩
    · exact rep 300 (by omega)
    · exact rep 301 (by omega))
  have mm : ∀ n : Nat, n ≤ 1000 → mulD (.list [.int 0]) (.int (n : Int)) = some (.list (List.replicate n (.int 0))) := fun n hn => by
    rw [mulD_list _ _ (by simp; omega) (by omega)]
    congr 2
    clear hn
    induction n with
    | zero => rfl
    | succ n ih => rw [List.replicate_succ, List.flatten_cons, ih, List.replicate_succ]; rfl
  have m300 := mm 300 (by omega)
  have m301 := mm 301 (by omega)
  have m300 : mulD (.list [.int 0]) (.int 300) = _ := m300
  have m301 : mulD (.list [.int 0]) (.int 301) = _ := m301
  have eC : (PyData.dict [(.str "Code", .none), (.str "table", tbD T3)]) = codeD T3 := rfl
  have eT : (PyData.tuple [.tuple [.str "a", .str "b", .none], .tuple [.none, .str "c", .tuple [.str "to", .int 0]]]) = tbD T3 := rfl
  have s1 : 1 ≤ sizeLine := le_sz (by omega)
  have s2 : 2 ≤ sizeLine := le_sz (by omega)
  have s3 : 3 ≤ sizeLine := le_sz (by omega)
  have s8 : 8 ≤ sizeLine := le_sz (by omega)
  have s9 : 9 ≤ sizeLine := le_sz (by omega)
  refine ⟨[.im (.list (nI ns))], ?_⟩
  show F_law [.im (.list (nI ns))] = _
  generalize List.replicate 300 (PyData.int 0) = R300 at *
  generalize List.replicate 301 (PyData.int 0) = R301 at *
  generalize tbD T = TD at *
  generalize hT3 : tbD T3 = T3D at *
  generalize codeD T3 = C3 at *
  simp [F_law, runF, m_law, e0, e1, e2, e3, s1, s2, s3, s8, s9, lf, eT, ini, eC, e4, m300, m301, lr]
end
theorem all_mk {l : PySem.W.OpenLaw} {w : World} {K : PySem.W.Frag} {h : Heap} {mg : Str → Option Value} {fa f1 f2 f3 f4 f5 f6 f7 f8 f9 f10 f11 f12 f13 f14 f15 f16 f17 f18 f19 f20 f21 f22 f23 f24 f25 f26 f27 f28 e1 e2 e3 e4 e5 e6 e7 e8 e9 e10 e11 e12 e13 e14 j2 o1 : Addr} (X : K.In h) (G : h.Ns mainGlobals mg) (hfa : mg "law" = some (.ref fa))
    {od1 an1 od2 an2 od3 an3 od4 an4 od5 an5 od6 an6 od7 an7 od8 an8 od9 an9 od10 an10 od11 an11 od12 an12 od13 an13 od14 an14 od15 an15 od16 an16 od17 an17 od18 an18 od19 an19 od20 an20 od21 an21 od22 an22 od23 an23 od24 an24 od25 an25 od26 an26 od27 an27 od28 an28 : Option Addr} {sl1 sl2 sl3 sl4 sl5 sl6 sl7 sl8 sl9 sl10 sl11 sl12 sl13 sl14 sl15 sl16 sl17 sl18 sl19 sl20 sl21 sl22 sl23 sl24 sl25 sl26 sl27 sl28 : Array (Option Value)} {oc1 kV1 dc1 pm1 cd1 ct1 oc2 kV2 dc2 pm2 cd2 ct2 oc3 kV3 dc3 pm3 cd3 ct3 oc4 kV4 dc4 pm4 cd4 ct4 oc5 kV5 dc5 pm5 cd5 ct5 oc6 kV6 dc6 pm6 cd6 ct6 oc7 kV7 dc7 pm7 cd7 ct7 oc8 kV8 dc8 pm8 cd8 ct8 oc9 kV9 dc9 pm9 cd9 ct9 oc10 kV10 dc10 pm10 cd10 ct10 oc11 kV11 dc11 pm11 cd11 ct11 oc12 kV12 dc12 pm12 cd12 ct12 oc13 kV13 dc13 pm13 cd13 ct13 oc14 kV14 dc14 pm14 cd14 ct14 oc15 kV15 dc15 pm15 cd15 ct15 oc16 kV16 dc16 pm16 cd16 ct16 oc17 kV17 dc17 pm17 cd17 ct17 oc18 kV18 dc18 pm18 cd18 ct18 oc19 kV19 dc19 pm19 cd19 ct19 oc20 kV20 dc20 pm20 cd20 ct20 oc21 kV21 dc21 pm21 cd21 ct21 oc22 kV22 dc22 pm22 cd22 ct22 oc23 kV23 dc23 pm23 cd23 ct23 oc24 kV24 dc24 pm24 cd24 ct24 oc25 kV25 dc25 pm25 cd25 ct25 oc26 kV26 dc26 pm26 cd26 ct26 oc27 kV27 dc27 pm27 cd27 ct27 oc28 kV28 dc28 pm28 cd28 ct28 : Value}
    {jod2 jan2 : Option Addr} {jsl2 : Array (Option Value)} {joc2 jkV2 jdc2 jpm2 jcd2 jct2 : Value}
    {t0 : Tok}
    (a1 : PySem.W.nsIn K mainGlobals "is_number" = some (some (.ref f1)))
    (l1 : K.lookup f1 = some ⟨oc1, od1, .func (PySem.W.fnOf "is_number" "is_number" (defArgs s_is_number) (defBody s_is_number) (defScope s_is_number) .none kV1 dc1 pm1 an1 cd1 ct1), sl1⟩) (c1 : PySem.W.codeIn K cd1 "is_number" = true) (k1 : PySem.W.keepIn K (.ref f1) = true)
    (a2 : PySem.W.nsIn K mainGlobals "is_signs" = some (some (.ref f2)))
    (l2 : K.lookup f2 = some ⟨oc2, od2, .func (PySem.W.fnOf "is_signs" "is_signs" (defArgs s_is_signs) (defBody s_is_signs) (defScope s_is_signs) .none kV2 dc2 pm2 an2 cd2 ct2), sl2⟩) (c2 : PySem.W.codeIn K cd2 "is_signs" = true) (k2 : PySem.W.keepIn K (.ref f2) = true)
    (a3 : PySem.W.nsIn K mainGlobals "is_meaning" = some (some (.ref f3)))
    (l3 : K.lookup f3 = some ⟨oc3, od3, .func (PySem.W.fnOf "is_meaning" "is_meaning" (defArgs s_is_meaning) (defBody s_is_meaning) (defScope s_is_meaning) .none kV3 dc3 pm3 an3 cd3 ct3), sl3⟩) (c3 : PySem.W.codeIn K cd3 "is_meaning" = true) (k3 : PySem.W.keepIn K (.ref f3) = true)
    (a4 : PySem.W.nsIn K mainGlobals "is_modes" = some (some (.ref f4)))
    (l4 : K.lookup f4 = some ⟨oc4, od4, .func (PySem.W.fnOf "is_modes" "is_modes" (defArgs s_is_modes) (defBody s_is_modes) (defScope s_is_modes) .none kV4 dc4 pm4 an4 cd4 ct4), sl4⟩) (c4 : PySem.W.codeIn K cd4 "is_modes" = true) (k4 : PySem.W.keepIn K (.ref f4) = true)
    (a5 : PySem.W.nsIn K mainGlobals "is_row" = some (some (.ref f5)))
    (l5 : K.lookup f5 = some ⟨oc5, od5, .func (PySem.W.fnOf "is_row" "is_row" (defArgs s_is_row) (defBody s_is_row) (defScope s_is_row) .none kV5 dc5 pm5 an5 cd5 ct5), sl5⟩) (c5 : PySem.W.codeIn K cd5 "is_row" = true) (k5 : PySem.W.keepIn K (.ref f5) = true)
    (l6 : K.lookup f6 = some ⟨oc6, od6, .func (PySem.W.fnOf "__init__" "Code.__init__" (defArgs s_Code_init) (defBody s_Code_init) (defScope s_Code_init) .none kV6 dc6 pm6 an6 cd6 ct6), sl6⟩) (c6 : PySem.W.codeIn K cd6 "Code.__init__" = true) (k6 : PySem.W.keepIn K (.ref f6) = true)
    (l7 : K.lookup f7 = some ⟨oc7, od7, .func (PySem.W.fnOf "__len__" "Code.__len__" (defArgs s_Code_len) (defBody s_Code_len) (defScope s_Code_len) .none kV7 dc7 pm7 an7 cd7 ct7), sl7⟩) (c7 : PySem.W.codeIn K cd7 "Code.__len__" = true) (k7 : PySem.W.keepIn K (.ref f7) = true)
    (l8 : K.lookup f8 = some ⟨oc8, od8, .func (PySem.W.fnOf "__eq__" "Code.__eq__" (defArgs s_Code_eq) (defBody s_Code_eq) (defScope s_Code_eq) .none kV8 dc8 pm8 an8 cd8 ct8), sl8⟩) (c8 : PySem.W.codeIn K cd8 "Code.__eq__" = true) (k8 : PySem.W.keepIn K (.ref f8) = true)
    (l9 : K.lookup f9 = some ⟨oc9, od9, .func (PySem.W.fnOf "__str__" "Code.__str__" (defArgs s_Code_str) (defBody s_Code_str) (defScope s_Code_str) .none kV9 dc9 pm9 an9 cd9 ct9), sl9⟩) (c9 : PySem.W.codeIn K cd9 "Code.__str__" = true) (k9 : PySem.W.keepIn K (.ref f9) = true)
    (l10 : K.lookup f10 = some ⟨oc10, od10, .func (PySem.W.fnOf "modes" "Code.modes" (defArgs s_Code_modes) (defBody s_Code_modes) (defScope s_Code_modes) .none kV10 dc10 pm10 an10 cd10 ct10), sl10⟩) (c10 : PySem.W.codeIn K cd10 "Code.modes" = true) (k10 : PySem.W.keepIn K (.ref f10) = true)
    (a11 : PySem.W.nsIn K mainGlobals "step" = some (some (.ref f11)))
    (l11 : K.lookup f11 = some ⟨oc11, od11, .func (PySem.W.fnOf "step" "step" (defArgs s_step) (defBody s_step) (defScope s_step) .none kV11 dc11 pm11 an11 cd11 ct11), sl11⟩) (c11 : PySem.W.codeIn K cd11 "step" = true) (k11 : PySem.W.keepIn K (.ref f11) = true)
    (a12 : PySem.W.nsIn K mainGlobals "said" = some (some (.ref f12)))
    (l12 : K.lookup f12 = some ⟨oc12, od12, .func (PySem.W.fnOf "said" "said" (defArgs s_said) (defBody s_said) (defScope s_said) .none kV12 dc12 pm12 an12 cd12 ct12), sl12⟩) (c12 : PySem.W.codeIn K cd12 "said" = true) (k12 : PySem.W.keepIn K (.ref f12) = true)
    (l13 : K.lookup f13 = some ⟨oc13, od13, .func (PySem.W.fnOf "says" "Code.says" (defArgs s_Code_says) (defBody s_Code_says) (defScope s_Code_says) .none kV13 dc13 pm13 an13 cd13 ct13), sl13⟩) (c13 : PySem.W.codeIn K cd13 "Code.says" = true) (k13 : PySem.W.keepIn K (.ref f13) = true)
    (a14 : PySem.W.nsIn K mainGlobals "_law_town" = some (some (.ref f14)))
    (l14 : K.lookup f14 = some ⟨oc14, od14, .func (PySem.W.fnOf "_law_town" "_law_town" (defArgs s_law_town) (defBody s_law_town) (defScope s_law_town) .none kV14 dc14 pm14 an14 cd14 ct14), sl14⟩) (c14 : PySem.W.codeIn K cd14 "_law_town" = true) (k14 : PySem.W.keepIn K (.ref f14) = true)
    (a15 : PySem.W.nsIn K mainGlobals "_law_draw" = some (some (.ref f15)))
    (l15 : K.lookup f15 = some ⟨oc15, od15, .func (PySem.W.fnOf "_law_draw" "_law_draw" (defArgs s_law_draw) (defBody s_law_draw) (defScope s_law_draw) .none kV15 dc15 pm15 an15 cd15 ct15), sl15⟩) (c15 : PySem.W.codeIn K cd15 "_law_draw" = true) (k15 : PySem.W.keepIn K (.ref f15) = true)
    (a16 : PySem.W.nsIn K mainGlobals "_law_pick" = some (some (.ref f16)))
    (l16 : K.lookup f16 = some ⟨oc16, od16, .func (PySem.W.fnOf "_law_pick" "_law_pick" (defArgs s_law_pick) (defBody s_law_pick) (defScope s_law_pick) .none kV16 dc16 pm16 an16 cd16 ct16), sl16⟩) (c16 : PySem.W.codeIn K cd16 "_law_pick" = true) (k16 : PySem.W.keepIn K (.ref f16) = true)
    (a17 : PySem.W.nsIn K mainGlobals "_law_whole" = some (some (.ref f17)))
    (l17 : K.lookup f17 = some ⟨oc17, od17, .func (PySem.W.fnOf "_law_whole" "_law_whole" (defArgs s_law_whole) (defBody s_law_whole) (defScope s_law_whole) .none kV17 dc17 pm17 an17 cd17 ct17), sl17⟩) (c17 : PySem.W.codeIn K cd17 "_law_whole" = true) (k17 : PySem.W.keepIn K (.ref f17) = true)
    (a18 : PySem.W.nsIn K mainGlobals "_law_wholes" = some (some (.ref f18)))
    (l18 : K.lookup f18 = some ⟨oc18, od18, .func (PySem.W.fnOf "_law_wholes" "_law_wholes" (defArgs s_law_wholes) (defBody s_law_wholes) (defScope s_law_wholes) .none kV18 dc18 pm18 an18 cd18 ct18), sl18⟩) (c18 : PySem.W.codeIn K cd18 "_law_wholes" = true) (k18 : PySem.W.keepIn K (.ref f18) = true)
    (a19 : PySem.W.nsIn K mainGlobals "_law_word" = some (some (.ref f19)))
    (l19 : K.lookup f19 = some ⟨oc19, od19, .func (PySem.W.fnOf "_law_word" "_law_word" (defArgs s_law_word) (defBody s_law_word) (defScope s_law_word) .none kV19 dc19 pm19 an19 cd19 ct19), sl19⟩) (c19 : PySem.W.codeIn K cd19 "_law_word" = true) (k19 : PySem.W.keepIn K (.ref f19) = true)
    (a20 : PySem.W.nsIn K mainGlobals "_law_refused" = some (some (.ref f20)))
    (l20 : K.lookup f20 = some ⟨oc20, od20, .func (PySem.W.fnOf "_law_refused" "_law_refused" (defArgs s_law_refused) (defBody s_law_refused) (defScope s_law_refused) .none kV20 dc20 pm20 an20 cd20 ct20), sl20⟩) (c20 : PySem.W.codeIn K cd20 "_law_refused" = true) (k20 : PySem.W.keepIn K (.ref f20) = true)
    (a21 : PySem.W.nsIn K mainGlobals "_law_meaning" = some (some (.ref f21)))
    (l21 : K.lookup f21 = some ⟨oc21, od21, .func (PySem.W.fnOf "_law_meaning" "_law_meaning" (defArgs s_law_meaning) (defBody s_law_meaning) (defScope s_law_meaning) .none kV21 dc21 pm21 an21 cd21 ct21), sl21⟩) (c21 : PySem.W.codeIn K cd21 "_law_meaning" = true) (k21 : PySem.W.keepIn K (.ref f21) = true)
    (a22 : PySem.W.nsIn K mainGlobals "_law_modes" = some (some (.ref f22)))
    (l22 : K.lookup f22 = some ⟨oc22, od22, .func (PySem.W.fnOf "_law_modes" "_law_modes" (defArgs s_law_modes) (defBody s_law_modes) (defScope s_law_modes) .none kV22 dc22 pm22 an22 cd22 ct22), sl22⟩) (c22 : PySem.W.codeIn K cd22 "_law_modes" = true) (k22 : PySem.W.keepIn K (.ref f22) = true)
    (a23 : PySem.W.nsIn K mainGlobals "_law_one" = some (some (.ref f23)))
    (l23 : K.lookup f23 = some ⟨oc23, od23, .func (PySem.W.fnOf "_law_one" "_law_one" (defArgs s_law_one) (defBody s_law_one) (defScope s_law_one) .none kV23 dc23 pm23 an23 cd23 ct23), sl23⟩) (c23 : PySem.W.codeIn K cd23 "_law_one" = true) (k23 : PySem.W.keepIn K (.ref f23) = true)
    (a24 : PySem.W.nsIn K mainGlobals "_law_told" = some (some (.ref f24)))
    (l24 : K.lookup f24 = some ⟨oc24, od24, .func (PySem.W.fnOf "_law_told" "_law_told" (defArgs s_law_told) (defBody s_law_told) (defScope s_law_told) .none kV24 dc24 pm24 an24 cd24 ct24), sl24⟩) (c24 : PySem.W.codeIn K cd24 "_law_told" = true) (k24 : PySem.W.keepIn K (.ref f24) = true)
    (a25 : PySem.W.nsIn K mainGlobals "_law_meaning_good" = some (some (.ref f25)))
    (l25 : K.lookup f25 = some ⟨oc25, od25, .func (PySem.W.fnOf "_law_meaning_good" "_law_meaning_good" (defArgs s_law_meaning_good) (defBody s_law_meaning_good) (defScope s_law_meaning_good) .none kV25 dc25 pm25 an25 cd25 ct25), sl25⟩) (c25 : PySem.W.codeIn K cd25 "_law_meaning_good" = true) (k25 : PySem.W.keepIn K (.ref f25) = true)
    (a26 : PySem.W.nsIn K mainGlobals "_law_good" = some (some (.ref f26)))
    (l26 : K.lookup f26 = some ⟨oc26, od26, .func (PySem.W.fnOf "_law_good" "_law_good" (defArgs s_law_good) (defBody s_law_good) (defScope s_law_good) .none kV26 dc26 pm26 an26 cd26 ct26), sl26⟩) (c26 : PySem.W.codeIn K cd26 "_law_good" = true) (k26 : PySem.W.keepIn K (.ref f26) = true)
    (a27 : PySem.W.nsIn K mainGlobals "_law_spoilt" = some (some (.ref f27)))
    (l27 : K.lookup f27 = some ⟨oc27, od27, .func (PySem.W.fnOf "_law_spoilt" "_law_spoilt" (defArgs s_law_spoilt) (defBody s_law_spoilt) (defScope s_law_spoilt) .none kV27 dc27 pm27 an27 cd27 ct27), sl27⟩) (c27 : PySem.W.codeIn K cd27 "_law_spoilt" = true) (k27 : PySem.W.keepIn K (.ref f27) = true)
    (a28 : PySem.W.nsIn K mainGlobals "law" = some (some (.ref f28)))
    (l28 : K.lookup f28 = some ⟨oc28, od28, .func (PySem.W.fnOf "law" "law" (defArgs s_law) (defBody s_law) (defScope s_law) .none kV28 dc28 pm28 an28 cd28 ct28), sl28⟩) (c28 : PySem.W.codeIn K cd28 "law" = true) (k28 : PySem.W.keepIn K (.ref f28) = true)
    (n0 : PySem.W.nsIn K mainGlobals "MOST_ROW" = some (some (.int 300 t0)))
    (z0 : PySem.W.nsIn K mainGlobals "isinstance" = some none)
    (z1 : PySem.W.nsIn K mainGlobals "int" = some none)
    (z2 : PySem.W.nsIn K mainGlobals "bool" = some none)
    (z3 : PySem.W.nsIn K mainGlobals "str" = some none)
    (z4 : PySem.W.nsIn K mainGlobals "len" = some none)
    (z5 : PySem.W.nsIn K mainGlobals "all" = some none)
    (z6 : PySem.W.nsIn K mainGlobals "tuple" = some none)
    (z7 : PySem.W.nsIn K mainGlobals "list" = some none)
    (z8 : PySem.W.nsIn K mainGlobals "enumerate" = some none)
    (z9 : PySem.W.nsIn K mainGlobals "range" = some none)
    (z10 : PySem.W.nsIn K mainGlobals "ArithmeticError" = some none)
    (cca1 : PySem.W.nsIn K mainGlobals "BadCode" = some (some (.ref e1)))
    (cch1 : PySem.W.hasDictIn K e1 = true)
    (cct1 : PySem.W.typeIn K (.ref e1) = some (.type "type"))
    (ccs1 : PySem.W.subIn K (.ref e1) (.ref e1) = some true)
    (ccb1 : PySem.W.subIn K (.ref e1) (.type "BaseException") = some true)
    (ccx1 : PySem.W.excIn K e1 [.type "ArithmeticError", .type "Exception", .type "BaseException", .type "object"] "ArithmeticError.__new__" = true)
    (cck1 : PySem.W.keepIn K (.ref e1) = true)
    (cca2 : PySem.W.nsIn K mainGlobals "NoMeaning" = some (some (.ref e2)))
    (cch2 : PySem.W.hasDictIn K e2 = true)
    (cct2 : PySem.W.typeIn K (.ref e2) = some (.type "type"))
    (ccs2 : PySem.W.subIn K (.ref e2) (.ref e2) = some true)
    (ccb2 : PySem.W.subIn K (.ref e2) (.type "BaseException") = some true)
    (cca3 : PySem.W.nsIn K mainGlobals "BadRow" = some (some (.ref e3)))
    (cch3 : PySem.W.hasDictIn K e3 = true)
    (cct3 : PySem.W.typeIn K (.ref e3) = some (.type "type"))
    (ccs3 : PySem.W.subIn K (.ref e3) (.ref e3) = some true)
    (ccb3 : PySem.W.subIn K (.ref e3) (.type "BaseException") = some true)
    (ccx3 : PySem.W.excIn K e3 [.type "ArithmeticError", .type "Exception", .type "BaseException", .type "object"] "ArithmeticError.__new__" = true)
    (cck3 : PySem.W.keepIn K (.ref e3) = true)
    (cca4 : PySem.W.nsIn K mainGlobals "Unlike" = some (some (.ref e4)))
    (cch4 : PySem.W.hasDictIn K e4 = true)
    (cct4 : PySem.W.typeIn K (.ref e4) = some (.type "type"))
    (ccs4 : PySem.W.subIn K (.ref e4) (.ref e4) = some true)
    (ccb4 : PySem.W.subIn K (.ref e4) (.type "BaseException") = some true)
    (cca5 : PySem.W.nsIn K mainGlobals "BadNumber" = some (some (.ref e5)))
    (cch5 : PySem.W.hasDictIn K e5 = true)
    (cct5 : PySem.W.typeIn K (.ref e5) = some (.type "type"))
    (ccs5 : PySem.W.subIn K (.ref e5) (.ref e5) = some true)
    (ccb5 : PySem.W.subIn K (.ref e5) (.type "BaseException") = some true)
    (cca6 : PySem.W.nsIn K mainGlobals "BadText" = some (some (.ref e6)))
    (cch6 : PySem.W.hasDictIn K e6 = true)
    (cct6 : PySem.W.typeIn K (.ref e6) = some (.type "type"))
    (ccs6 : PySem.W.subIn K (.ref e6) (.ref e6) = some true)
    (ccb6 : PySem.W.subIn K (.ref e6) (.type "BaseException") = some true)
    (cca7 : PySem.W.nsIn K mainGlobals "BadWidths" = some (some (.ref e7)))
    (cch7 : PySem.W.hasDictIn K e7 = true)
    (cct7 : PySem.W.typeIn K (.ref e7) = some (.type "type"))
    (ccs7 : PySem.W.subIn K (.ref e7) (.ref e7) = some true)
    (ccb7 : PySem.W.subIn K (.ref e7) (.type "BaseException") = some true)
    (cca8 : PySem.W.nsIn K mainGlobals "BadPatterns" = some (some (.ref e8)))
    (cch8 : PySem.W.hasDictIn K e8 = true)
    (cct8 : PySem.W.typeIn K (.ref e8) = some (.type "type"))
    (ccs8 : PySem.W.subIn K (.ref e8) (.ref e8) = some true)
    (ccb8 : PySem.W.subIn K (.ref e8) (.type "BaseException") = some true)
    (cca9 : PySem.W.nsIn K mainGlobals "BadBase" = some (some (.ref e9)))
    (cch9 : PySem.W.hasDictIn K e9 = true)
    (cct9 : PySem.W.typeIn K (.ref e9) = some (.type "type"))
    (ccs9 : PySem.W.subIn K (.ref e9) (.ref e9) = some true)
    (ccb9 : PySem.W.subIn K (.ref e9) (.type "BaseException") = some true)
    (cca10 : PySem.W.nsIn K mainGlobals "NoRow" = some (some (.ref e10)))
    (cch10 : PySem.W.hasDictIn K e10 = true)
    (cct10 : PySem.W.typeIn K (.ref e10) = some (.type "type"))
    (ccs10 : PySem.W.subIn K (.ref e10) (.ref e10) = some true)
    (ccb10 : PySem.W.subIn K (.ref e10) (.type "BaseException") = some true)
    (cca11 : PySem.W.nsIn K mainGlobals "TurnedAbout" = some (some (.ref e11)))
    (cch11 : PySem.W.hasDictIn K e11 = true)
    (cct11 : PySem.W.typeIn K (.ref e11) = some (.type "type"))
    (ccs11 : PySem.W.subIn K (.ref e11) (.ref e11) = some true)
    (ccb11 : PySem.W.subIn K (.ref e11) (.type "BaseException") = some true)
    (cca12 : PySem.W.nsIn K mainGlobals "Twofold" = some (some (.ref e12)))
    (cch12 : PySem.W.hasDictIn K e12 = true)
    (cct12 : PySem.W.typeIn K (.ref e12) = some (.type "type"))
    (ccs12 : PySem.W.subIn K (.ref e12) (.ref e12) = some true)
    (ccb12 : PySem.W.subIn K (.ref e12) (.type "BaseException") = some true)
    (cca13 : PySem.W.nsIn K mainGlobals "NoReading" = some (some (.ref e13)))
    (cch13 : PySem.W.hasDictIn K e13 = true)
    (cct13 : PySem.W.typeIn K (.ref e13) = some (.type "type"))
    (ccs13 : PySem.W.subIn K (.ref e13) (.ref e13) = some true)
    (ccb13 : PySem.W.subIn K (.ref e13) (.type "BaseException") = some true)
    (cca14 : PySem.W.nsIn K mainGlobals "BarError" = some (some (.ref e14)))
    (cch14 : PySem.W.hasDictIn K e14 = true)
    (cct14 : PySem.W.typeIn K (.ref e14) = some (.type "type"))
    (ccs14 : PySem.W.subIn K (.ref e14) (.ref e14) = some true)
    (ccb14 : PySem.W.subIn K (.ref e14) (.type "BaseException") = some true)
    (cck2 : PySem.W.keepIn K (.ref e2) = true)
    (cci2 : PySem.W.excInitIn K e2 [.type "ArithmeticError", .type "Exception", .type "BaseException", .type "object"] "ArithmeticError.__new__" = true)
    (ccv2 : PySem.W.findIn K (.ref e2) "__setattr__" = some (some (.builtin "object.__setattr__")))
    (ccw2 : PySem.W.findIn K (.ref e2) "at" = some none)
    (ccf2 : PySem.W.findIn K (.ref e2) "__getattribute__" = some (some (.builtin "BaseException.__getattribute__")))
    (ccz2 : PySem.W.findIn K (.ref e2) "__getattr__" = some none)
    (ii2 : PySem.W.findIn K (.ref e2) "__init__" = some (some (.ref j2)))
    (it2 : PySem.W.typeIn K (.ref j2) = some (.type "function"))
    (il2 : K.lookup j2 = some ⟨joc2, jod2, .func (PySem.W.fnOf "__init__" "NoMeaning.__init__" (defArgs s_ini_NoMeaning) (defBody s_ini_NoMeaning) (defScope s_ini_NoMeaning) .none jkV2 jdc2 jpm2 jan2 jcd2 jct2), jsl2⟩)
    (ic2 : PySem.W.codeIn K jcd2 "NoMeaning.__init__" = true)
    (ik2 : PySem.W.keepIn K (.ref j2) = true)
    (oa1 : PySem.W.nsIn K mainGlobals "Code" = some (some (.ref o1)))
    (op1 : PySem.W.plainGet K o1 Str.empty = true)
    (oh1 : PySem.W.hasDictIn K o1 = true)
    (ov1 : PySem.W.plainOver K o1 = true)
    (os1 : PySem.W.findIn K (.ref o1) "__setattr__" = some (some (.builtin "object.__setattr__")))
    (om1 : PySem.W.makesIn K o1 = true)
    (ok1 : PySem.W.keepIn K (.ref o1) = true)
    (eqa1 : PySem.W.notFirst K o1 (.type "tuple") = true)
    (eqb1 : PySem.W.mroIn K o1 (.type "tuple") = some false)
    (eqc1 : PySem.W.mroIn K o1 (.type "object") = some true)
    (eqd1 : PySem.W.findIn K (.ref o1) "__ne__" = some (some (.builtin "object.__ne__")))
    (iza1 : PySem.W.findIn K (.ref o1) "__class__" = some (some (.builtin "object.__class__")))
    (izb1 : PySem.W.specialIn K (.builtin "object.__class__") "__get__" = some (some (.builtin "getset_descriptor.__get__")))
    (izc1 : PySem.W.takesIn K (.builtin "object.__class__") = some true)
    (izd1 : PySem.W.mroIn K o1 (.type "object") = some true)
    (ize1 : PySem.W.typeIn K (.ref o1) = some (.type "type"))
    (izf1 : PySem.W.subIn K (.type "tuple") (.ref o1) = some false)
    (on1_table : PySem.W.findIn K (.ref o1) "table" = some none)
    (ma6 : PySem.W.findIn K (.ref o1) "__init__" = some (some (.ref f6)))
    (mf6 : PySem.W.isFn K (.ref f6) = true)
    (ma7 : PySem.W.findIn K (.ref o1) "__len__" = some (some (.ref f7)))
    (mf7 : PySem.W.isFn K (.ref f7) = true)
    (ma8 : PySem.W.findIn K (.ref o1) "__eq__" = some (some (.ref f8)))
    (mf8 : PySem.W.isFn K (.ref f8) = true)
    (ma9 : PySem.W.findIn K (.ref o1) "__str__" = some (some (.ref f9)))
    (mf9 : PySem.W.isFn K (.ref f9) = true)
    (ma10 : PySem.W.findIn K (.ref o1) "modes" = some (some (.ref f10)))
    (mf10 : PySem.W.isFn K (.ref f10) = true)
    (ma13 : PySem.W.findIn K (.ref o1) "says" = some (some (.ref f13)))
    (mf13 : PySem.W.isFn K (.ref f13) = true)
    (ccn : PySem.W.specialIn K (.builtin "object.__class__") "__get__" = some (some (.builtin "getset_descriptor.__get__")))
    (ccg : PySem.W.takesIn K (.builtin "object.__class__") = some true)
    (xg1 : PySem.W.findIn K (.ref e1) "__getattribute__" = some (some (.builtin "BaseException.__getattribute__")))
    (xk1 : PySem.W.findIn K (.ref e1) "__getattr__" = some none)
    (xa1 : PySem.W.findIn K (.ref e1) "__class__" = some (some (.builtin "object.__class__")))
    (xm1 : PySem.W.mroIn K e1 (.type "object") = some true)
    (xr1 : PySem.W.subIn K (.ref e1) (.type "ArithmeticError") = some true)
    (xg3 : PySem.W.findIn K (.ref e3) "__getattribute__" = some (some (.builtin "BaseException.__getattribute__")))
    (xk3 : PySem.W.findIn K (.ref e3) "__getattr__" = some none)
    (xa3 : PySem.W.findIn K (.ref e3) "__class__" = some (some (.builtin "object.__class__")))
    (xm3 : PySem.W.mroIn K e3 (.type "object") = some true)
    (xr3 : PySem.W.subIn K (.ref e3) (.type "ArithmeticError") = some true)
    (xg2 : PySem.W.findIn K (.ref e2) "__getattribute__" = some (some (.builtin "BaseException.__getattribute__")))
    (xk2 : PySem.W.findIn K (.ref e2) "__getattr__" = some none)
    (xa2 : PySem.W.findIn K (.ref e2) "__class__" = some (some (.builtin "object.__class__")))
    (xm2 : PySem.W.mroIn K e2 (.type "object") = some true)
    (xr2 : PySem.W.subIn K (.ref e2) (.type "ArithmeticError") = some true)
    (p1_2 : PySem.W.subIn K (.ref e1) (.ref e2) = some false)
    (p3_2 : PySem.W.subIn K (.ref e3) (.ref e2) = some false)
    (p2_2 : PySem.W.subIn K (.ref e2) (.ref e2) = some true)
    (p1_3 : PySem.W.subIn K (.ref e1) (.ref e3) = some false)
    (p3_3 : PySem.W.subIn K (.ref e3) (.ref e3) = some true)
    (p2_3 : PySem.W.subIn K (.ref e2) (.ref e3) = some false)
    (p1_1 : PySem.W.subIn K (.ref e1) (.ref e1) = some true)
    (p3_1 : PySem.W.subIn K (.ref e3) (.ref e1) = some false)
    (p2_1 : PySem.W.subIn K (.ref e2) (.ref e1) = some false)
    (p1_4 : PySem.W.subIn K (.ref e1) (.ref e4) = some false)
    (p3_4 : PySem.W.subIn K (.ref e3) (.ref e4) = some false)
    (p2_4 : PySem.W.subIn K (.ref e2) (.ref e4) = some false)
    (p1_5 : PySem.W.subIn K (.ref e1) (.ref e5) = some false)
    (p3_5 : PySem.W.subIn K (.ref e3) (.ref e5) = some false)
    (p2_5 : PySem.W.subIn K (.ref e2) (.ref e5) = some false)
    (p1_6 : PySem.W.subIn K (.ref e1) (.ref e6) = some false)
    (p3_6 : PySem.W.subIn K (.ref e3) (.ref e6) = some false)
    (p2_6 : PySem.W.subIn K (.ref e2) (.ref e6) = some false)
    (p1_7 : PySem.W.subIn K (.ref e1) (.ref e7) = some false)
    (p3_7 : PySem.W.subIn K (.ref e3) (.ref e7) = some false)
    (p2_7 : PySem.W.subIn K (.ref e2) (.ref e7) = some false)
    (p1_8 : PySem.W.subIn K (.ref e1) (.ref e8) = some false)
    (p3_8 : PySem.W.subIn K (.ref e3) (.ref e8) = some false)
    (p2_8 : PySem.W.subIn K (.ref e2) (.ref e8) = some false)
    (p1_9 : PySem.W.subIn K (.ref e1) (.ref e9) = some false)
    (p3_9 : PySem.W.subIn K (.ref e3) (.ref e9) = some false)
    (p2_9 : PySem.W.subIn K (.ref e2) (.ref e9) = some false)
    (p1_10 : PySem.W.subIn K (.ref e1) (.ref e10) = some false)
    (p3_10 : PySem.W.subIn K (.ref e3) (.ref e10) = some false)
    (p2_10 : PySem.W.subIn K (.ref e2) (.ref e10) = some false)
    (p1_11 : PySem.W.subIn K (.ref e1) (.ref e11) = some false)
    (p3_11 : PySem.W.subIn K (.ref e3) (.ref e11) = some false)
    (p2_11 : PySem.W.subIn K (.ref e2) (.ref e11) = some false)
    (p1_12 : PySem.W.subIn K (.ref e1) (.ref e12) = some false)
    (p3_12 : PySem.W.subIn K (.ref e3) (.ref e12) = some false)
    (p2_12 : PySem.W.subIn K (.ref e2) (.ref e12) = some false)
    (p1_13 : PySem.W.subIn K (.ref e1) (.ref e13) = some false)
    (p3_13 : PySem.W.subIn K (.ref e3) (.ref e13) = some false)
    (p2_13 : PySem.W.subIn K (.ref e2) (.ref e13) = some false)
    (p1_14 : PySem.W.subIn K (.ref e1) (.ref e14) = some true)
    (p3_14 : PySem.W.subIn K (.ref e3) (.ref e14) = some true)
    (p2_14 : PySem.W.subIn K (.ref e2) (.ref e14) = some true)
    (ht : ∀ ns : List Int, ns.length ≤ 63 → ∃ r, F_law [.im (.list (ns.map .int))] = .ok (.bool true) r) :
    ∃ fd : FuncData, (∀ (s : Shared) (v : Value), BindsTo s fd ⟨[v], []⟩ [("script", v)]) ∧ ∀ base : Heap, K.In base → base.Ns mainGlobals mg → FnOk l.prog w K mg base CX0 8 fa fd ["script"] (spL K) := by
  have e := hfa.symm.trans (PySem.W.mg_of X G a28)
  cases e
  have y0 := PySem.W.mg_none_of X G z0
  have y1 := PySem.W.mg_none_of X G z1
  have y2 := PySem.W.mg_none_of X G z2
  have y3 := PySem.W.mg_none_of X G z3
  have y4 := PySem.W.mg_none_of X G z4
  have y5 := PySem.W.mg_none_of X G z5
  have y6 := PySem.W.mg_none_of X G z6
  have y7 := PySem.W.mg_none_of X G z7
  have y8 := PySem.W.mg_none_of X G z8
  have y9 := PySem.W.mg_none_of X G z9
  have y10 := PySem.W.mg_none_of X G z10
  have g1 := PySem.W.mg_of X G cca1
  have B1 : ClsB K e1 := ⟨cch1, cct1, ccs1, ccb1⟩
  have g2 := PySem.W.mg_of X G cca2
  have B2 : ClsB K e2 := ⟨cch2, cct2, ccs2, ccb2⟩
  have g3 := PySem.W.mg_of X G cca3
  have B3 : ClsB K e3 := ⟨cch3, cct3, ccs3, ccb3⟩
  have g4 := PySem.W.mg_of X G cca4
  have B4 : ClsB K e4 := ⟨cch4, cct4, ccs4, ccb4⟩
  have g5 := PySem.W.mg_of X G cca5
  have B5 : ClsB K e5 := ⟨cch5, cct5, ccs5, ccb5⟩
  have g6 := PySem.W.mg_of X G cca6
  have B6 : ClsB K e6 := ⟨cch6, cct6, ccs6, ccb6⟩
  have g7 := PySem.W.mg_of X G cca7
  have B7 : ClsB K e7 := ⟨cch7, cct7, ccs7, ccb7⟩
  have g8 := PySem.W.mg_of X G cca8
  have B8 : ClsB K e8 := ⟨cch8, cct8, ccs8, ccb8⟩
  have g9 := PySem.W.mg_of X G cca9
  have B9 : ClsB K e9 := ⟨cch9, cct9, ccs9, ccb9⟩
  have g10 := PySem.W.mg_of X G cca10
  have B10 : ClsB K e10 := ⟨cch10, cct10, ccs10, ccb10⟩
  have g11 := PySem.W.mg_of X G cca11
  have B11 : ClsB K e11 := ⟨cch11, cct11, ccs11, ccb11⟩
  have g12 := PySem.W.mg_of X G cca12
  have B12 : ClsB K e12 := ⟨cch12, cct12, ccs12, ccb12⟩
  have g13 := PySem.W.mg_of X G cca13
  have B13 : ClsB K e13 := ⟨cch13, cct13, ccs13, ccb13⟩
  have g14 := PySem.W.mg_of X G cca14
  have B14 : ClsB K e14 := ⟨cch14, cct14, ccs14, ccb14⟩
  have O2 : OexA K e2 := oex_mk cci2 cch2 ccv2 ccb2 cct2 cck2
  have V2 : XfC K e2 := ⟨ccf2, ccz2, ccb2, cch2⟩
  have J2 := fun_mk (st := s_ini_NoMeaning) il2 ic2 ik2
  have jb2 := J2.binds (ps := ["self", "at"]) fun _ _ _ _ _ _ us hl => match us, hl with | [_, _], _ => rfl
  have og1 := PySem.W.mg_of X G oa1
  have oC1 : Cls K o1 := ⟨op1, oh1, ov1, os1⟩
  have E1 : ExcC K e1 := ⟨xg1, xk1, ccb1, cch1, xa1, ccn, ccg, xm1⟩
  have E3 : ExcC K e3 := ⟨xg3, xk3, ccb3, cch3, xa3, ccn, ccg, xm3⟩
  have E2 : ExcC K e2 := ⟨xg2, xk2, ccb2, cch2, xa2, ccn, ccg, xm2⟩
  have F1 := fun_mk (st := s_is_number) l1 c1 k1
  have b1 := F1.binds (ps := ["thing", "least", "most"]) fun _ _ _ _ _ _ us hl => match us, hl with | [_, _, _], _ => rfl
  have F2 := fun_mk (st := s_is_signs) l2 c2 k2
  have b2 := F2.binds (ps := ["thing", "least", "most"]) fun _ _ _ _ _ _ us hl => match us, hl with | [_, _, _], _ => rfl
  have F3 := fun_mk (st := s_is_meaning) l3 c3 k3
  have b3 := F3.binds (ps := ["thing", "modes"]) fun _ _ _ _ _ _ us hl => match us, hl with | [_, _], _ => rfl
  have F4 := fun_mk (st := s_is_modes) l4 c4 k4
  have b4 := F4.binds (ps := ["thing"]) fun _ _ _ _ _ _ us hl => match us, hl with | [_], _ => rfl
  have F5 := fun_mk (st := s_is_row) l5 c5 k5
  have b5 := F5.binds (ps := ["thing", "many"]) fun _ _ _ _ _ _ us hl => match us, hl with | [_, _], _ => rfl
  have F6 := fun_mk (st := s_Code_init) l6 c6 k6
  have b6 := F6.binds (ps := ["self", "modes"]) fun _ _ _ _ _ _ us hl => match us, hl with | [_, _], _ => rfl
  have F7 := fun_mk (st := s_Code_len) l7 c7 k7
  have b7 := F7.binds (ps := ["self"]) fun _ _ _ _ _ _ us hl => match us, hl with | [_], _ => rfl
  have F8 := fun_mk (st := s_Code_eq) l8 c8 k8
  have b8 := F8.binds (ps := ["self", "other"]) fun _ _ _ _ _ _ us hl => match us, hl with | [_, _], _ => rfl
  have F9 := fun_mk (st := s_Code_str) l9 c9 k9
  have b9 := F9.binds (ps := ["self"]) fun _ _ _ _ _ _ us hl => match us, hl with | [_], _ => rfl
  have F10 := fun_mk (st := s_Code_modes) l10 c10 k10
  have b10 := F10.binds (ps := ["self"]) fun _ _ _ _ _ _ us hl => match us, hl with | [_], _ => rfl
  have F11 := fun_mk (st := s_step) l11 c11 k11
  have b11 := F11.binds (ps := ["code", "state", "symbol"]) fun _ _ _ _ _ _ us hl => match us, hl with | [_, _, _], _ => rfl
  have F12 := fun_mk (st := s_said) l12 c12 k12
  have b12 := F12.binds (ps := ["code", "row"]) fun _ _ _ _ _ _ us hl => match us, hl with | [_, _], _ => rfl
  have F13 := fun_mk (st := s_Code_says) l13 c13 k13
  have b13 := F13.binds (ps := ["self", "row"]) fun _ _ _ _ _ _ us hl => match us, hl with | [_, _], _ => rfl
  have F14 := fun_mk (st := s_law_town) l14 c14 k14
  have b14 := F14.binds (ps := ["script"]) fun _ _ _ _ _ _ us hl => match us, hl with | [_], _ => rfl
  have F15 := fun_mk (st := s_law_draw) l15 c15 k15
  have b15 := F15.binds (ps := ["script", "town", "many"]) fun _ _ _ _ _ _ us hl => match us, hl with | [_, _, _], _ => rfl
  have F16 := fun_mk (st := s_law_pick) l16 c16 k16
  have b16 := F16.binds (ps := ["script", "town", "some"]) fun _ _ _ _ _ _ us hl => match us, hl with | [_, _, _], _ => rfl
  have F17 := fun_mk (st := s_law_whole) l17 c17 k17
  have b17 := F17.binds (ps := ["thing"]) fun _ _ _ _ _ _ us hl => match us, hl with | [_], _ => rfl
  have F18 := fun_mk (st := s_law_wholes) l18 c18 k18
  have b18 := F18.binds (ps := ["thing"]) fun _ _ _ _ _ _ us hl => match us, hl with | [_], _ => rfl
  have F19 := fun_mk (st := s_law_word) l19 c19 k19
  have b19 := F19.binds (ps := ["caught"]) fun _ _ _ _ _ _ us hl => match us, hl with | [_], _ => rfl
  have F20 := fun_mk (st := s_law_refused) l20 c20 k20
  have b20 := F20.binds (ps := ["word"]) fun _ _ _ _ _ _ us hl => match us, hl with | [_], _ => rfl
  have F21 := fun_mk (st := s_law_meaning) l21 c21 k21
  have b21 := F21.binds (ps := ["script", "town", "many", "signs"]) fun _ _ _ _ _ _ us hl => match us, hl with | [_, _, _, _], _ => rfl
  have F22 := fun_mk (st := s_law_modes) l22 c22 k22
  have b22 := F22.binds (ps := ["script", "town", "most_modes", "most_signs"]) fun _ _ _ _ _ _ us hl => match us, hl with | [_, _, _, _], _ => rfl
  have F23 := fun_mk (st := s_law_one) l23 c23 k23
  have b23 := F23.binds (ps := ["way", "some"]) fun _ _ _ _ _ _ us hl => match us, hl with | [_, _], _ => rfl
  have F24 := fun_mk (st := s_law_told) l24 c24 k24
  have b24 := F24.binds (ps := ["way", "some"]) fun _ _ _ _ _ _ us hl => match us, hl with | [_, _], _ => rfl
  have F25 := fun_mk (st := s_law_meaning_good) l25 c25 k25
  have b25 := F25.binds (ps := ["thing", "many"]) fun _ _ _ _ _ _ us hl => match us, hl with | [_, _], _ => rfl
  have F26 := fun_mk (st := s_law_good) l26 c26 k26
  have b26 := F26.binds (ps := ["thing"]) fun _ _ _ _ _ _ us hl => match us, hl with | [_], _ => rfl
  have F27 := fun_mk (st := s_law_spoilt) l27 c27 k27
  have b27 := F27.binds (ps := ["script", "town", "modes"]) fun _ _ _ _ _ _ us hl => match us, hl with | [_, _, _], _ => rfl
  have F28 := fun_mk (st := s_law) l28 c28 k28
  have b28 := F28.binds (ps := ["script"]) fun _ _ _ _ _ _ us hl => match us, hl with | [_], _ => rfl
  refine ⟨PySem.W.fnOf "law" "law" (defArgs s_law) (defBody s_law) (defScope s_law) .none kV28 dc28 pm28 an28 cd28 ct28, fun s v => .of_eq rfl, fun base _ _ => ?_⟩
  have H1 : Has ⟨l.prog, w, K, mg, base, []⟩ "is_number" 1 F_is_number := has_mk (n := n_is_number) F1 (PySem.W.mg_of X G a1) b1 sc_is_number (by decide) ck_is_number (fun x hx => by
    simp only [n_is_number, List.mem_cons, List.not_mem_nil, or_false] at hx
    rcases hx with rfl | rfl | rfl
    · exact y0
    · exact y1
    · exact y2) trivial d_is_number
  have H2 : Has ⟨l.prog, w, K, mg, base, []⟩ "is_signs" 1 F_is_signs := has_mk (n := n_is_signs) F2 (PySem.W.mg_of X G a2) b2 sc_is_signs (by decide) ck_is_signs (fun x hx => by
    simp only [n_is_signs, List.mem_cons, List.not_mem_nil, or_false] at hx
    rcases hx with rfl | rfl | rfl | rfl
    · exact y0
    · exact y3
    · exact y4
    · exact y5) trivial d_is_signs
  have H3 : Has ⟨l.prog, w, K, mg, base, []⟩ "is_meaning" 2 F_is_meaning := has_mk (n := n_is_meaning) F3 (PySem.W.mg_of X G a3) b3 sc_is_meaning (by decide) ck_is_meaning (fun x hx => by
    simp only [n_is_meaning, List.mem_cons, List.not_mem_nil, or_false] at hx
    rcases hx with rfl | rfl | rfl | rfl
    · exact y0
    · exact y6
    · exact y4
    · exact y3) ⟨H1, H2⟩ d_is_meaning
  have H4 : Has ⟨l.prog, w, K, mg, base, []⟩ "is_modes" 3 F_is_modes := has_mk (n := n_is_modes) F4 (PySem.W.mg_of X G a4) b4 sc_is_modes (by decide) ck_is_modes (fun x hx => by
    simp only [n_is_modes, List.mem_cons, List.not_mem_nil, or_false] at hx
    rcases hx with rfl | rfl | rfl | rfl
    · exact y0
    · exact y6
    · exact y4
    · exact y5) (H3) d_is_modes
  have H5 : Has ⟨l.prog, w, K, mg, base, []⟩ "is_row" 2 F_is_row := has_mk (n := n_is_row) F5 (PySem.W.mg_of X G a5) b5 sc_is_row (by decide) ck_is_row (fun x hx => by
    simp only [n_is_row, List.mem_cons, List.not_mem_nil, or_false] at hx
    rcases hx with rfl | rfl | rfl | rfl
    · exact y0
    · exact y7
    · exact y4
    · exact y5) ⟨mg_const (PySem.W.mg_of X G n0), H1⟩ d_is_row
  have H6 : HasI ⟨l.prog, w, K, mg, base, []⟩ "Code" 4 F_Code_init := hasI_mkX (n := n_Code_init) og1 ⟨om1, ma6, mf6, ok1⟩ F6 b6 sc_Code_init (by decide) ck_Code_init (fun x hx => by cases hx) ⟨H4, xcls_mk g1 ccx1 cck1 B1, ocls_mk og1 oC1 (all_cons on1_table all_nil)⟩ d_Code_init
  have H7 : HasM ⟨l.prog, w, K, mg, base, []⟩ "Code" "__len__" 1 F_Code_len := hasM_mkF (n := n_Code_len) og1 oC1 ⟨ma7, mf7, k7⟩ F7 b7 sc_Code_len (by decide) ck_Code_len (fun x hx => by
    simp only [n_Code_len, List.mem_cons, List.not_mem_nil, or_false] at hx
    rcases hx with rfl
    · exact y4) (ocls_mk og1 oC1 (all_cons on1_table all_nil)) d_Code_len
  have H8 : HasM ⟨l.prog, w, K, mg, base, []⟩ "Code" "__eq__" 1 F_Code_eq := hasM_mkF (n := n_Code_eq) og1 oC1 ⟨ma8, mf8, k8⟩ F8 b8 sc_Code_eq (by decide) ck_Code_eq (fun x hx => by
    simp only [n_Code_eq, List.mem_cons, List.not_mem_nil, or_false] at hx
    rcases hx with rfl
    · exact y0) ⟨isO_mk og1 oC1 iza1 izb1 izc1 izd1 ize1 izf1, ocls_mk og1 oC1 (all_cons on1_table all_nil)⟩ d_Code_eq
  have H9 : HasM ⟨l.prog, w, K, mg, base, []⟩ "Code" "__str__" 1 F_Code_str := hasM_mkF (n := n_Code_str) og1 oC1 ⟨ma9, mf9, k9⟩ F9 b9 sc_Code_str (by decide) ck_Code_str (fun x hx => by
    simp only [n_Code_str, List.mem_cons, List.not_mem_nil, or_false] at hx
    rcases hx with rfl
    · exact y4) (ocls_mk og1 oC1 (all_cons on1_table all_nil)) d_Code_str
  have H10 : HasM ⟨l.prog, w, K, mg, base, []⟩ "Code" "modes" 1 F_Code_modes := hasM_mkF (n := n_Code_modes) og1 oC1 ⟨ma10, mf10, k10⟩ F10 b10 sc_Code_modes (by decide) ck_Code_modes (fun x hx => by cases hx) (ocls_mk og1 oC1 (all_cons on1_table all_nil)) d_Code_modes
  have H11 : Has ⟨l.prog, w, K, mg, base, []⟩ "step" 1 F_step := has_mk (n := n_step) F11 (PySem.W.mg_of X G a11) b11 sc_step (by decide) ck_step (fun x hx => by
    simp only [n_step, List.mem_cons, List.not_mem_nil, or_false] at hx
    rcases hx with rfl | rfl
    · exact y0
    · exact y3) (ocls_mk og1 oC1 (all_cons on1_table all_nil)) d_step
  have H12 : HasX ⟨l.prog, w, K, mg, base, []⟩ "said" 3 F_said := hasX_mk (n := n_said) F12 (PySem.W.mg_of X G a12) b12 sc_said (by decide) ck_said (fun x hx => by
    simp only [n_said, List.mem_cons, List.not_mem_nil, or_false] at hx
    rcases hx with rfl | rfl
    · exact y8
    · exact y4) ⟨H11, xini_mk g2 O2 ii2 it2 J2 jb2 ⟨rfl, rfl, rfl, by decide +kernel, rfl, by decide +kernel, by decide +kernel⟩ rfl ⟨rfl, rfl⟩ (by decide) ccw2⟩ d_said
  have H13 : HasM ⟨l.prog, w, K, mg, base, []⟩ "Code" "says" 4 F_Code_says := hasM_mkX (n := n_Code_says) og1 oC1 ⟨ma13, mf13, k13⟩ F13 b13 sc_Code_says (by decide) ck_Code_says (fun x hx => by
    simp only [n_Code_says, List.mem_cons, List.not_mem_nil, or_false] at hx
    rcases hx with rfl
    · exact y4) ⟨H7, H5, xcls_mk g3 ccx3 cck3 B3, H12⟩ d_Code_says
  have H14 : HasO ⟨l.prog, w, K, mg, base, []⟩ "_law_town" 1 F_law_town := hasO_mk (n := n_law_town) F14 (PySem.W.mg_of X G a14) b14 sc_law_town (by decide) ck_law_town (fun x hx => by
    simp only [n_law_town, List.mem_cons, List.not_mem_nil, or_false] at hx
    rcases hx with rfl
    · exact y7) trivial d_law_town
  have H15 : Has ⟨l.prog, w, K, mg, base, []⟩ "_law_draw" 1 F_law_draw := has_mk (n := n_law_draw) F15 (PySem.W.mg_of X G a15) b15 sc_law_draw (by decide) ck_law_draw (fun x hx => by
    simp only [n_law_draw, List.mem_cons, List.not_mem_nil, or_false] at hx
    rcases hx with rfl
    · exact y4) trivial d_law_draw
  have H16 : Has ⟨l.prog, w, K, mg, base, []⟩ "_law_pick" 2 F_law_pick := has_mk (n := n_law_pick) F16 (PySem.W.mg_of X G a16) b16 sc_law_pick (by decide) ck_law_pick (fun x hx => by
    simp only [n_law_pick, List.mem_cons, List.not_mem_nil, or_false] at hx
    rcases hx with rfl
    · exact y4) (H15) d_law_pick
  have H17 : Has ⟨l.prog, w, K, mg, base, []⟩ "_law_whole" 1 F_law_whole := has_mk (n := n_law_whole) F17 (PySem.W.mg_of X G a17) b17 sc_law_whole (by decide) ck_law_whole (fun x hx => by
    simp only [n_law_whole, List.mem_cons, List.not_mem_nil, or_false] at hx
    rcases hx with rfl | rfl | rfl
    · exact y0
    · exact y1
    · exact y2) trivial d_law_whole
  have H18 : Has ⟨l.prog, w, K, mg, base, []⟩ "_law_wholes" 2 F_law_wholes := has_mk (n := n_law_wholes) F18 (PySem.W.mg_of X G a18) b18 sc_law_wholes (by decide) ck_law_wholes (fun x hx => by
    simp only [n_law_wholes, List.mem_cons, List.not_mem_nil, or_false] at hx
    rcases hx with rfl | rfl
    · exact y0
    · exact y7) (H17) d_law_wholes
  have H19 : Has ⟨l.prog, w, K, mg, base, []⟩ "_law_word" 1 F_law_word := has_mk (n := n_law_word) F19 (PySem.W.mg_of X G a19) b19 sc_law_word (by decide) ck_law_word (fun x hx => by
    simp only [n_law_word, List.mem_cons, List.not_mem_nil, or_false] at hx
    rcases hx with rfl | rfl
    · exact y0
    · exact y10) ⟨isb_mk (all_cons ⟨_, g1, E1, xr1⟩ (all_cons ⟨_, g3, E3, xr3⟩ (all_cons ⟨_, g2, E2, xr2⟩ all_nil))), isf_mk g2 B2 (all_cons ⟨_, g1, E1, p1_2⟩ (all_cons ⟨_, g3, E3, p3_2⟩ (all_cons ⟨_, g2, E2, p2_2⟩ all_nil))), isf_mk g3 B3 (all_cons ⟨_, g1, E1, p1_3⟩ (all_cons ⟨_, g3, E3, p3_3⟩ (all_cons ⟨_, g2, E2, p2_3⟩ all_nil))), isf_mk g1 B1 (all_cons ⟨_, g1, E1, p1_1⟩ (all_cons ⟨_, g3, E3, p3_1⟩ (all_cons ⟨_, g2, E2, p2_1⟩ all_nil))), isf_mk g4 B4 (all_cons ⟨_, g1, E1, p1_4⟩ (all_cons ⟨_, g3, E3, p3_4⟩ (all_cons ⟨_, g2, E2, p2_4⟩ all_nil))), isf_mk g5 B5 (all_cons ⟨_, g1, E1, p1_5⟩ (all_cons ⟨_, g3, E3, p3_5⟩ (all_cons ⟨_, g2, E2, p2_5⟩ all_nil))), isf_mk g6 B6 (all_cons ⟨_, g1, E1, p1_6⟩ (all_cons ⟨_, g3, E3, p3_6⟩ (all_cons ⟨_, g2, E2, p2_6⟩ all_nil))), isf_mk g7 B7 (all_cons ⟨_, g1, E1, p1_7⟩ (all_cons ⟨_, g3, E3, p3_7⟩ (all_cons ⟨_, g2, E2, p2_7⟩ all_nil))), isf_mk g8 B8 (all_cons ⟨_, g1, E1, p1_8⟩ (all_cons ⟨_, g3, E3, p3_8⟩ (all_cons ⟨_, g2, E2, p2_8⟩ all_nil))), isf_mk g9 B9 (all_cons ⟨_, g1, E1, p1_9⟩ (all_cons ⟨_, g3, E3, p3_9⟩ (all_cons ⟨_, g2, E2, p2_9⟩ all_nil))), isf_mk g10 B10 (all_cons ⟨_, g1, E1, p1_10⟩ (all_cons ⟨_, g3, E3, p3_10⟩ (all_cons ⟨_, g2, E2, p2_10⟩ all_nil))), isf_mk g11 B11 (all_cons ⟨_, g1, E1, p1_11⟩ (all_cons ⟨_, g3, E3, p3_11⟩ (all_cons ⟨_, g2, E2, p2_11⟩ all_nil))), isf_mk g12 B12 (all_cons ⟨_, g1, E1, p1_12⟩ (all_cons ⟨_, g3, E3, p3_12⟩ (all_cons ⟨_, g2, E2, p2_12⟩ all_nil))), isf_mk g13 B13 (all_cons ⟨_, g1, E1, p1_13⟩ (all_cons ⟨_, g3, E3, p3_13⟩ (all_cons ⟨_, g2, E2, p2_13⟩ all_nil)))⟩ d_law_word
  have H20 : Has ⟨l.prog, w, K, mg, base, []⟩ "_law_refused" 1 F_law_refused := has_mk (n := n_law_refused) F20 (PySem.W.mg_of X G a20) b20 sc_law_refused (by decide) ck_law_refused (fun x hx => by cases hx) trivial d_law_refused
  have H21 : Has ⟨l.prog, w, K, mg, base, []⟩ "_law_meaning" 3 F_law_meaning := has_mk (n := n_law_meaning) F21 (PySem.W.mg_of X G a21) b21 sc_law_meaning (by decide) ck_law_meaning (fun x hx => by
    simp only [n_law_meaning, List.mem_cons, List.not_mem_nil, or_false] at hx
    rcases hx with rfl
    · exact y9) ⟨H15, H16⟩ d_law_meaning
  have H22 : Has ⟨l.prog, w, K, mg, base, []⟩ "_law_modes" 4 F_law_modes := has_mk (n := n_law_modes) F22 (PySem.W.mg_of X G a22) b22 sc_law_modes (by decide) ck_law_modes (fun x hx => by
    simp only [n_law_modes, List.mem_cons, List.not_mem_nil, or_false] at hx
    rcases hx with rfl | rfl
    · exact y9
    · exact y6) ⟨H15, H16, H21⟩ d_law_modes
  have H23 : HasX ⟨l.prog, w, K, mg, base, []⟩ "_law_one" 6 F_law_one := hasX_mk (n := n_law_one) F23 (PySem.W.mg_of X G a23) b23 sc_law_one (by decide) ck_law_one (fun x hx => by cases hx) ⟨H6, H13⟩ d_law_one
  have H24 : Has ⟨l.prog, w, K, mg, base, []⟩ "_law_told" 7 F_law_told := has_mk (n := n_law_told) F24 (PySem.W.mg_of X G a24) b24 sc_law_told (by decide) ck_law_told (fun x hx => by cases hx) ⟨H23, exf_mk g14 B14 (all_cons ⟨_, g1, p1_14⟩ (all_cons ⟨_, g3, p3_14⟩ (all_cons ⟨_, g2, p2_14⟩ all_nil))), H19⟩ d_law_told
  have H25 : Has ⟨l.prog, w, K, mg, base, []⟩ "_law_meaning_good" 2 F_law_meaning_good := has_mk (n := n_law_meaning_good) F25 (PySem.W.mg_of X G a25) b25 sc_law_meaning_good (by decide) ck_law_meaning_good (fun x hx => by
    simp only [n_law_meaning_good, List.mem_cons, List.not_mem_nil, or_false] at hx
    rcases hx with rfl | rfl | rfl | rfl
    · exact y0
    · exact y6
    · exact y4
    · exact y3) (H17) d_law_meaning_good
  have H26 : Has ⟨l.prog, w, K, mg, base, []⟩ "_law_good" 3 F_law_good := has_mk (n := n_law_good) F26 (PySem.W.mg_of X G a26) b26 sc_law_good (by decide) ck_law_good (fun x hx => by
    simp only [n_law_good, List.mem_cons, List.not_mem_nil, or_false] at hx
    rcases hx with rfl | rfl | rfl | rfl
    · exact y0
    · exact y6
    · exact y4
    · exact y9) (H25) d_law_good
  have H27 : Has ⟨l.prog, w, K, mg, base, []⟩ "_law_spoilt" 3 F_law_spoilt := has_mk (n := n_law_spoilt) F27 (PySem.W.mg_of X G a27) b27 sc_law_spoilt (by decide) ck_law_spoilt (fun x hx => by
    simp only [n_law_spoilt, List.mem_cons, List.not_mem_nil, or_false] at hx
    rcases hx with rfl | rfl
    · exact y4
    · exact y7) ⟨H15, H16⟩ d_law_spoilt
  exact law_fn (F := F_law) (fn_ok (n := n_law) F28 sc_law (by decide) ck_law (fun x hx => by
    simp only [n_law, List.mem_cons, List.not_mem_nil, or_false] at hx
    rcases hx with rfl | rfl | rfl
    · exact y4
    · exact y3
    · exact y9) ⟨H14, H22, H27, H26, H24, H20, H7, H10, hasE_mk H8 og1 eqa1 eqb1 eqc1 eqd1, H6, H9, H16, H18⟩ d_law) ht
end K01
open PySem PySem.W PyProof.Rows
set_option maxRecDepth 100000 in
set_option maxHeartbeats 0 in
theorem PySem.Challenge.cw_barsets_k01_refused_codes_holds : PySem.Challenge.rw_barsets_k01_refused_codes.Holds := by
  w_on; o_law; k_head; (case hw => w_witness2)
  k_fill
  refine DS.walk_L (l := PySem.Challenge.rw_barsets_k01_refused_codes) (k := 8) ⟨rfl, by decide, by decide⟩ rfl rfl (fun w h Y => PySem.W.kIn_of Y) ?F
  case F =>
    intro w mg fa h KX G hmg
    refine' K01.all_mk KX G hmg ?a1 ?l1 ?c1 ?k1 ?a2 ?l2 ?c2 ?k2 ?a3 ?l3 ?c3 ?k3 ?a4 ?l4 ?c4 ?k4 ?a5 ?l5 ?c5 ?k5 ?l6 ?c6 ?k6 ?l7 ?c7 ?k7 ?l8 ?c8 ?k8 ?l9 ?c9 ?k9 ?l10 ?c10 ?k10 ?a11 ?l11 ?c11 ?k11 ?a12 ?l12 ?c12 ?k12 ?l13 ?c13 ?k13 ?a14 ?l14 ?c14 ?k14 ?a15 ?l15 ?c15 ?k15 ?a16 ?l16 ?c16 ?k16 ?a17 ?l17 ?c17 ?k17 ?a18 ?l18 ?c18 ?k18 ?a19 ?l19 ?c19 ?k19 ?a20 ?l20 ?c20 ?k20 ?a21 ?l21 ?c21 ?k21 ?a22 ?l22 ?c22 ?k22 ?a23 ?l23 ?c23 ?k23 ?a24 ?l24 ?c24 ?k24 ?a25 ?l25 ?c25 ?k25 ?a26 ?l26 ?c26 ?k26 ?a27 ?l27 ?c27 ?k27 ?a28 ?l28 ?c28 ?k28 ?n0 ?z0 ?z1 ?z2 ?z3 ?z4 ?z5 ?z6 ?z7 ?z8 ?z9 ?z10 ?cca1 ?cch1 ?cct1 ?ccs1 ?ccb1 ?ccx1 ?cck1 ?cca2 ?cch2 ?cct2 ?ccs2 ?ccb2 ?cca3 ?cch3 ?cct3 ?ccs3 ?ccb3 ?ccx3 ?cck3 ?cca4 ?cch4 ?cct4 ?ccs4 ?ccb4 ?cca5 ?cch5 ?cct5 ?ccs5 ?ccb5 ?cca6 ?cch6 ?cct6 ?ccs6 ?ccb6 ?cca7 ?cch7 ?cct7 ?ccs7 ?ccb7 ?cca8 ?cch8 ?cct8 ?ccs8 ?ccb8 ?cca9 ?cch9 ?cct9 ?ccs9 ?ccb9 ?cca10 ?cch10 ?cct10 ?ccs10 ?ccb10 ?cca11 ?cch11 ?cct11 ?ccs11 ?ccb11 ?cca12 ?cch12 ?cct12 ?ccs12 ?ccb12 ?cca13 ?cch13 ?cct13 ?ccs13 ?ccb13 ?cca14 ?cch14 ?cct14 ?ccs14 ?ccb14 ?cck2 ?cci2 ?ccv2 ?ccw2 ?ccf2 ?ccz2 ?ii2 ?it2 ?il2 ?ic2 ?ik2 ?oa1 ?op1 ?oh1 ?ov1 ?os1 ?om1 ?ok1 ?eqa1 ?eqb1 ?eqc1 ?eqd1 ?iza1 ?izb1 ?izc1 ?izd1 ?ize1 ?izf1 ?on1_table ?ma6 ?mf6 ?ma7 ?mf7 ?ma8 ?mf8 ?ma9 ?mf9 ?ma10 ?mf10 ?ma13 ?mf13 ?ccn ?ccg ?xg1 ?xk1 ?xa1 ?xm1 ?xr1 ?xg3 ?xk3 ?xa3 ?xm3 ?xr3 ?xg2 ?xk2 ?xa2 ?xm2 ?xr2 ?p1_2 ?p3_2 ?p2_2 ?p1_3 ?p3_3 ?p2_3 ?p1_1 ?p3_1 ?p2_1 ?p1_4 ?p3_4 ?p2_4 ?p1_5 ?p3_5 ?p2_5 ?p1_6 ?p3_6 ?p2_6 ?p1_7 ?p3_7 ?p2_7 ?p1_8 ?p3_8 ?p2_8 ?p1_9 ?p3_9 ?p2_9 ?p1_10 ?p3_10 ?p2_10 ?p1_11 ?p3_11 ?p2_11 ?p1_12 ?p3_12 ?p2_12 ?p1_13 ?p3_13 ?p2_13 ?p1_14 ?p3_14 ?p2_14 K01.law_true
    (case a1 => k_is)
    (case l1 => k_is)
    (case c1 => k_is)
    (case k1 => k_is)
    (case a2 => k_is)
    (case l2 => k_is)
    (case c2 => k_is)
    (case k2 => k_is)
    (case a3 => k_is)
    (case l3 => k_is)
    (case c3 => k_is)
    (case k3 => k_is)
    (case a4 => k_is)
    (case l4 => k_is)
    (case c4 => k_is)
    (case k4 => k_is)
    (case a5 => k_is)
    (case l5 => k_is)
    (case c5 => k_is)
    (case k5 => k_is)
    (case a11 => k_is)
    (case l11 => k_is)
    (case c11 => k_is)
    (case k11 => k_is)
    (case a12 => k_is)
    (case l12 => k_is)
    (case c12 => k_is)
    (case k12 => k_is)
    (case a14 => k_is)
    (case l14 => k_is)
    (case c14 => k_is)
    (case k14 => k_is)
    (case a15 => k_is)
    (case l15 => k_is)
    (case c15 => k_is)
    (case k15 => k_is)
    (case a16 => k_is)
    (case l16 => k_is)
    (case c16 => k_is)
    (case k16 => k_is)
    (case a17 => k_is)
    (case l17 => k_is)
    (case c17 => k_is)
    (case k17 => k_is)
    (case a18 => k_is)
    (case l18 => k_is)
    (case c18 => k_is)
    (case k18 => k_is)
    (case a19 => k_is)
    (case l19 => k_is)
    (case c19 => k_is)
    (case k19 => k_is)
    (case a20 => k_is)
    (case l20 => k_is)
    (case c20 => k_is)
    (case k20 => k_is)
    (case a21 => k_is)
    (case l21 => k_is)
    (case c21 => k_is)
    (case k21 => k_is)
    (case a22 => k_is)
    (case l22 => k_is)
    (case c22 => k_is)
    (case k22 => k_is)
    (case a23 => k_is)
    (case l23 => k_is)
    (case c23 => k_is)
    (case k23 => k_is)
    (case a24 => k_is)
    (case l24 => k_is)
    (case c24 => k_is)
    (case k24 => k_is)
    (case a25 => k_is)
    (case l25 => k_is)
    (case c25 => k_is)
    (case k25 => k_is)
    (case a26 => k_is)
    (case l26 => k_is)
    (case c26 => k_is)
    (case k26 => k_is)
    (case a27 => k_is)
    (case l27 => k_is)
    (case c27 => k_is)
    (case k27 => k_is)
    (case a28 => k_is)
    (case l28 => k_is)
    (case c28 => k_is)
    (case k28 => k_is)
    (case n0 => k_is)
    (case z0 => k_is)
    (case z1 => k_is)
    (case z2 => k_is)
    (case z3 => k_is)
    (case z4 => k_is)
    (case z5 => k_is)
    (case z6 => k_is)
    (case z7 => k_is)
    (case z8 => k_is)
    (case z9 => k_is)
    (case z10 => k_is)
    (case cca1 => k_is)
    (case cch1 => k_is)
    (case cct1 => k_is)
    (case ccs1 => k_is)
    (case ccb1 => k_is)
    (case ccx1 => k_exc)
    (case cck1 => k_is)
    (case cca2 => k_is)
    (case cch2 => k_is)
    (case cct2 => k_is)
    (case ccs2 => k_is)
    (case ccb2 => k_is)
    (case cca3 => k_is)
    (case cch3 => k_is)
    (case cct3 => k_is)
    (case ccs3 => k_is)
    (case ccb3 => k_is)
    (case ccx3 => k_exc)
    (case cck3 => k_is)
    (case cca4 => k_is)
    (case cch4 => k_is)
    (case cct4 => k_is)
    (case ccs4 => k_is)
    (case ccb4 => k_is)
    (case cca5 => k_is)
    (case cch5 => k_is)
    (case cct5 => k_is)
    (case ccs5 => k_is)
    (case ccb5 => k_is)
    (case cca6 => k_is)
    (case cch6 => k_is)
    (case cct6 => k_is)
    (case ccs6 => k_is)
    (case ccb6 => k_is)
    (case cca7 => k_is)
    (case cch7 => k_is)
    (case cct7 => k_is)
    (case ccs7 => k_is)
    (case ccb7 => k_is)
    (case cca8 => k_is)
    (case cch8 => k_is)
    (case cct8 => k_is)
    (case ccs8 => k_is)
    (case ccb8 => k_is)
    (case cca9 => k_is)
    (case cch9 => k_is)
    (case cct9 => k_is)
    (case ccs9 => k_is)
    (case ccb9 => k_is)
    (case cca10 => k_is)
    (case cch10 => k_is)
    (case cct10 => k_is)
    (case ccs10 => k_is)
    (case ccb10 => k_is)
    (case cca11 => k_is)
    (case cch11 => k_is)
    (case cct11 => k_is)
    (case ccs11 => k_is)
    (case ccb11 => k_is)
    (case cca12 => k_is)
    (case cch12 => k_is)
    (case cct12 => k_is)
    (case ccs12 => k_is)
    (case ccb12 => k_is)
    (case cca13 => k_is)
    (case cch13 => k_is)
    (case cct13 => k_is)
    (case ccs13 => k_is)
    (case ccb13 => k_is)
    (case cca14 => k_is)
    (case cch14 => k_is)
    (case cct14 => k_is)
    (case ccs14 => k_is)
    (case ccb14 => k_is)
    (case cck2 => k_is)
    (case cci2 => kx_is)
    (case ccv2 => k_is)
    (case ccw2 => k_is)
    (case ccf2 => k_is)
    (case ccz2 => k_is)
    (case ii2 => k_is)
    (case it2 => k_is)
    (case il2 => k_is)
    (case ic2 => k_is)
    (case ik2 => k_is)
    (case oa1 => k_is)
    (case op1 => k_is)
    (case oh1 => k_is)
    (case ov1 => k_is)
    (case os1 => k_is)
    (case om1 => k_is)
    (case ok1 => k_is)
    (case eqa1 => k_is)
    (case eqb1 => k_is)
    (case eqc1 => k_is)
    (case eqd1 => k_is)
    (case iza1 => k_is)
    (case izb1 => k_is)
    (case izc1 => k_is)
    (case izd1 => k_is)
    (case ize1 => k_is)
    (case izf1 => k_is)
    (case on1_table => k_is)
    (case ma6 => k_is)
    (case mf6 => k_is)
    (case ma7 => k_is)
    (case mf7 => k_is)
    (case ma8 => k_is)
    (case mf8 => k_is)
    (case ma9 => k_is)
    (case mf9 => k_is)
    (case ma10 => k_is)
    (case mf10 => k_is)
    (case ma13 => k_is)
    (case mf13 => k_is)
    (case ccn => k_is)
    (case ccg => k_is)
    (case xg1 => k_is)
    (case xk1 => k_is)
    (case xa1 => k_is)
    (case xm1 => k_is)
    (case xr1 => k_is)
    (case xg3 => k_is)
    (case xk3 => k_is)
    (case xa3 => k_is)
    (case xm3 => k_is)
    (case xr3 => k_is)
    (case xg2 => k_is)
    (case xk2 => k_is)
    (case xa2 => k_is)
    (case xm2 => k_is)
    (case xr2 => k_is)
    (case p1_2 => k_is)
    (case p3_2 => k_is)
    (case p2_2 => k_is)
    (case p1_3 => k_is)
    (case p3_3 => k_is)
    (case p2_3 => k_is)
    (case p1_1 => k_is)
    (case p3_1 => k_is)
    (case p2_1 => k_is)
    (case p1_4 => k_is)
    (case p3_4 => k_is)
    (case p2_4 => k_is)
    (case p1_5 => k_is)
    (case p3_5 => k_is)
    (case p2_5 => k_is)
    (case p1_6 => k_is)
    (case p3_6 => k_is)
    (case p2_6 => k_is)
    (case p1_7 => k_is)
    (case p3_7 => k_is)
    (case p2_7 => k_is)
    (case p1_8 => k_is)
    (case p3_8 => k_is)
    (case p2_8 => k_is)
    (case p1_9 => k_is)
    (case p3_9 => k_is)
    (case p2_9 => k_is)
    (case p1_10 => k_is)
    (case p3_10 => k_is)
    (case p2_10 => k_is)
    (case p1_11 => k_is)
    (case p3_11 => k_is)
    (case p2_11 => k_is)
    (case p1_12 => k_is)
    (case p3_12 => k_is)
    (case p2_12 => k_is)
    (case p1_13 => k_is)
    (case p3_13 => k_is)
    (case p2_13 => k_is)
    (case p1_14 => k_is)
    (case p3_14 => k_is)
    (case p2_14 => k_is)
    (case l6 => k_is)
    (case c6 => k_is)
    (case k6 => k_is)
    (case l7 => k_is)
    (case c7 => k_is)
    (case k7 => k_is)
    (case l8 => k_is)
    (case c8 => k_is)
    (case k8 => k_is)
    (case l9 => k_is)
    (case c9 => k_is)
    (case k9 => k_is)
    (case l10 => k_is)
    (case c10 => k_is)
    (case k10 => k_is)
    (case l13 => k_is)
    (case c13 => k_is)
    (case k13 => k_is)
